import PyProof.Rows.All
import Wide.All
import OpenK.AllK
import Wide.FinOn
import HandS.Base
import HandS.Call
import HandS.Words
import HandS.EndTab
import KE.KNestM
import KE.KStateDown
import HandS.Head0
import HandS.Head1
import HandS.Head2
import HandS.HeadHook1
import HandS.HeadHook2
import HandS.HeadHook3
import HandS.HeadHook4
import HandS.HeadWalk
import KE.KExcLine
import KE.KExcIs
import HandS.ForMost
import HandS.ForExc
import HandS.IsInst
import HandS.Walk
import HandS.Star
import HandS.TryMany
import HandS.Lambda
import HandS.Flow
import HandS.Deep
import KE.DataEq
import HandS.TupAny
import HandS.StrMore
import HandS.WordsDict
import HandS.Style
import HandS.ExcCtx
import HandS.SuiteRaise
import HandS.RaiseFrom
import HandS.Defaults
import HandS.CallSlots
import HandS.Zip
import HandS.Conv
import HandS.Property
import HandS.MakeKw
import HandS.ClsMeth
import HandS.MethStar
import PyProof.InstNe
import HandS.SetTxt0
import HandS.Set
import HandS.SetFor
import HandS.Strs
import PyProof.Rows.SortShellAny
import KE.GoesEnum
import HandS.Dict
import HandS.DictTup
import HandS.ExcInit
import KE.KExcSuper
import KE.KExcInit
import KE.KExcMake
import PyProof.ExcBaseAll.ValueError
import PyProof.ExcBaseAll.LookupError
import PyProof.ExcBaseAll.IndexError
import KE.KSuper
import HandS.HotCalls
import HandS.ExcField
import HandS.Text
import HandS.FStr
import KE.KDflt
import HandS.TupSets
import KE.KSortTupG
import HandS.More
import HandS.DictComp
import HandS.DeepEq
import KE.KDictZip
import KE.KOpsOwn
import HandS.ListItems
import HandS.Codes
import HandS.Exc
import PySem.Challenge.RW_plainsure_k01_errors_by_themselves
set_option Elab.async false
set_option linter.all false
set_option maxRecDepth 100000
set_option maxHeartbeats 4000000
namespace PD
end PD
namespace PF
open PySem PySem.Spec PyProof.Rows L2
def tabOfLaw (K : PySem.W.Frag) : Addr × Addr := (PySem.W.tabIn K "law").getD (0, 0)
end PF
namespace HP
open PySem PySem.Spec PyProof.Rows L2 PD PF
abbrev Fr := PySem.W.Frag
theorem ba {a b : Bool} (h : (a && b) = true) : a = true ∧ b = true := Bool.and_eq_true_iff.mp h
def refsP (ns : List Str) (o : Obj) : List Addr := match o.data with
  | .seq its _ => its.toList.flatMap He.refV
  | .dict es _ => es.toList.flatMap fun e => match e.key with
    | .str x _ => (match ns.any fun y => decide (y = x) with
      | true => He.refV e.val
      | false => [])
    | _ => []
  | .func fd => He.refV fd.code ++ He.refV fd.defaults ++ He.refV fd.kwdefaults ++ fd.closure.map (·.2)
  | .cls cd => cd.ns :: cd.mro.flatMap He.refV
  | .cell (some v) => He.refV v
  | .fields vs => match o.cls with
    | .type c => (match decide (c = "property") || decide (c = "staticmethod") with
      | true => vs.toList.flatMap He.refV
      | false => [])
    | _ => []
  | _ => []
inductive Bits where
  | nil | node (b : Bool) (l r : Bits)
def Bits.has : Bits → Nat → Bool
  | .nil, _ => false
  | .node b l r, i => match Nat.beq i 0 with
    | true => b
    | false => match Nat.beq (i % 2) 1 with
      | true => l.has (i / 2)
      | false => r.has (i / 2 - 1)
def Bits.put : Nat → Bits → Nat → Bits
  | 0, t, _ => t
  | n + 1, t, i => match t with
    | .nil => (match Nat.beq i 0 with
      | true => .node true .nil .nil
      | false => match Nat.beq (i % 2) 1 with
        | true => .node false (Bits.put n .nil (i / 2)) .nil
        | false => .node false .nil (Bits.put n .nil (i / 2 - 1)))
    | .node b l r => (match Nat.beq i 0 with
      | true => .node true l r
      | false => match Nat.beq (i % 2) 1 with
        | true => .node b (Bits.put n l (i / 2)) r
        | false => .node b l (Bits.put n r (i / 2 - 1)))
def reach (ns : List Str) (g : Addr → Option Obj) : Nat → List Addr → Bits → List Addr → List Addr
  | 0, _, _, acc => acc
  | n + 1, as, t, acc => match as with
    | [] => acc
    | a :: r => match t.has a with
      | true => reach ns g n r t acc
      | false => match g a with
        | some o => reach ns g n (refsP ns o ++ r) (Bits.put 64 t a) (a :: acc)
        | none => reach ns g n r t acc
def asP (ns : List Str) (g : Addr → Option Obj) : List Addr := (reach ns g 20000 [mainGlobals, cStatics] .nil []).reverse
def frP (ns : List Str) (g : Addr → Option Obj) : Fr := He.frT g (asP ns g)
def ga (K : Fr) (x : Str) : Addr := match PySem.W.nsIn K mainGlobals x with
  | some (some (.ref a)) => a
  | _ => 0
def ma (K : Fr) (C : Addr) (m : Str) : Addr := match PySem.W.findIn K (.ref C) m with
  | some (some (.ref a)) => a
  | _ => 0
def fdA (K : Fr) (f : Addr) : FuncData := match K.lookup f with
  | some ⟨_, _, .func fd, _⟩ => fd
  | _ => default
def vA : Value → Addr
  | .ref a => a
  | _ => 0
def cdA (K : Fr) (f : Addr) : Addr := vA (fdA K f).code
def clA (K : Fr) (f : Addr) : Addr := match (fdA K f).closure with
  | [(_, a)] => a
  | _ => 0
def isRef : Value → Bool
  | .ref _ => true
  | _ => false
def isNone : Value → Bool
  | .none => true
  | _ => false
theorem isRef_ok {v : Value} (h : isRef v = true) : v = .ref (vA v) := by cases v <;> first | rfl | cases h
theorem isNone_ok {v : Value} (h : isNone v = true) : v = .none := by cases v <;> first | rfl | cases h
def eqO (a b : Option (Option Value)) : Bool := decide (a = b)
theorem eqO_ok {a b : Option (Option Value)} (h : eqO a b = true) : a = b := of_decide_eq_true h
def eqV (a b : Option Value) : Bool := decide (a = b)
theorem eqV_ok {a b : Option Value} (h : eqV a b = true) : a = b := of_decide_eq_true h
def eqB (a : Option Bool) (b : Bool) : Bool := match a with
  | some c => c == b
  | none => false
theorem eqB_ok {a : Option Bool} {b : Bool} (h : eqB a b = true) : a = some b := by
  cases a with
  | none => cases h
  | some c => exact congrArg some (beq_iff_eq.mp h)
def cellB (K : Fr) (l c : Addr) : Bool := match K.lookup l with
  | some ⟨_, _, .cell (some (.ref a)), _⟩ => a == c
  | _ => false
theorem cellB_ok {K : Fr} {l c : Addr} (h : cellB K l c = true) : ∃ o d s, K.lookup l = some ⟨o, d, .cell (some (.ref c)), s⟩ := by
  unfold cellB at h
  split at h
  · rename_i e
    rw [e, beq_iff_eq.mp h]
    exact ⟨_, _, _, rfl⟩
  · cases h
def fileB (K : Fr) (c : Addr) (x : Str) : Bool := match K.lookup c with
  | some ⟨_, _, .fields vs, _⟩ => (match (vs[2]? : Option Value) with
    | some (.str f _) => x == f
    | _ => false)
  | _ => false
theorem fileB_ok {K : Fr} {c : Addr} {x : Str} (h : fileB K c x = true) : ∃ (o : Value) (d : Option Addr) (vs : Array Value) (s : Array (Option Value)) (f : Str) (t : Tok), K.lookup c = some ⟨o, d, .fields vs, s⟩ ∧ (vs[2]? : Option Value) = some (.str f t) ∧ (x == f) = true := by
  unfold fileB at h
  split at h
  · rename_i e
    split at h
    · rename_i e2
      exact ⟨_, _, _, _, _, _, e, e2, h⟩
    · cases h
  · cases h
inductive Pt where
  | non | bl (b : Bool) | int (i : Int) | str (x : Str) | ref (f : Fr → Addr)
def Pt.is (K : Fr) : Pt → Value → Bool
  | .non, .none => true
  | .bl b, .bool c => c == b
  | .int i, .int j _ => decide (j = i)
  | .str x, .str y _ => decide (y = x)
  | .ref f, .ref a => a == f K
  | _, _ => false
def Pt.E (K : Fr) : Pt → Value → Prop
  | .non, v => v = .none
  | .bl b, v => v = .bool b
  | .int i, v => ∃ t, v = .int i t
  | .str x, v => ∃ t, v = .str x t
  | .ref f, v => v = .ref (f K)
theorem Pt.ok {K : Fr} {p : Pt} {v : Value} (h : p.is K v = true) : p.E K v := by
  cases p <;> cases v <;> first | (cases h; done) | skip
  · rfl
  · exact congrArg Value.bool (beq_iff_eq.mp h)
  · exact ⟨_, by rw [of_decide_eq_true h]⟩
  · exact ⟨_, by rw [of_decide_eq_true h]⟩
  · exact congrArg Value.ref (beq_iff_eq.mp h)
abbrev FnW : Type := Option (Str × Str × Arguments × FuncBody × Scope × Addr × Addr)
def fnO (K : Fr) (a : Addr) : FnW := match K.lookup a with
  | some ⟨_, _, .func fd, _⟩ => some (fd.name, fd.qualname, fd.params, fd.body, fd.scope, fd.globals, fd.builtins)
  | _ => none
structure DfP where
  at_ : Fr → Addr
  name : Str
  qual : Str
  st : Stmt
def DfP.val (d : DfP) : FnW := some (d.name, d.qual, defArgs d.st, .stmts (defBody d.st), defScope d.st, mainGlobals, builtinsNs)
theorem z_ok {K : Fr} (h : (K.lookup 0).isNone = true) : K.lookup 0 = none := Option.isNone_iff_eq_none.mp h
def fnB (K : Fr) (f : Addr) (q : Str) : Bool := (fdA K f).closure.isEmpty && PySem.W.codeIn K (fdA K f).code q
theorem fn_at {K : Fr} {f : Addr} {name qual : Str} {st : Stmt} (e : fnO K f = some (name, qual, defArgs st, .stmts (defBody st), defScope st, mainGlobals, builtinsNs)) (h : fnB K f qual = true) :
    ∃ oc od dc pm an cd ct sl, K.lookup f = some ⟨oc, od, .func (PySem.W.fnOf name qual (defArgs st) (defBody st) (defScope st) (fdA K f).defaults (fdA K f).kwdefaults dc pm an cd ct), sl⟩ ∧ PySem.W.codeIn K cd qual = true := by
  unfold fnO at e
  unfold fnB fdA at h
  unfold fdA
  cases q : K.lookup f with
  | none =>
    rw [q] at e
    cases e
  | some o =>
    obtain ⟨oc, od, dt, osl⟩ := o
    rw [q] at e h
    cases dt with
    | func fd =>
      obtain ⟨n1, n2, n3, n4, n5, n6, n7, n8, n9, n10, n11, n12, n13, n14, n15⟩ := fd
      have e2 : (some (n1, n2, n3, n4, n5, n6, n15) : FnW) = some (name, qual, defArgs st, .stmts (defBody st), defScope st, mainGlobals, builtinsNs) := e
      simp only [Option.some.injEq, Prod.mk.injEq] at e2
      obtain ⟨h1, h2, h3, h4, h5, h6, h9⟩ := e2
      obtain ⟨g1, g2⟩ := ba h
      have h7 : n7 = [] := List.isEmpty_iff.mp g1
      subst h1 h2 h3 h4 h5 h6 h7 h9
      exact ⟨oc, od, n10, n11, n12, n13, n14, osl, rfl, g2⟩
    | _ => cases e
def fnxB (K : Fr) (f : Addr) : Bool := (match (fdA K f).closure with
  | [(x, _)] => decide (x = "__class__")
  | _ => false) && (isNone (fdA K f).defaults && isRef (fdA K f).code)
theorem fnx_at {K : Fr} {f : Addr} {name qual : Str} {st : Stmt} (e : fnO K f = some (name, qual, defArgs st, .stmts (defBody st), defScope st, mainGlobals, builtinsNs)) (h : fnxB K f = true) :
    ∃ oc od kV dc pm an ct sl, K.lookup f = some ⟨oc, od, .func (PySem.W.fnX name qual (defArgs st) (defBody st) (defScope st) [("__class__", clA K f)] .none kV dc pm an (.ref (cdA K f)) ct), sl⟩ := by
  unfold fnO at e
  unfold fnxB fdA at h
  unfold clA cdA fdA
  cases q : K.lookup f with
  | none =>
    rw [q] at e
    cases e
  | some o =>
    obtain ⟨oc, od, dt, osl⟩ := o
    rw [q] at e h
    cases dt with
    | func fd =>
      obtain ⟨n1, n2, n3, n4, n5, n6, n7, n8, n9, n10, n11, n12, n13, n14, n15⟩ := fd
      have e2 : (some (n1, n2, n3, n4, n5, n6, n15) : FnW) = some (name, qual, defArgs st, .stmts (defBody st), defScope st, mainGlobals, builtinsNs) := e
      simp only [Option.some.injEq, Prod.mk.injEq] at e2
      obtain ⟨h1, h2, h3, h4, h5, h6, h9⟩ := e2
      obtain ⟨g1, g2⟩ := ba h
      obtain ⟨g2, g3⟩ := ba g2
      have h8 : n8 = .none := isNone_ok g2
      have h13 : n13 = .ref (vA n13) := isRef_ok g3
      rcases n7 with _ | ⟨⟨x, a⟩, _ | ⟨y, r⟩⟩
      · cases g1
      · have hx : x = "__class__" := of_decide_eq_true g1
        subst h1 h2 h3 h4 h5 h6 h8 h9 hx
        refine ⟨oc, od, n9, n10, n11, n12, n14, osl, ?_⟩
        dsimp only
        rw [← h13]
      · cases g1
    | _ => cases e
def tabB (g : Addr → Option Obj) (K : Fr) : Bool := PySem.W.codeHdIn K (tabOfLaw K).1 (tabOfLaw K).2 && (match g (tabOfLaw K).2 with
  | some o => He.emptyTab o
  | none => false)
abbrev AlP : Type := List FnW × Bool
def obsP (ns : List Str) (fn : List DfP) (ex : List (Fr → Bool)) (g : Addr → Option Obj) : AlP := (fn.map fun d => fnO (frP ns g) (d.at_ (frP ns g)), (ex.all fun f => f (frP ns g)) && tabB g (frP ns g))
def valP (fn : List DfP) : AlP := (fn.map DfP.val, true)
structure SaysP (fn : List DfP) (ex : List (Fr → Bool)) (h : Heap) (K : Fr) : Prop where
  fns : (fn.map fun d => fnO K (d.at_ K)) = fn.map DfP.val
  more : (ex.all fun f => f K) = true
  hd : PySem.W.codeHdIn K (tabOfLaw K).1 (tabOfLaw K).2 = true
  out : K.lookup (tabOfLaw K).2 = none
  empty : h.get? (tabOfLaw K).2 = some (PySem.W.tabObj #[])
theorem saysP_of {ns : List Str} {fn : List DfP} {ex : List (Fr → Bool)} {h : Heap} (e : obsP ns fn ex h.get? = valP fn) : SaysP fn ex h (frP ns h.get?) := by
  have e1 : (fn.map fun d => fnO (frP ns h.get?) (d.at_ (frP ns h.get?))) = fn.map DfP.val := congrArg (fun z : AlP => z.1) e
  have e2 : ((ex.all fun f => f (frP ns h.get?)) && tabB h.get? (frP ns h.get?)) = true := congrArg (fun z : AlP => z.2) e
  obtain ⟨h1, h2⟩ := ba e2
  obtain ⟨h3, h4⟩ := ba h2
  cases q : h.get? (tabOfLaw (frP ns h.get?)).2 with
  | none =>
    rw [q] at h4
    cases h4
  | some o =>
    rw [q] at h4
    have h4 : He.emptyTab o = true := h4
    refine ⟨e1, h1, h3, He.frT_none q h4, ?_⟩
    rw [q, He.emptyTab_eq h4]
def hookP (ns : List Str) (fn : List DfP) (ex : List (Fr → Bool)) : PySem.W.Hook where
  α := AlP
  obs := fun s => obsP ns fn ex s.heap.get?
  val := fun _ => valP fn
  says := fun _ h => ∃ K : Fr, K.In h ∧ SaysP fn ex h K
  of := fun _ _ e => ⟨_, He.frT_in, saysP_of e⟩
  keeps := fun _ _ _ ⟨K, hK, c⟩ k => ⟨K, PySem.W.Frag.In.keeps hK k, ⟨c.fns, c.more, c.hd, c.out, k _ _ c.empty⟩⟩
theorem obsP_eq {ns : List Str} {fn : List DfP} {ex : List (Fr → Bool)} {g : Addr → Option Obj} {s : Shared} (h : ∀ a, g a = s.heap.get? a) : obsP ns fn ex g = (hookP ns fn ex).obs s := by
  have e : g = s.heap.get? := funext h
  rw [e] <;> rfl
section
variable {fn : List DfP} {ex : List (Fr → Bool)} {K : Fr} {h : Heap}
theorem SaysP.at (c : SaysP fn ex h K) (i : Nat) {f : Fr → Bool} (e : ex[i]? = some f) : f K = true := List.all_eq_true.mp c.more f (List.mem_of_getElem? e)
theorem SaysP.def_ (c : SaysP fn ex h K) (i : Nat) {d : DfP} (e : fn[i]? = some d) : fnO K (d.at_ K) = d.val := by
  have e2 : (fn.map fun d => fnO K (d.at_ K))[i]? = (fn.map DfP.val)[i]? := by rw [c.fns]
  rw [List.getElem?_map, List.getElem?_map, e] at e2
  exact Option.some.inj e2
theorem SaysP.tabs (c : SaysP fn ex h K) : ∀ P ∈ [(tabOfLaw K).2], h.get? P = some (PySem.W.tabObj #[]) := fun P hP => by
  rw [List.mem_singleton.mp hP]
  exact c.empty
end
theorem tab_of {K : Fr} {f : Addr} {o : Value} {d : Option Addr} {fd : FuncData} {s : Array (Option Value)} (h1 : PySem.W.nsIn K mainGlobals "law" = some (some (.ref f))) (h2 : K.lookup f = some ⟨o, d, .func fd, s⟩) (h3 : PySem.W.codeHdIn K (tabOfLaw K).1 (tabOfLaw K).2 = true) (hz : K.lookup 0 = none) : fd.code = .ref (tabOfLaw K).1 := by
  unfold tabOfLaw PySem.W.tabIn at h3 ⊢
  rw [h1] at h3 ⊢
  dsimp only at h3 ⊢
  rw [h2] at h3 ⊢
  dsimp only at h3 ⊢
  have bad : ∀ P, PySem.W.codeHdIn K 0 P = true → False := fun P z => by
    unfold PySem.W.codeHdIn at z
    rw [hz] at z
    cases z
  cases hc : fd.code with
  | ref c =>
    rw [hc] at h3
    dsimp only at h3 ⊢
    cases hl : K.lookup c with
    | none =>
      rw [hl] at h3
      exact (bad _ h3).elim
    | some o2 =>
      obtain ⟨oc, od, dt, osl⟩ := o2
      rw [hl] at h3
      cases dt with
      | fields vs =>
        dsimp only at h3 ⊢
        cases hv : (vs[11]? : Option Value) with
        | none =>
          rw [hv] at h3
          exact (bad _ h3).elim
        | some v =>
          rw [hv] at h3
          cases v with
          | ref P => rfl
          | _ => exact (bad _ h3).elim
      | _ => exact (bad _ h3).elim
  | _ =>
    rw [hc] at h3
    exact (bad _ h3).elim
section
open PySem.W PySem.Calls
def RunA (r : OpenRow) (q : Program) (ns : List Str) (fn : List DfP) (M : Nat) (loose : List Str) (w : World) : Prop :=
  ∀ os : OsState, (HandSHeadRun.endF (HandSHeadRun.stepQ (HandSHeadRun.denQ HandSHeadRun.tabQ) r.prog w) M r.prog w os).map (fun s => ((HandSHeadRun.looksF r.prog (boot_heap w.params) s.abs, HandSHeadRun.seenQ q loose (importedModules r.prog.main.body) (fun s => PySem.W.xlAt q [] s && PySem.W.recOk r.toRowW.records s) s.abs), fn.map fun d => fnO (frP ns (HandSHeadRun.getT s)) (d.at_ (frP ns (HandSHeadRun.getT s))))) = some ((true, PySem.W.openGood q loose), fn.map DfP.val)
def RunB (r : OpenRow) (ns : List Str) (xs : List (Fr → Bool)) (M : Nat) (w : World) : Prop :=
  ∀ os : OsState, (HandSHeadRun.endF (HandSHeadRun.stepQ (HandSHeadRun.denQ HandSHeadRun.tabQ) r.prog w) M r.prog w os).map (fun s => xs.all fun f => f (frP ns (HandSHeadRun.getT s))) = some true
def RunC (r : OpenRow) (ns : List Str) (xs : List (Fr → Bool)) (M : Nat) (w : World) : Prop :=
  ∀ os : OsState, (HandSHeadRun.endF (HandSHeadRun.stepQ (HandSHeadRun.denQ HandSHeadRun.tabQ) r.prog w) M r.prog w os).map (fun s => (xs.all fun f => f (frP ns (HandSHeadRun.getT s))) && tabB (HandSHeadRun.getT s) (frP ns (HandSHeadRun.getT s))) = some true
theorem run_of {r : OpenRow} {q : Program} {ns : List Str} {fn : List DfP} {x0 x1 : List (Fr → Bool)} {M : Nat} {loose : List Str} {w : World}
    (h0 : RunA r q ns fn M loose w) (h1 : RunB r ns x0 M w) (h2 : RunC r ns x1 M w) :
    HandSHeadRun.RunEq r q (hookP ns fn (x0 ++ x1)) (fun s => obsP ns fn (x0 ++ x1) (HandSHeadRun.getT s)) M loose w := by
  intro os
  have a0 := h0 os
  have a1 := h1 os
  have a2 := h2 os
  clear h0 h1 h2
  generalize HandSHeadRun.endF (HandSHeadRun.stepQ (HandSHeadRun.denQ HandSHeadRun.tabQ) r.prog w) M r.prog w os = e at *
  cases e with
  | none => cases a0
  | some s =>
    rw [Option.map_some] at a0 a1 a2 ⊢
    have b0 := Option.some.inj a0
    have b1 := Option.some.inj a1
    have b2 := Option.some.inj a2
    have c1 := congrArg (fun z => z.1.1) b0
    have c2 := congrArg (fun z => z.1.2) b0
    have c3 := congrArg (fun z => z.2) b0
    dsimp only at c1 c2 c3 b1 b2
    obtain ⟨d1, d2⟩ := ba b2
    have e3 : obsP ns fn (x0 ++ x1) (HandSHeadRun.getT s) = valP fn := by
      unfold obsP valP
      rw [c3, List.all_append, b1, d1, d2]
      rfl
    rw [c1, c2]
    exact congrArg (fun z => some (true, openGood q loose, z)) e3
end
end HP
namespace HP
open PySem PySem.Spec PyProof.Rows L2 PD PF
def esB (K : Fr) (C : Addr) : Bool := eqO (PySem.W.findIn K (.ref C) "__getattribute__") (some (some (.builtin "BaseException.__getattribute__"))) && (eqO (PySem.W.findIn K (.ref C) "__getattr__") (some none) && (eqB (PySem.W.subIn K (.ref C) (.type "BaseException")) true && (PySem.W.hasDictIn K C && ((PySem.W.clsIn K C).isSome &&
  (eqO (PySem.W.findIn K (.ref C) "__class__") (some (some (.builtin "object.__class__"))) && (eqO (PySem.W.specialIn K (.builtin "object.__class__") "__get__") (some (some (.builtin "getset_descriptor.__get__"))) && (eqB (PySem.W.takesIn K (.builtin "object.__class__")) true && eqB (PySem.W.mroIn K C (.type "object")) true)))))))
def esL (K : Fr) (cs : List Addr) : Bool := cs.all (esB K)
def kiL (K : Fr) (u : Value) (ps : List (Addr × Bool)) : Bool := ps.all fun p => eqB (PySem.W.kitOne K (.ref p.1) u) p.2
end HP
namespace K01
open PySem PySem.Spec PyProof.Rows L2
def topS (i : Nat) : Stmt := PySem.Challenge.pw_plainsure_k01_errors_by_themselves.main.body.getD i (.Pass ⟨0, 0, 0, 0⟩)
abbrev s__law_bag : Stmt := topS 30
abbrev s__law_draw : Stmt := topS 31
abbrev s__law_of : Stmt := topS 32
abbrev s__law_errors : Stmt := topS 36
abbrev s__law_codes : Stmt := topS 35
abbrev s__law_same : Stmt := topS 33
abbrev s__law_field : Stmt := topS 34
abbrev s__law_classes : Stmt := topS 38
abbrev s__law_named_errors : Stmt := topS 37
abbrev s_law : Stmt := topS 39
abbrev s_InvalidName___init__ : Stmt := inClass (topS 3) 0
abbrev s_InvalidScheme___init__ : Stmt := inClass (topS 4) 0
abbrev s_InvalidRow___init__ : Stmt := inClass (topS 5) 0
abbrev s_InvalidLoose___init__ : Stmt := inClass (topS 6) 0
abbrev s_InvalidVariables___init__ : Stmt := inClass (topS 7) 0
abbrev s_InvalidPart___init__ : Stmt := inClass (topS 8) 0
abbrev s_InvalidFormula___init__ : Stmt := inClass (topS 9) 0
abbrev s_InvalidColumns___init__ : Stmt := inClass (topS 10) 0
abbrev s_InvalidAnswer___init__ : Stmt := inClass (topS 11) 0
abbrev s_InvalidTruths___init__ : Stmt := inClass (topS 12) 0
abbrev s_InvalidFilling___init__ : Stmt := inClass (topS 13) 0
abbrev s_InvalidMeaning___init__ : Stmt := inClass (topS 14) 0
abbrev s_InvalidText___init__ : Stmt := inClass (topS 15) 0
abbrev s_InvalidCommand___init__ : Stmt := inClass (topS 16) 0
abbrev s_InvalidLimit___init__ : Stmt := inClass (topS 17) 0
abbrev s_InvalidPage___init__ : Stmt := inClass (topS 18) 0
abbrev s_OtherScheme___init__ : Stmt := inClass (topS 19) 0
abbrev s_OtherColumns___init__ : Stmt := inClass (topS 20) 0
abbrev s_HasColumns___init__ : Stmt := inClass (topS 21) 0
abbrev s_NotSafe___init__ : Stmt := inClass (topS 22) 0
abbrev s_TooMany___init__ : Stmt := inClass (topS 23) 0
abbrev s_Full___init__ : Stmt := inClass (topS 24) 0
abbrev s_UnknownName___init__ : Stmt := inClass (topS 25) 0
abbrev s_UnknownRow___init__ : Stmt := inClass (topS 26) 0
abbrev s_UnknownValue___init__ : Stmt := inClass (topS 27) 0
abbrev s_NothingLeft___init__ : Stmt := inClass (topS 28) 0
end K01
namespace HE
open PySem PySem.W PySem.Calls PyProof.Rows
abbrev R : OpenRow := OpenLaw.row PySem.Challenge.rw_plainsure_k01_errors_by_themselves
abbrev qv : Program := view R.prog [39]
def n0 : List PySem.Str := ["SureError", "Missing", "InvalidName", "InvalidScheme", "InvalidRow", "InvalidLoose", "InvalidVariables", "InvalidPart", "InvalidFormula", "InvalidColumns", "InvalidAnswer", "InvalidTruths", "InvalidFilling", "InvalidMeaning", "InvalidText", "InvalidCommand", "InvalidLimit", "InvalidPage", "OtherScheme", "OtherColumns", "HasColumns", "NotSafe", "TooMany", "Full", "UnknownName", "UnknownRow", "UnknownValue", "NothingLeft", "_law_bag", "_law_draw"]
def n1 : List PySem.Str := ["_law_of", "_law_same", "_law_field", "_law_codes", "_law_errors", "_law_named_errors", "_law_classes"]
def names : List PySem.Str := n0 ++ n1
def d0 : HP.DfP := ⟨fun K => (HP.ga K "_law_bag"), "_law_bag", "_law_bag", K01.s__law_bag⟩
def d1 : HP.DfP := ⟨fun K => (HP.ga K "_law_draw"), "_law_draw", "_law_draw", K01.s__law_draw⟩
def d2 : HP.DfP := ⟨fun K => (HP.ga K "_law_of"), "_law_of", "_law_of", K01.s__law_of⟩
def d3 : HP.DfP := ⟨fun K => (HP.ga K "_law_errors"), "_law_errors", "_law_errors", K01.s__law_errors⟩
def d4 : HP.DfP := ⟨fun K => (HP.ga K "_law_codes"), "_law_codes", "_law_codes", K01.s__law_codes⟩
def d5 : HP.DfP := ⟨fun K => (HP.ga K "_law_same"), "_law_same", "_law_same", K01.s__law_same⟩
def d6 : HP.DfP := ⟨fun K => (HP.ga K "_law_field"), "_law_field", "_law_field", K01.s__law_field⟩
def d7 : HP.DfP := ⟨fun K => (HP.ga K "_law_classes"), "_law_classes", "_law_classes", K01.s__law_classes⟩
def d8 : HP.DfP := ⟨fun K => (HP.ga K "_law_named_errors"), "_law_named_errors", "_law_named_errors", K01.s__law_named_errors⟩
def d9 : HP.DfP := ⟨fun K => (HP.ga K "law"), "law", "law", K01.s_law⟩
def d10 : HP.DfP := ⟨fun K => (HP.ma K (HP.ga K "InvalidName") "__init__"), "__init__", "InvalidName.__init__", K01.s_InvalidName___init__⟩
def d11 : HP.DfP := ⟨fun K => (HP.ma K (HP.ga K "InvalidScheme") "__init__"), "__init__", "InvalidScheme.__init__", K01.s_InvalidScheme___init__⟩
def d12 : HP.DfP := ⟨fun K => (HP.ma K (HP.ga K "InvalidRow") "__init__"), "__init__", "InvalidRow.__init__", K01.s_InvalidRow___init__⟩
def d13 : HP.DfP := ⟨fun K => (HP.ma K (HP.ga K "InvalidLoose") "__init__"), "__init__", "InvalidLoose.__init__", K01.s_InvalidLoose___init__⟩
def d14 : HP.DfP := ⟨fun K => (HP.ma K (HP.ga K "InvalidVariables") "__init__"), "__init__", "InvalidVariables.__init__", K01.s_InvalidVariables___init__⟩
def d15 : HP.DfP := ⟨fun K => (HP.ma K (HP.ga K "InvalidPart") "__init__"), "__init__", "InvalidPart.__init__", K01.s_InvalidPart___init__⟩
def d16 : HP.DfP := ⟨fun K => (HP.ma K (HP.ga K "InvalidFormula") "__init__"), "__init__", "InvalidFormula.__init__", K01.s_InvalidFormula___init__⟩
def d17 : HP.DfP := ⟨fun K => (HP.ma K (HP.ga K "InvalidColumns") "__init__"), "__init__", "InvalidColumns.__init__", K01.s_InvalidColumns___init__⟩
def d18 : HP.DfP := ⟨fun K => (HP.ma K (HP.ga K "InvalidAnswer") "__init__"), "__init__", "InvalidAnswer.__init__", K01.s_InvalidAnswer___init__⟩
def d19 : HP.DfP := ⟨fun K => (HP.ma K (HP.ga K "InvalidTruths") "__init__"), "__init__", "InvalidTruths.__init__", K01.s_InvalidTruths___init__⟩
def d20 : HP.DfP := ⟨fun K => (HP.ma K (HP.ga K "InvalidFilling") "__init__"), "__init__", "InvalidFilling.__init__", K01.s_InvalidFilling___init__⟩
def d21 : HP.DfP := ⟨fun K => (HP.ma K (HP.ga K "InvalidMeaning") "__init__"), "__init__", "InvalidMeaning.__init__", K01.s_InvalidMeaning___init__⟩
def d22 : HP.DfP := ⟨fun K => (HP.ma K (HP.ga K "InvalidText") "__init__"), "__init__", "InvalidText.__init__", K01.s_InvalidText___init__⟩
def d23 : HP.DfP := ⟨fun K => (HP.ma K (HP.ga K "InvalidCommand") "__init__"), "__init__", "InvalidCommand.__init__", K01.s_InvalidCommand___init__⟩
def d24 : HP.DfP := ⟨fun K => (HP.ma K (HP.ga K "InvalidLimit") "__init__"), "__init__", "InvalidLimit.__init__", K01.s_InvalidLimit___init__⟩
def d25 : HP.DfP := ⟨fun K => (HP.ma K (HP.ga K "InvalidPage") "__init__"), "__init__", "InvalidPage.__init__", K01.s_InvalidPage___init__⟩
def d26 : HP.DfP := ⟨fun K => (HP.ma K (HP.ga K "OtherScheme") "__init__"), "__init__", "OtherScheme.__init__", K01.s_OtherScheme___init__⟩
def d27 : HP.DfP := ⟨fun K => (HP.ma K (HP.ga K "OtherColumns") "__init__"), "__init__", "OtherColumns.__init__", K01.s_OtherColumns___init__⟩
def d28 : HP.DfP := ⟨fun K => (HP.ma K (HP.ga K "HasColumns") "__init__"), "__init__", "HasColumns.__init__", K01.s_HasColumns___init__⟩
def d29 : HP.DfP := ⟨fun K => (HP.ma K (HP.ga K "NotSafe") "__init__"), "__init__", "NotSafe.__init__", K01.s_NotSafe___init__⟩
def d30 : HP.DfP := ⟨fun K => (HP.ma K (HP.ga K "TooMany") "__init__"), "__init__", "TooMany.__init__", K01.s_TooMany___init__⟩
def d31 : HP.DfP := ⟨fun K => (HP.ma K (HP.ga K "Full") "__init__"), "__init__", "Full.__init__", K01.s_Full___init__⟩
def d32 : HP.DfP := ⟨fun K => (HP.ma K (HP.ga K "UnknownName") "__init__"), "__init__", "UnknownName.__init__", K01.s_UnknownName___init__⟩
def d33 : HP.DfP := ⟨fun K => (HP.ma K (HP.ga K "UnknownRow") "__init__"), "__init__", "UnknownRow.__init__", K01.s_UnknownRow___init__⟩
def d34 : HP.DfP := ⟨fun K => (HP.ma K (HP.ga K "UnknownValue") "__init__"), "__init__", "UnknownValue.__init__", K01.s_UnknownValue___init__⟩
def d35 : HP.DfP := ⟨fun K => (HP.ma K (HP.ga K "NothingLeft") "__init__"), "__init__", "NothingLeft.__init__", K01.s_NothingLeft___init__⟩
def fns : List HP.DfP := [d0, d1, d2, d3, d4, d5, d6, d7, d8, d9, d10, d11, d12, d13, d14, d15, d16, d17, d18, d19, d20, d21, d22, d23, d24, d25, d26, d27, d28, d29, d30, d31, d32, d33, d34, d35]
def e0 : HP.Fr → Bool := fun K => (K.lookup 0).isNone
def e1 : HP.Fr → Bool := fun K => HP.eqO (PySem.W.nsIn K mainGlobals "SureError") (some (some (.ref (HP.ga K "SureError"))))
def e2 : HP.Fr → Bool := fun K => HP.eqO (PySem.W.nsIn K mainGlobals "Missing") (some (some (.ref (HP.ga K "Missing"))))
def e3 : HP.Fr → Bool := fun K => HP.eqO (PySem.W.nsIn K mainGlobals "InvalidName") (some (some (.ref (HP.ga K "InvalidName"))))
def e4 : HP.Fr → Bool := fun K => HP.eqO (PySem.W.nsIn K mainGlobals "InvalidScheme") (some (some (.ref (HP.ga K "InvalidScheme"))))
def e5 : HP.Fr → Bool := fun K => HP.eqO (PySem.W.nsIn K mainGlobals "InvalidRow") (some (some (.ref (HP.ga K "InvalidRow"))))
def e6 : HP.Fr → Bool := fun K => HP.eqO (PySem.W.nsIn K mainGlobals "InvalidLoose") (some (some (.ref (HP.ga K "InvalidLoose"))))
def e7 : HP.Fr → Bool := fun K => HP.eqO (PySem.W.nsIn K mainGlobals "InvalidVariables") (some (some (.ref (HP.ga K "InvalidVariables"))))
def e8 : HP.Fr → Bool := fun K => HP.eqO (PySem.W.nsIn K mainGlobals "InvalidPart") (some (some (.ref (HP.ga K "InvalidPart"))))
def e9 : HP.Fr → Bool := fun K => HP.eqO (PySem.W.nsIn K mainGlobals "InvalidFormula") (some (some (.ref (HP.ga K "InvalidFormula"))))
def e10 : HP.Fr → Bool := fun K => HP.eqO (PySem.W.nsIn K mainGlobals "InvalidColumns") (some (some (.ref (HP.ga K "InvalidColumns"))))
def e11 : HP.Fr → Bool := fun K => HP.eqO (PySem.W.nsIn K mainGlobals "InvalidAnswer") (some (some (.ref (HP.ga K "InvalidAnswer"))))
def e12 : HP.Fr → Bool := fun K => HP.eqO (PySem.W.nsIn K mainGlobals "InvalidTruths") (some (some (.ref (HP.ga K "InvalidTruths"))))
def e13 : HP.Fr → Bool := fun K => HP.eqO (PySem.W.nsIn K mainGlobals "InvalidFilling") (some (some (.ref (HP.ga K "InvalidFilling"))))
def e14 : HP.Fr → Bool := fun K => HP.eqO (PySem.W.nsIn K mainGlobals "InvalidMeaning") (some (some (.ref (HP.ga K "InvalidMeaning"))))
def e15 : HP.Fr → Bool := fun K => HP.eqO (PySem.W.nsIn K mainGlobals "InvalidText") (some (some (.ref (HP.ga K "InvalidText"))))
def e16 : HP.Fr → Bool := fun K => HP.eqO (PySem.W.nsIn K mainGlobals "InvalidCommand") (some (some (.ref (HP.ga K "InvalidCommand"))))
def e17 : HP.Fr → Bool := fun K => HP.eqO (PySem.W.nsIn K mainGlobals "InvalidLimit") (some (some (.ref (HP.ga K "InvalidLimit"))))
def e18 : HP.Fr → Bool := fun K => HP.eqO (PySem.W.nsIn K mainGlobals "InvalidPage") (some (some (.ref (HP.ga K "InvalidPage"))))
def e19 : HP.Fr → Bool := fun K => HP.eqO (PySem.W.nsIn K mainGlobals "OtherScheme") (some (some (.ref (HP.ga K "OtherScheme"))))
def e20 : HP.Fr → Bool := fun K => HP.eqO (PySem.W.nsIn K mainGlobals "OtherColumns") (some (some (.ref (HP.ga K "OtherColumns"))))
def e21 : HP.Fr → Bool := fun K => HP.eqO (PySem.W.nsIn K mainGlobals "HasColumns") (some (some (.ref (HP.ga K "HasColumns"))))
def e22 : HP.Fr → Bool := fun K => HP.eqO (PySem.W.nsIn K mainGlobals "NotSafe") (some (some (.ref (HP.ga K "NotSafe"))))
def e23 : HP.Fr → Bool := fun K => HP.eqO (PySem.W.nsIn K mainGlobals "TooMany") (some (some (.ref (HP.ga K "TooMany"))))
def e24 : HP.Fr → Bool := fun K => HP.eqO (PySem.W.nsIn K mainGlobals "Full") (some (some (.ref (HP.ga K "Full"))))
def e25 : HP.Fr → Bool := fun K => HP.eqO (PySem.W.nsIn K mainGlobals "UnknownName") (some (some (.ref (HP.ga K "UnknownName"))))
def e26 : HP.Fr → Bool := fun K => HP.eqO (PySem.W.nsIn K mainGlobals "UnknownRow") (some (some (.ref (HP.ga K "UnknownRow"))))
def e27 : HP.Fr → Bool := fun K => HP.eqO (PySem.W.nsIn K mainGlobals "UnknownValue") (some (some (.ref (HP.ga K "UnknownValue"))))
def e28 : HP.Fr → Bool := fun K => HP.eqO (PySem.W.nsIn K mainGlobals "NothingLeft") (some (some (.ref (HP.ga K "NothingLeft"))))
def e29 : HP.Fr → Bool := fun K => HP.eqO (PySem.W.nsIn K mainGlobals "_law_bag") (some (some (.ref (HP.ga K "_law_bag"))))
def e30 : HP.Fr → Bool := fun K => HP.eqO (PySem.W.nsIn K mainGlobals "_law_draw") (some (some (.ref (HP.ga K "_law_draw"))))
def e31 : HP.Fr → Bool := fun K => HP.eqO (PySem.W.nsIn K mainGlobals "_law_of") (some (some (.ref (HP.ga K "_law_of"))))
def e32 : HP.Fr → Bool := fun K => HP.eqO (PySem.W.nsIn K mainGlobals "_law_errors") (some (some (.ref (HP.ga K "_law_errors"))))
def e33 : HP.Fr → Bool := fun K => HP.eqO (PySem.W.nsIn K mainGlobals "_law_codes") (some (some (.ref (HP.ga K "_law_codes"))))
def e34 : HP.Fr → Bool := fun K => HP.eqO (PySem.W.nsIn K mainGlobals "_law_same") (some (some (.ref (HP.ga K "_law_same"))))
def e35 : HP.Fr → Bool := fun K => HP.eqO (PySem.W.nsIn K mainGlobals "_law_field") (some (some (.ref (HP.ga K "_law_field"))))
def e36 : HP.Fr → Bool := fun K => HP.eqO (PySem.W.nsIn K mainGlobals "_law_classes") (some (some (.ref (HP.ga K "_law_classes"))))
def e37 : HP.Fr → Bool := fun K => HP.eqO (PySem.W.nsIn K mainGlobals "_law_named_errors") (some (some (.ref (HP.ga K "_law_named_errors"))))
def e38 : HP.Fr → Bool := fun K => HP.eqO (PySem.W.nsIn K mainGlobals "law") (some (some (.ref (HP.ga K "law"))))
def e39 : HP.Fr → Bool := fun K => HP.eqO (PySem.W.nsIn K mainGlobals "super") (some none)
def e40 : HP.Fr → Bool := fun K => HP.eqO (PySem.W.findIn K (.ref (HP.ga K "InvalidName")) "__init__") (some (some (.ref (HP.ma K (HP.ga K "InvalidName") "__init__"))))
def e41 : HP.Fr → Bool := fun K => HP.eqO (PySem.W.findIn K (.ref (HP.ga K "InvalidScheme")) "__init__") (some (some (.ref (HP.ma K (HP.ga K "InvalidScheme") "__init__"))))
def e42 : HP.Fr → Bool := fun K => HP.eqO (PySem.W.findIn K (.ref (HP.ga K "InvalidRow")) "__init__") (some (some (.ref (HP.ma K (HP.ga K "InvalidRow") "__init__"))))
def e43 : HP.Fr → Bool := fun K => HP.eqO (PySem.W.findIn K (.ref (HP.ga K "InvalidLoose")) "__init__") (some (some (.ref (HP.ma K (HP.ga K "InvalidLoose") "__init__"))))
def e44 : HP.Fr → Bool := fun K => HP.eqO (PySem.W.findIn K (.ref (HP.ga K "InvalidVariables")) "__init__") (some (some (.ref (HP.ma K (HP.ga K "InvalidVariables") "__init__"))))
def e45 : HP.Fr → Bool := fun K => HP.eqO (PySem.W.findIn K (.ref (HP.ga K "InvalidPart")) "__init__") (some (some (.ref (HP.ma K (HP.ga K "InvalidPart") "__init__"))))
def e46 : HP.Fr → Bool := fun K => HP.eqO (PySem.W.findIn K (.ref (HP.ga K "InvalidFormula")) "__init__") (some (some (.ref (HP.ma K (HP.ga K "InvalidFormula") "__init__"))))
def e47 : HP.Fr → Bool := fun K => HP.eqO (PySem.W.findIn K (.ref (HP.ga K "InvalidColumns")) "__init__") (some (some (.ref (HP.ma K (HP.ga K "InvalidColumns") "__init__"))))
def e48 : HP.Fr → Bool := fun K => HP.eqO (PySem.W.findIn K (.ref (HP.ga K "InvalidAnswer")) "__init__") (some (some (.ref (HP.ma K (HP.ga K "InvalidAnswer") "__init__"))))
def e49 : HP.Fr → Bool := fun K => HP.eqO (PySem.W.findIn K (.ref (HP.ga K "InvalidTruths")) "__init__") (some (some (.ref (HP.ma K (HP.ga K "InvalidTruths") "__init__"))))
def e50 : HP.Fr → Bool := fun K => HP.eqO (PySem.W.findIn K (.ref (HP.ga K "InvalidFilling")) "__init__") (some (some (.ref (HP.ma K (HP.ga K "InvalidFilling") "__init__"))))
def e51 : HP.Fr → Bool := fun K => HP.eqO (PySem.W.findIn K (.ref (HP.ga K "InvalidMeaning")) "__init__") (some (some (.ref (HP.ma K (HP.ga K "InvalidMeaning") "__init__"))))
def e52 : HP.Fr → Bool := fun K => HP.eqO (PySem.W.findIn K (.ref (HP.ga K "InvalidText")) "__init__") (some (some (.ref (HP.ma K (HP.ga K "InvalidText") "__init__"))))
def e53 : HP.Fr → Bool := fun K => HP.eqO (PySem.W.findIn K (.ref (HP.ga K "InvalidCommand")) "__init__") (some (some (.ref (HP.ma K (HP.ga K "InvalidCommand") "__init__"))))
def e54 : HP.Fr → Bool := fun K => HP.eqO (PySem.W.findIn K (.ref (HP.ga K "InvalidLimit")) "__init__") (some (some (.ref (HP.ma K (HP.ga K "InvalidLimit") "__init__"))))
def e55 : HP.Fr → Bool := fun K => HP.eqO (PySem.W.findIn K (.ref (HP.ga K "InvalidPage")) "__init__") (some (some (.ref (HP.ma K (HP.ga K "InvalidPage") "__init__"))))
def e56 : HP.Fr → Bool := fun K => HP.eqO (PySem.W.findIn K (.ref (HP.ga K "OtherScheme")) "__init__") (some (some (.ref (HP.ma K (HP.ga K "OtherScheme") "__init__"))))
def e57 : HP.Fr → Bool := fun K => HP.eqO (PySem.W.findIn K (.ref (HP.ga K "OtherColumns")) "__init__") (some (some (.ref (HP.ma K (HP.ga K "OtherColumns") "__init__"))))
def e58 : HP.Fr → Bool := fun K => HP.eqO (PySem.W.findIn K (.ref (HP.ga K "HasColumns")) "__init__") (some (some (.ref (HP.ma K (HP.ga K "HasColumns") "__init__"))))
def e59 : HP.Fr → Bool := fun K => HP.eqO (PySem.W.findIn K (.ref (HP.ga K "NotSafe")) "__init__") (some (some (.ref (HP.ma K (HP.ga K "NotSafe") "__init__"))))
def e60 : HP.Fr → Bool := fun K => HP.eqO (PySem.W.findIn K (.ref (HP.ga K "TooMany")) "__init__") (some (some (.ref (HP.ma K (HP.ga K "TooMany") "__init__"))))
def e61 : HP.Fr → Bool := fun K => HP.eqO (PySem.W.findIn K (.ref (HP.ga K "Full")) "__init__") (some (some (.ref (HP.ma K (HP.ga K "Full") "__init__"))))
def e62 : HP.Fr → Bool := fun K => HP.eqO (PySem.W.findIn K (.ref (HP.ga K "UnknownName")) "__init__") (some (some (.ref (HP.ma K (HP.ga K "UnknownName") "__init__"))))
def e63 : HP.Fr → Bool := fun K => HP.eqO (PySem.W.findIn K (.ref (HP.ga K "UnknownRow")) "__init__") (some (some (.ref (HP.ma K (HP.ga K "UnknownRow") "__init__"))))
def e64 : HP.Fr → Bool := fun K => HP.eqO (PySem.W.findIn K (.ref (HP.ga K "UnknownValue")) "__init__") (some (some (.ref (HP.ma K (HP.ga K "UnknownValue") "__init__"))))
def e65 : HP.Fr → Bool := fun K => HP.eqO (PySem.W.findIn K (.ref (HP.ga K "NothingLeft")) "__init__") (some (some (.ref (HP.ma K (HP.ga K "NothingLeft") "__init__"))))
def e66 : HP.Fr → Bool := fun K => HP.fnB K (HP.ga K "_law_bag") "_law_bag"
def e67 : HP.Fr → Bool := fun K => HP.isNone (HP.fdA K (HP.ga K "_law_bag")).defaults
def e68 : HP.Fr → Bool := fun K => PySem.W.keepIn K (.ref (HP.ga K "_law_bag"))
def e69 : HP.Fr → Bool := fun K => HP.fnB K (HP.ga K "_law_draw") "_law_draw"
def e70 : HP.Fr → Bool := fun K => HP.isNone (HP.fdA K (HP.ga K "_law_draw")).defaults
def e71 : HP.Fr → Bool := fun K => PySem.W.keepIn K (.ref (HP.ga K "_law_draw"))
def e72 : HP.Fr → Bool := fun K => HP.fnB K (HP.ga K "_law_of") "_law_of"
def e73 : HP.Fr → Bool := fun K => HP.isNone (HP.fdA K (HP.ga K "_law_of")).defaults
def e74 : HP.Fr → Bool := fun K => PySem.W.keepIn K (.ref (HP.ga K "_law_of"))
def e75 : HP.Fr → Bool := fun K => HP.fnB K (HP.ga K "_law_errors") "_law_errors"
def e76 : HP.Fr → Bool := fun K => HP.isNone (HP.fdA K (HP.ga K "_law_errors")).defaults
def e77 : HP.Fr → Bool := fun K => PySem.W.keepIn K (.ref (HP.ga K "_law_errors"))
def e78 : HP.Fr → Bool := fun K => HP.fnB K (HP.ga K "_law_codes") "_law_codes"
def e79 : HP.Fr → Bool := fun K => HP.isNone (HP.fdA K (HP.ga K "_law_codes")).defaults
def e80 : HP.Fr → Bool := fun K => PySem.W.keepIn K (.ref (HP.ga K "_law_codes"))
def e81 : HP.Fr → Bool := fun K => HP.fnB K (HP.ga K "_law_same") "_law_same"
def e82 : HP.Fr → Bool := fun K => HP.isNone (HP.fdA K (HP.ga K "_law_same")).defaults
def e83 : HP.Fr → Bool := fun K => PySem.W.keepIn K (.ref (HP.ga K "_law_same"))
def e84 : HP.Fr → Bool := fun K => HP.fnB K (HP.ga K "_law_field") "_law_field"
def e85 : HP.Fr → Bool := fun K => HP.isNone (HP.fdA K (HP.ga K "_law_field")).defaults
def e86 : HP.Fr → Bool := fun K => PySem.W.keepIn K (.ref (HP.ga K "_law_field"))
def e87 : HP.Fr → Bool := fun K => HP.fnB K (HP.ga K "_law_classes") "_law_classes"
def e88 : HP.Fr → Bool := fun K => HP.isNone (HP.fdA K (HP.ga K "_law_classes")).defaults
def e89 : HP.Fr → Bool := fun K => PySem.W.keepIn K (.ref (HP.ga K "_law_classes"))
def e90 : HP.Fr → Bool := fun K => HP.fnB K (HP.ga K "_law_named_errors") "_law_named_errors"
def e91 : HP.Fr → Bool := fun K => HP.isNone (HP.fdA K (HP.ga K "_law_named_errors")).defaults
def e92 : HP.Fr → Bool := fun K => PySem.W.keepIn K (.ref (HP.ga K "_law_named_errors"))
def e93 : HP.Fr → Bool := fun K => HP.fnB K (HP.ga K "law") "law"
def e94 : HP.Fr → Bool := fun K => HP.isNone (HP.fdA K (HP.ga K "law")).defaults
def e95 : HP.Fr → Bool := fun K => PySem.W.keepIn K (.ref (HP.ga K "law"))
def e96 : HP.Fr → Bool := fun K => HP.eqO (PySem.W.nsIn K mainGlobals "len") (some none)
def e97 : HP.Fr → Bool := fun K => HP.eqO (PySem.W.nsIn K mainGlobals "range") (some none)
def e98 : HP.Fr → Bool := fun K => HP.eqO (PySem.W.nsIn K mainGlobals "isinstance") (some none)
def e99 : HP.Fr → Bool := fun K => HP.eqO (PySem.W.nsIn K mainGlobals "ValueError") (some none)
def e100 : HP.Fr → Bool := fun K => HP.eqO (PySem.W.nsIn K mainGlobals "LookupError") (some none)
def e101 : HP.Fr → Bool := fun K => HP.eqO (PySem.W.nsIn K mainGlobals "IndexError") (some none)
def e102 : HP.Fr → Bool := fun K => HP.eqO (PySem.W.nsIn K mainGlobals "list") (some none)
def e103 : HP.Fr → Bool := fun K => HP.eqO (PySem.W.nsIn K mainGlobals "tuple") (some none)
def e104 : HP.Fr → Bool := fun K => HP.eqO (PySem.W.nsIn K mainGlobals "zip") (some none)
def e105 : HP.Fr → Bool := fun K => HP.eqO (PySem.W.nsIn K mainGlobals "all") (some none)
def e106 : HP.Fr → Bool := fun K => HP.eqO (PySem.W.nsIn K mainGlobals "bool") (some none)
def e107 : HP.Fr → Bool := fun K => HP.eqO (PySem.W.nsIn K mainGlobals "int") (some none)
def e108 : HP.Fr → Bool := fun K => HP.eqO (PySem.W.nsIn K mainGlobals "str") (some none)
def e109 : HP.Fr → Bool := fun K => HP.eqO (PySem.W.findIn K (.ref (HP.ga K "NothingLeft")) "__getattribute__") (some (some (.builtin "BaseException.__getattribute__")))
def e110 : HP.Fr → Bool := fun K => HP.eqO (PySem.W.findIn K (.ref (HP.ga K "NothingLeft")) "__getattr__") (some none)
def e111 : HP.Fr → Bool := fun K => HP.eqB (PySem.W.subIn K (.ref (HP.ga K "NothingLeft")) (.type "BaseException")) true
def e112 : HP.Fr → Bool := fun K => PySem.W.hasDictIn K (HP.ga K "NothingLeft")
def e113 : HP.Fr → Bool := fun K => HP.eqO (PySem.W.findIn K (.ref (HP.ga K "NothingLeft")) "code") (some none)
def e114 : HP.Fr → Bool := fun K => HP.eqO (PySem.W.findIn K (.ref (HP.ga K "UnknownValue")) "__getattribute__") (some (some (.builtin "BaseException.__getattribute__")))
def e115 : HP.Fr → Bool := fun K => HP.eqO (PySem.W.findIn K (.ref (HP.ga K "UnknownValue")) "__getattr__") (some none)
def e116 : HP.Fr → Bool := fun K => HP.eqB (PySem.W.subIn K (.ref (HP.ga K "UnknownValue")) (.type "BaseException")) true
def e117 : HP.Fr → Bool := fun K => PySem.W.hasDictIn K (HP.ga K "UnknownValue")
def e118 : HP.Fr → Bool := fun K => HP.eqO (PySem.W.findIn K (.ref (HP.ga K "UnknownValue")) "code") (some none)
def e119 : HP.Fr → Bool := fun K => HP.eqO (PySem.W.findIn K (.ref (HP.ga K "UnknownRow")) "__getattribute__") (some (some (.builtin "BaseException.__getattribute__")))
def e120 : HP.Fr → Bool := fun K => HP.eqO (PySem.W.findIn K (.ref (HP.ga K "UnknownRow")) "__getattr__") (some none)
def e121 : HP.Fr → Bool := fun K => HP.eqB (PySem.W.subIn K (.ref (HP.ga K "UnknownRow")) (.type "BaseException")) true
def e122 : HP.Fr → Bool := fun K => PySem.W.hasDictIn K (HP.ga K "UnknownRow")
def e123 : HP.Fr → Bool := fun K => HP.eqO (PySem.W.findIn K (.ref (HP.ga K "UnknownRow")) "code") (some none)
def e124 : HP.Fr → Bool := fun K => HP.eqO (PySem.W.findIn K (.ref (HP.ga K "UnknownName")) "__getattribute__") (some (some (.builtin "BaseException.__getattribute__")))
def e125 : HP.Fr → Bool := fun K => HP.eqO (PySem.W.findIn K (.ref (HP.ga K "UnknownName")) "__getattr__") (some none)
def e126 : HP.Fr → Bool := fun K => HP.eqB (PySem.W.subIn K (.ref (HP.ga K "UnknownName")) (.type "BaseException")) true
def e127 : HP.Fr → Bool := fun K => PySem.W.hasDictIn K (HP.ga K "UnknownName")
def e128 : HP.Fr → Bool := fun K => HP.eqO (PySem.W.findIn K (.ref (HP.ga K "UnknownName")) "code") (some none)
def e129 : HP.Fr → Bool := fun K => HP.eqO (PySem.W.findIn K (.ref (HP.ga K "Full")) "__getattribute__") (some (some (.builtin "BaseException.__getattribute__")))
def e130 : HP.Fr → Bool := fun K => HP.eqO (PySem.W.findIn K (.ref (HP.ga K "Full")) "__getattr__") (some none)
def e131 : HP.Fr → Bool := fun K => HP.eqB (PySem.W.subIn K (.ref (HP.ga K "Full")) (.type "BaseException")) true
def e132 : HP.Fr → Bool := fun K => PySem.W.hasDictIn K (HP.ga K "Full")
def e133 : HP.Fr → Bool := fun K => HP.eqO (PySem.W.findIn K (.ref (HP.ga K "Full")) "code") (some none)
def e134 : HP.Fr → Bool := fun K => HP.eqO (PySem.W.findIn K (.ref (HP.ga K "TooMany")) "__getattribute__") (some (some (.builtin "BaseException.__getattribute__")))
def e135 : HP.Fr → Bool := fun K => HP.eqO (PySem.W.findIn K (.ref (HP.ga K "TooMany")) "__getattr__") (some none)
def e136 : HP.Fr → Bool := fun K => HP.eqB (PySem.W.subIn K (.ref (HP.ga K "TooMany")) (.type "BaseException")) true
def e137 : HP.Fr → Bool := fun K => PySem.W.hasDictIn K (HP.ga K "TooMany")
def e138 : HP.Fr → Bool := fun K => HP.eqO (PySem.W.findIn K (.ref (HP.ga K "TooMany")) "code") (some none)
def e139 : HP.Fr → Bool := fun K => HP.eqO (PySem.W.findIn K (.ref (HP.ga K "NotSafe")) "__getattribute__") (some (some (.builtin "BaseException.__getattribute__")))
def e140 : HP.Fr → Bool := fun K => HP.eqO (PySem.W.findIn K (.ref (HP.ga K "NotSafe")) "__getattr__") (some none)
def e141 : HP.Fr → Bool := fun K => HP.eqB (PySem.W.subIn K (.ref (HP.ga K "NotSafe")) (.type "BaseException")) true
def e142 : HP.Fr → Bool := fun K => PySem.W.hasDictIn K (HP.ga K "NotSafe")
def e143 : HP.Fr → Bool := fun K => HP.eqO (PySem.W.findIn K (.ref (HP.ga K "NotSafe")) "code") (some none)
def e144 : HP.Fr → Bool := fun K => HP.eqO (PySem.W.findIn K (.ref (HP.ga K "HasColumns")) "__getattribute__") (some (some (.builtin "BaseException.__getattribute__")))
def e145 : HP.Fr → Bool := fun K => HP.eqO (PySem.W.findIn K (.ref (HP.ga K "HasColumns")) "__getattr__") (some none)
def e146 : HP.Fr → Bool := fun K => HP.eqB (PySem.W.subIn K (.ref (HP.ga K "HasColumns")) (.type "BaseException")) true
def e147 : HP.Fr → Bool := fun K => PySem.W.hasDictIn K (HP.ga K "HasColumns")
def e148 : HP.Fr → Bool := fun K => HP.eqO (PySem.W.findIn K (.ref (HP.ga K "HasColumns")) "code") (some none)
def e149 : HP.Fr → Bool := fun K => HP.eqO (PySem.W.findIn K (.ref (HP.ga K "OtherColumns")) "__getattribute__") (some (some (.builtin "BaseException.__getattribute__")))
def e150 : HP.Fr → Bool := fun K => HP.eqO (PySem.W.findIn K (.ref (HP.ga K "OtherColumns")) "__getattr__") (some none)
def e151 : HP.Fr → Bool := fun K => HP.eqB (PySem.W.subIn K (.ref (HP.ga K "OtherColumns")) (.type "BaseException")) true
def e152 : HP.Fr → Bool := fun K => PySem.W.hasDictIn K (HP.ga K "OtherColumns")
def e153 : HP.Fr → Bool := fun K => HP.eqO (PySem.W.findIn K (.ref (HP.ga K "OtherColumns")) "code") (some none)
def e154 : HP.Fr → Bool := fun K => HP.eqO (PySem.W.findIn K (.ref (HP.ga K "OtherScheme")) "__getattribute__") (some (some (.builtin "BaseException.__getattribute__")))
def e155 : HP.Fr → Bool := fun K => HP.eqO (PySem.W.findIn K (.ref (HP.ga K "OtherScheme")) "__getattr__") (some none)
def e156 : HP.Fr → Bool := fun K => HP.eqB (PySem.W.subIn K (.ref (HP.ga K "OtherScheme")) (.type "BaseException")) true
def e157 : HP.Fr → Bool := fun K => PySem.W.hasDictIn K (HP.ga K "OtherScheme")
def e158 : HP.Fr → Bool := fun K => HP.eqO (PySem.W.findIn K (.ref (HP.ga K "OtherScheme")) "code") (some none)
def e159 : HP.Fr → Bool := fun K => HP.eqO (PySem.W.findIn K (.ref (HP.ga K "InvalidPage")) "__getattribute__") (some (some (.builtin "BaseException.__getattribute__")))
def e160 : HP.Fr → Bool := fun K => HP.eqO (PySem.W.findIn K (.ref (HP.ga K "InvalidPage")) "__getattr__") (some none)
def e161 : HP.Fr → Bool := fun K => HP.eqB (PySem.W.subIn K (.ref (HP.ga K "InvalidPage")) (.type "BaseException")) true
def e162 : HP.Fr → Bool := fun K => PySem.W.hasDictIn K (HP.ga K "InvalidPage")
def e163 : HP.Fr → Bool := fun K => HP.eqO (PySem.W.findIn K (.ref (HP.ga K "InvalidPage")) "code") (some none)
def e164 : HP.Fr → Bool := fun K => HP.eqO (PySem.W.findIn K (.ref (HP.ga K "InvalidLimit")) "__getattribute__") (some (some (.builtin "BaseException.__getattribute__")))
def e165 : HP.Fr → Bool := fun K => HP.eqO (PySem.W.findIn K (.ref (HP.ga K "InvalidLimit")) "__getattr__") (some none)
def e166 : HP.Fr → Bool := fun K => HP.eqB (PySem.W.subIn K (.ref (HP.ga K "InvalidLimit")) (.type "BaseException")) true
def e167 : HP.Fr → Bool := fun K => PySem.W.hasDictIn K (HP.ga K "InvalidLimit")
def e168 : HP.Fr → Bool := fun K => HP.eqO (PySem.W.findIn K (.ref (HP.ga K "InvalidLimit")) "code") (some none)
def e169 : HP.Fr → Bool := fun K => HP.eqO (PySem.W.findIn K (.ref (HP.ga K "InvalidCommand")) "__getattribute__") (some (some (.builtin "BaseException.__getattribute__")))
def e170 : HP.Fr → Bool := fun K => HP.eqO (PySem.W.findIn K (.ref (HP.ga K "InvalidCommand")) "__getattr__") (some none)
def e171 : HP.Fr → Bool := fun K => HP.eqB (PySem.W.subIn K (.ref (HP.ga K "InvalidCommand")) (.type "BaseException")) true
def e172 : HP.Fr → Bool := fun K => PySem.W.hasDictIn K (HP.ga K "InvalidCommand")
def e173 : HP.Fr → Bool := fun K => HP.eqO (PySem.W.findIn K (.ref (HP.ga K "InvalidCommand")) "code") (some none)
def e174 : HP.Fr → Bool := fun K => HP.eqO (PySem.W.findIn K (.ref (HP.ga K "InvalidText")) "__getattribute__") (some (some (.builtin "BaseException.__getattribute__")))
def e175 : HP.Fr → Bool := fun K => HP.eqO (PySem.W.findIn K (.ref (HP.ga K "InvalidText")) "__getattr__") (some none)
def e176 : HP.Fr → Bool := fun K => HP.eqB (PySem.W.subIn K (.ref (HP.ga K "InvalidText")) (.type "BaseException")) true
def e177 : HP.Fr → Bool := fun K => PySem.W.hasDictIn K (HP.ga K "InvalidText")
def e178 : HP.Fr → Bool := fun K => HP.eqO (PySem.W.findIn K (.ref (HP.ga K "InvalidText")) "code") (some none)
def e179 : HP.Fr → Bool := fun K => HP.eqO (PySem.W.findIn K (.ref (HP.ga K "InvalidMeaning")) "__getattribute__") (some (some (.builtin "BaseException.__getattribute__")))
def e180 : HP.Fr → Bool := fun K => HP.eqO (PySem.W.findIn K (.ref (HP.ga K "InvalidMeaning")) "__getattr__") (some none)
def e181 : HP.Fr → Bool := fun K => HP.eqB (PySem.W.subIn K (.ref (HP.ga K "InvalidMeaning")) (.type "BaseException")) true
def e182 : HP.Fr → Bool := fun K => PySem.W.hasDictIn K (HP.ga K "InvalidMeaning")
def e183 : HP.Fr → Bool := fun K => HP.eqO (PySem.W.findIn K (.ref (HP.ga K "InvalidMeaning")) "code") (some none)
def e184 : HP.Fr → Bool := fun K => HP.eqO (PySem.W.findIn K (.ref (HP.ga K "InvalidFilling")) "__getattribute__") (some (some (.builtin "BaseException.__getattribute__")))
def e185 : HP.Fr → Bool := fun K => HP.eqO (PySem.W.findIn K (.ref (HP.ga K "InvalidFilling")) "__getattr__") (some none)
def e186 : HP.Fr → Bool := fun K => HP.eqB (PySem.W.subIn K (.ref (HP.ga K "InvalidFilling")) (.type "BaseException")) true
def e187 : HP.Fr → Bool := fun K => PySem.W.hasDictIn K (HP.ga K "InvalidFilling")
def e188 : HP.Fr → Bool := fun K => HP.eqO (PySem.W.findIn K (.ref (HP.ga K "InvalidFilling")) "code") (some none)
def e189 : HP.Fr → Bool := fun K => HP.eqO (PySem.W.findIn K (.ref (HP.ga K "InvalidTruths")) "__getattribute__") (some (some (.builtin "BaseException.__getattribute__")))
def e190 : HP.Fr → Bool := fun K => HP.eqO (PySem.W.findIn K (.ref (HP.ga K "InvalidTruths")) "__getattr__") (some none)
def e191 : HP.Fr → Bool := fun K => HP.eqB (PySem.W.subIn K (.ref (HP.ga K "InvalidTruths")) (.type "BaseException")) true
def e192 : HP.Fr → Bool := fun K => PySem.W.hasDictIn K (HP.ga K "InvalidTruths")
def e193 : HP.Fr → Bool := fun K => HP.eqO (PySem.W.findIn K (.ref (HP.ga K "InvalidTruths")) "code") (some none)
def e194 : HP.Fr → Bool := fun K => HP.eqO (PySem.W.findIn K (.ref (HP.ga K "InvalidAnswer")) "__getattribute__") (some (some (.builtin "BaseException.__getattribute__")))
def e195 : HP.Fr → Bool := fun K => HP.eqO (PySem.W.findIn K (.ref (HP.ga K "InvalidAnswer")) "__getattr__") (some none)
def e196 : HP.Fr → Bool := fun K => HP.eqB (PySem.W.subIn K (.ref (HP.ga K "InvalidAnswer")) (.type "BaseException")) true
def e197 : HP.Fr → Bool := fun K => PySem.W.hasDictIn K (HP.ga K "InvalidAnswer")
def e198 : HP.Fr → Bool := fun K => HP.eqO (PySem.W.findIn K (.ref (HP.ga K "InvalidAnswer")) "code") (some none)
def e199 : HP.Fr → Bool := fun K => HP.eqO (PySem.W.findIn K (.ref (HP.ga K "InvalidColumns")) "__getattribute__") (some (some (.builtin "BaseException.__getattribute__")))
def e200 : HP.Fr → Bool := fun K => HP.eqO (PySem.W.findIn K (.ref (HP.ga K "InvalidColumns")) "__getattr__") (some none)
def e201 : HP.Fr → Bool := fun K => HP.eqB (PySem.W.subIn K (.ref (HP.ga K "InvalidColumns")) (.type "BaseException")) true
def e202 : HP.Fr → Bool := fun K => PySem.W.hasDictIn K (HP.ga K "InvalidColumns")
def e203 : HP.Fr → Bool := fun K => HP.eqO (PySem.W.findIn K (.ref (HP.ga K "InvalidColumns")) "code") (some none)
def e204 : HP.Fr → Bool := fun K => HP.eqO (PySem.W.findIn K (.ref (HP.ga K "InvalidFormula")) "__getattribute__") (some (some (.builtin "BaseException.__getattribute__")))
def e205 : HP.Fr → Bool := fun K => HP.eqO (PySem.W.findIn K (.ref (HP.ga K "InvalidFormula")) "__getattr__") (some none)
def e206 : HP.Fr → Bool := fun K => HP.eqB (PySem.W.subIn K (.ref (HP.ga K "InvalidFormula")) (.type "BaseException")) true
def e207 : HP.Fr → Bool := fun K => PySem.W.hasDictIn K (HP.ga K "InvalidFormula")
def e208 : HP.Fr → Bool := fun K => HP.eqO (PySem.W.findIn K (.ref (HP.ga K "InvalidFormula")) "code") (some none)
def e209 : HP.Fr → Bool := fun K => HP.eqO (PySem.W.findIn K (.ref (HP.ga K "InvalidPart")) "__getattribute__") (some (some (.builtin "BaseException.__getattribute__")))
def e210 : HP.Fr → Bool := fun K => HP.eqO (PySem.W.findIn K (.ref (HP.ga K "InvalidPart")) "__getattr__") (some none)
def e211 : HP.Fr → Bool := fun K => HP.eqB (PySem.W.subIn K (.ref (HP.ga K "InvalidPart")) (.type "BaseException")) true
def e212 : HP.Fr → Bool := fun K => PySem.W.hasDictIn K (HP.ga K "InvalidPart")
def e213 : HP.Fr → Bool := fun K => HP.eqO (PySem.W.findIn K (.ref (HP.ga K "InvalidPart")) "code") (some none)
def e214 : HP.Fr → Bool := fun K => HP.eqO (PySem.W.findIn K (.ref (HP.ga K "InvalidVariables")) "__getattribute__") (some (some (.builtin "BaseException.__getattribute__")))
def e215 : HP.Fr → Bool := fun K => HP.eqO (PySem.W.findIn K (.ref (HP.ga K "InvalidVariables")) "__getattr__") (some none)
def e216 : HP.Fr → Bool := fun K => HP.eqB (PySem.W.subIn K (.ref (HP.ga K "InvalidVariables")) (.type "BaseException")) true
def e217 : HP.Fr → Bool := fun K => PySem.W.hasDictIn K (HP.ga K "InvalidVariables")
def e218 : HP.Fr → Bool := fun K => HP.eqO (PySem.W.findIn K (.ref (HP.ga K "InvalidVariables")) "code") (some none)
def e219 : HP.Fr → Bool := fun K => HP.eqO (PySem.W.findIn K (.ref (HP.ga K "InvalidLoose")) "__getattribute__") (some (some (.builtin "BaseException.__getattribute__")))
def e220 : HP.Fr → Bool := fun K => HP.eqO (PySem.W.findIn K (.ref (HP.ga K "InvalidLoose")) "__getattr__") (some none)
def e221 : HP.Fr → Bool := fun K => HP.eqB (PySem.W.subIn K (.ref (HP.ga K "InvalidLoose")) (.type "BaseException")) true
def e222 : HP.Fr → Bool := fun K => PySem.W.hasDictIn K (HP.ga K "InvalidLoose")
def e223 : HP.Fr → Bool := fun K => HP.eqO (PySem.W.findIn K (.ref (HP.ga K "InvalidLoose")) "code") (some none)
def e224 : HP.Fr → Bool := fun K => HP.eqO (PySem.W.findIn K (.ref (HP.ga K "InvalidRow")) "__getattribute__") (some (some (.builtin "BaseException.__getattribute__")))
def e225 : HP.Fr → Bool := fun K => HP.eqO (PySem.W.findIn K (.ref (HP.ga K "InvalidRow")) "__getattr__") (some none)
def e226 : HP.Fr → Bool := fun K => HP.eqB (PySem.W.subIn K (.ref (HP.ga K "InvalidRow")) (.type "BaseException")) true
def e227 : HP.Fr → Bool := fun K => PySem.W.hasDictIn K (HP.ga K "InvalidRow")
def e228 : HP.Fr → Bool := fun K => HP.eqO (PySem.W.findIn K (.ref (HP.ga K "InvalidRow")) "code") (some none)
def e229 : HP.Fr → Bool := fun K => HP.eqO (PySem.W.findIn K (.ref (HP.ga K "InvalidScheme")) "__getattribute__") (some (some (.builtin "BaseException.__getattribute__")))
def e230 : HP.Fr → Bool := fun K => HP.eqO (PySem.W.findIn K (.ref (HP.ga K "InvalidScheme")) "__getattr__") (some none)
def e231 : HP.Fr → Bool := fun K => HP.eqB (PySem.W.subIn K (.ref (HP.ga K "InvalidScheme")) (.type "BaseException")) true
def e232 : HP.Fr → Bool := fun K => PySem.W.hasDictIn K (HP.ga K "InvalidScheme")
def e233 : HP.Fr → Bool := fun K => HP.eqO (PySem.W.findIn K (.ref (HP.ga K "InvalidScheme")) "code") (some none)
def e234 : HP.Fr → Bool := fun K => HP.eqO (PySem.W.findIn K (.ref (HP.ga K "InvalidName")) "__getattribute__") (some (some (.builtin "BaseException.__getattribute__")))
def e235 : HP.Fr → Bool := fun K => HP.eqO (PySem.W.findIn K (.ref (HP.ga K "InvalidName")) "__getattr__") (some none)
def e236 : HP.Fr → Bool := fun K => HP.eqB (PySem.W.subIn K (.ref (HP.ga K "InvalidName")) (.type "BaseException")) true
def e237 : HP.Fr → Bool := fun K => PySem.W.hasDictIn K (HP.ga K "InvalidName")
def e238 : HP.Fr → Bool := fun K => HP.eqO (PySem.W.findIn K (.ref (HP.ga K "InvalidName")) "code") (some none)
def e239 : HP.Fr → Bool := fun K => HP.esL K [(HP.ga K "InvalidName"), (HP.ga K "InvalidScheme"), (HP.ga K "InvalidRow"), (HP.ga K "InvalidLoose"), (HP.ga K "InvalidVariables"), (HP.ga K "InvalidPart"), (HP.ga K "InvalidFormula"), (HP.ga K "InvalidColumns"), (HP.ga K "InvalidAnswer"), (HP.ga K "InvalidTruths"), (HP.ga K "InvalidFilling"), (HP.ga K "InvalidMeaning"), (HP.ga K "InvalidText"), (HP.ga K "InvalidCommand"), (HP.ga K "InvalidLimit"), (HP.ga K "InvalidPage"), (HP.ga K "OtherScheme"), (HP.ga K "OtherColumns"), (HP.ga K "HasColumns"), (HP.ga K "NotSafe"), (HP.ga K "TooMany"), (HP.ga K "Full"), (HP.ga K "UnknownName"), (HP.ga K "UnknownRow"), (HP.ga K "UnknownValue"), (HP.ga K "NothingLeft")]
def e240 : HP.Fr → Bool := fun K => HP.kiL K (.ref (HP.ga K "SureError")) [((HP.ga K "InvalidName"), true), ((HP.ga K "InvalidScheme"), true), ((HP.ga K "InvalidRow"), true), ((HP.ga K "InvalidLoose"), true), ((HP.ga K "InvalidVariables"), true), ((HP.ga K "InvalidPart"), true), ((HP.ga K "InvalidFormula"), true), ((HP.ga K "InvalidColumns"), true), ((HP.ga K "InvalidAnswer"), true), ((HP.ga K "InvalidTruths"), true), ((HP.ga K "InvalidFilling"), true), ((HP.ga K "InvalidMeaning"), true), ((HP.ga K "InvalidText"), true), ((HP.ga K "InvalidCommand"), true), ((HP.ga K "InvalidLimit"), true), ((HP.ga K "InvalidPage"), true), ((HP.ga K "OtherScheme"), true), ((HP.ga K "OtherColumns"), true), ((HP.ga K "HasColumns"), true), ((HP.ga K "NotSafe"), true), ((HP.ga K "TooMany"), true), ((HP.ga K "Full"), true), ((HP.ga K "UnknownName"), false), ((HP.ga K "UnknownRow"), false), ((HP.ga K "UnknownValue"), false), ((HP.ga K "NothingLeft"), false)]
def e241 : HP.Fr → Bool := fun K => HP.kiL K (.type "ValueError") [((HP.ga K "InvalidName"), true), ((HP.ga K "InvalidScheme"), true), ((HP.ga K "InvalidRow"), true), ((HP.ga K "InvalidLoose"), true), ((HP.ga K "InvalidVariables"), true), ((HP.ga K "InvalidPart"), true), ((HP.ga K "InvalidFormula"), true), ((HP.ga K "InvalidColumns"), true), ((HP.ga K "InvalidAnswer"), true), ((HP.ga K "InvalidTruths"), true), ((HP.ga K "InvalidFilling"), true), ((HP.ga K "InvalidMeaning"), true), ((HP.ga K "InvalidText"), true), ((HP.ga K "InvalidCommand"), true), ((HP.ga K "InvalidLimit"), true), ((HP.ga K "InvalidPage"), true), ((HP.ga K "OtherScheme"), true), ((HP.ga K "OtherColumns"), true), ((HP.ga K "HasColumns"), true), ((HP.ga K "NotSafe"), true), ((HP.ga K "TooMany"), true), ((HP.ga K "Full"), true), ((HP.ga K "UnknownName"), false), ((HP.ga K "UnknownRow"), false), ((HP.ga K "UnknownValue"), false), ((HP.ga K "NothingLeft"), false)]
def e242 : HP.Fr → Bool := fun K => HP.kiL K (.ref (HP.ga K "Missing")) [((HP.ga K "InvalidName"), false), ((HP.ga K "InvalidScheme"), false), ((HP.ga K "InvalidRow"), false), ((HP.ga K "InvalidLoose"), false), ((HP.ga K "InvalidVariables"), false), ((HP.ga K "InvalidPart"), false), ((HP.ga K "InvalidFormula"), false), ((HP.ga K "InvalidColumns"), false), ((HP.ga K "InvalidAnswer"), false), ((HP.ga K "InvalidTruths"), false), ((HP.ga K "InvalidFilling"), false), ((HP.ga K "InvalidMeaning"), false), ((HP.ga K "InvalidText"), false), ((HP.ga K "InvalidCommand"), false), ((HP.ga K "InvalidLimit"), false), ((HP.ga K "InvalidPage"), false), ((HP.ga K "OtherScheme"), false), ((HP.ga K "OtherColumns"), false), ((HP.ga K "HasColumns"), false), ((HP.ga K "NotSafe"), false), ((HP.ga K "TooMany"), false), ((HP.ga K "Full"), false), ((HP.ga K "UnknownName"), true), ((HP.ga K "UnknownRow"), true), ((HP.ga K "UnknownValue"), true), ((HP.ga K "NothingLeft"), false)]
def e243 : HP.Fr → Bool := fun K => HP.kiL K (.type "LookupError") [((HP.ga K "InvalidName"), false), ((HP.ga K "InvalidScheme"), false), ((HP.ga K "InvalidRow"), false), ((HP.ga K "InvalidLoose"), false), ((HP.ga K "InvalidVariables"), false), ((HP.ga K "InvalidPart"), false), ((HP.ga K "InvalidFormula"), false), ((HP.ga K "InvalidColumns"), false), ((HP.ga K "InvalidAnswer"), false), ((HP.ga K "InvalidTruths"), false), ((HP.ga K "InvalidFilling"), false), ((HP.ga K "InvalidMeaning"), false), ((HP.ga K "InvalidText"), false), ((HP.ga K "InvalidCommand"), false), ((HP.ga K "InvalidLimit"), false), ((HP.ga K "InvalidPage"), false), ((HP.ga K "OtherScheme"), false), ((HP.ga K "OtherColumns"), false), ((HP.ga K "HasColumns"), false), ((HP.ga K "NotSafe"), false), ((HP.ga K "TooMany"), false), ((HP.ga K "Full"), false), ((HP.ga K "UnknownName"), true), ((HP.ga K "UnknownRow"), true), ((HP.ga K "UnknownValue"), true), ((HP.ga K "NothingLeft"), true)]
def e244 : HP.Fr → Bool := fun K => HP.kiL K (.type "IndexError") [((HP.ga K "InvalidName"), false), ((HP.ga K "InvalidScheme"), false), ((HP.ga K "InvalidRow"), false), ((HP.ga K "InvalidLoose"), false), ((HP.ga K "InvalidVariables"), false), ((HP.ga K "InvalidPart"), false), ((HP.ga K "InvalidFormula"), false), ((HP.ga K "InvalidColumns"), false), ((HP.ga K "InvalidAnswer"), false), ((HP.ga K "InvalidTruths"), false), ((HP.ga K "InvalidFilling"), false), ((HP.ga K "InvalidMeaning"), false), ((HP.ga K "InvalidText"), false), ((HP.ga K "InvalidCommand"), false), ((HP.ga K "InvalidLimit"), false), ((HP.ga K "InvalidPage"), false), ((HP.ga K "OtherScheme"), false), ((HP.ga K "OtherColumns"), false), ((HP.ga K "HasColumns"), false), ((HP.ga K "NotSafe"), false), ((HP.ga K "TooMany"), false), ((HP.ga K "Full"), false), ((HP.ga K "UnknownName"), false), ((HP.ga K "UnknownRow"), false), ((HP.ga K "UnknownValue"), false), ((HP.ga K "NothingLeft"), true)]
def e245 : HP.Fr → Bool := fun K => PySem.W.keepIn K (.ref (HP.ga K "InvalidName"))
def e246 : HP.Fr → Bool := fun K => PySem.W.keepIn K (.ref (HP.ga K "InvalidScheme"))
def e247 : HP.Fr → Bool := fun K => PySem.W.keepIn K (.ref (HP.ga K "InvalidRow"))
def e248 : HP.Fr → Bool := fun K => PySem.W.keepIn K (.ref (HP.ga K "InvalidLoose"))
def e249 : HP.Fr → Bool := fun K => PySem.W.keepIn K (.ref (HP.ga K "InvalidVariables"))
def e250 : HP.Fr → Bool := fun K => PySem.W.keepIn K (.ref (HP.ga K "InvalidPart"))
def e251 : HP.Fr → Bool := fun K => PySem.W.keepIn K (.ref (HP.ga K "InvalidFormula"))
def e252 : HP.Fr → Bool := fun K => PySem.W.keepIn K (.ref (HP.ga K "InvalidColumns"))
def e253 : HP.Fr → Bool := fun K => PySem.W.keepIn K (.ref (HP.ga K "InvalidAnswer"))
def e254 : HP.Fr → Bool := fun K => PySem.W.keepIn K (.ref (HP.ga K "InvalidTruths"))
def e255 : HP.Fr → Bool := fun K => PySem.W.keepIn K (.ref (HP.ga K "InvalidFilling"))
def e256 : HP.Fr → Bool := fun K => PySem.W.keepIn K (.ref (HP.ga K "InvalidMeaning"))
def e257 : HP.Fr → Bool := fun K => PySem.W.keepIn K (.ref (HP.ga K "InvalidText"))
def e258 : HP.Fr → Bool := fun K => PySem.W.keepIn K (.ref (HP.ga K "InvalidCommand"))
def e259 : HP.Fr → Bool := fun K => PySem.W.keepIn K (.ref (HP.ga K "InvalidLimit"))
def e260 : HP.Fr → Bool := fun K => PySem.W.keepIn K (.ref (HP.ga K "InvalidPage"))
def e261 : HP.Fr → Bool := fun K => PySem.W.keepIn K (.ref (HP.ga K "OtherScheme"))
def e262 : HP.Fr → Bool := fun K => PySem.W.keepIn K (.ref (HP.ga K "OtherColumns"))
def e263 : HP.Fr → Bool := fun K => PySem.W.keepIn K (.ref (HP.ga K "HasColumns"))
def e264 : HP.Fr → Bool := fun K => PySem.W.keepIn K (.ref (HP.ga K "NotSafe"))
def e265 : HP.Fr → Bool := fun K => PySem.W.keepIn K (.ref (HP.ga K "TooMany"))
def e266 : HP.Fr → Bool := fun K => PySem.W.keepIn K (.ref (HP.ga K "Full"))
def e267 : HP.Fr → Bool := fun K => PySem.W.keepIn K (.ref (HP.ga K "UnknownName"))
def e268 : HP.Fr → Bool := fun K => PySem.W.keepIn K (.ref (HP.ga K "UnknownRow"))
def e269 : HP.Fr → Bool := fun K => PySem.W.keepIn K (.ref (HP.ga K "UnknownValue"))
def e270 : HP.Fr → Bool := fun K => PySem.W.keepIn K (.ref (HP.ga K "NothingLeft"))
def e271 : HP.Fr → Bool := fun K => HP.eqO (PySem.W.findIn K (.ref (HP.ga K "InvalidCommand")) "at") (some none)
def e272 : HP.Fr → Bool := fun K => HP.eqO (PySem.W.findIn K (.ref (HP.ga K "InvalidText")) "at") (some none)
def e273 : HP.Fr → Bool := fun K => HP.eqO (PySem.W.findIn K (.ref (HP.ga K "InvalidPart")) "at") (some none)
def e274 : HP.Fr → Bool := fun K => HP.eqO (PySem.W.findIn K (.ref (HP.ga K "InvalidLoose")) "at") (some none)
def e275 : HP.Fr → Bool := fun K => HP.eqO (PySem.W.findIn K (.ref (HP.ga K "InvalidRow")) "at") (some none)
def e276 : HP.Fr → Bool := fun K => HP.eqO (PySem.W.findIn K (.ref (HP.ga K "InvalidScheme")) "at") (some none)
def e277 : HP.Fr → Bool := fun K => HP.eqO (PySem.W.findIn K (.ref (HP.ga K "TooMany")) "most") (some none)
def e278 : HP.Fr → Bool := fun K => HP.eqO (PySem.W.findIn K (.ref (HP.ga K "Full")) "limit") (some none)
def e279 : HP.Fr → Bool := fun K => HP.eqO (PySem.W.findIn K (.ref (HP.ga K "UnknownName")) "name") (some none)
def e280 : HP.Fr → Bool := fun K => HP.eqO (PySem.W.findIn K (.ref (HP.ga K "UnknownRow")) "row") (some none)
def e281 : HP.Fr → Bool := fun K => HP.eqO (PySem.W.findIn K (.ref (HP.ga K "InvalidPage")) "line") (some none)
def e282 : HP.Fr → Bool := fun K => HP.eqO (PySem.W.findIn K (.ref (HP.ga K "UnknownValue")) "given") (some none)
def e283 : HP.Fr → Bool := fun K => HP.eqO (PySem.W.findIn K (.ref (HP.ga K "InvalidLimit")) "given") (some none)
def e284 : HP.Fr → Bool := fun K => HP.eqO (PySem.W.findIn K (.ref (HP.ga K "InvalidMeaning")) "given") (some none)
def e285 : HP.Fr → Bool := fun K => HP.eqO (PySem.W.findIn K (.ref (HP.ga K "InvalidFilling")) "given") (some none)
def e286 : HP.Fr → Bool := fun K => HP.eqO (PySem.W.findIn K (.ref (HP.ga K "InvalidTruths")) "given") (some none)
def e287 : HP.Fr → Bool := fun K => HP.eqO (PySem.W.findIn K (.ref (HP.ga K "InvalidAnswer")) "given") (some none)
def e288 : HP.Fr → Bool := fun K => HP.eqO (PySem.W.findIn K (.ref (HP.ga K "InvalidColumns")) "given") (some none)
def e289 : HP.Fr → Bool := fun K => HP.eqO (PySem.W.findIn K (.ref (HP.ga K "InvalidFormula")) "given") (some none)
def e290 : HP.Fr → Bool := fun K => HP.eqO (PySem.W.findIn K (.ref (HP.ga K "InvalidVariables")) "given") (some none)
def e291 : HP.Fr → Bool := fun K => HP.eqO (PySem.W.findIn K (.ref (HP.ga K "InvalidName")) "given") (some none)
def e292 : HP.Fr → Bool := fun K => HP.kiL K (.ref (HP.ga K "InvalidName")) [((HP.ga K "InvalidName"), true), ((HP.ga K "InvalidScheme"), false), ((HP.ga K "InvalidRow"), false), ((HP.ga K "InvalidLoose"), false), ((HP.ga K "InvalidVariables"), false), ((HP.ga K "InvalidPart"), false), ((HP.ga K "InvalidFormula"), false), ((HP.ga K "InvalidColumns"), false), ((HP.ga K "InvalidAnswer"), false), ((HP.ga K "InvalidTruths"), false), ((HP.ga K "InvalidFilling"), false), ((HP.ga K "InvalidMeaning"), false), ((HP.ga K "InvalidText"), false), ((HP.ga K "InvalidCommand"), false), ((HP.ga K "InvalidLimit"), false), ((HP.ga K "InvalidPage"), false), ((HP.ga K "OtherScheme"), false), ((HP.ga K "OtherColumns"), false), ((HP.ga K "HasColumns"), false), ((HP.ga K "NotSafe"), false), ((HP.ga K "TooMany"), false), ((HP.ga K "Full"), false), ((HP.ga K "UnknownName"), false), ((HP.ga K "UnknownRow"), false), ((HP.ga K "UnknownValue"), false), ((HP.ga K "NothingLeft"), false)]
def e293 : HP.Fr → Bool := fun K => HP.kiL K (.ref (HP.ga K "InvalidScheme")) [((HP.ga K "InvalidName"), false), ((HP.ga K "InvalidScheme"), true), ((HP.ga K "InvalidRow"), false), ((HP.ga K "InvalidLoose"), false), ((HP.ga K "InvalidVariables"), false), ((HP.ga K "InvalidPart"), false), ((HP.ga K "InvalidFormula"), false), ((HP.ga K "InvalidColumns"), false), ((HP.ga K "InvalidAnswer"), false), ((HP.ga K "InvalidTruths"), false), ((HP.ga K "InvalidFilling"), false), ((HP.ga K "InvalidMeaning"), false), ((HP.ga K "InvalidText"), false), ((HP.ga K "InvalidCommand"), false), ((HP.ga K "InvalidLimit"), false), ((HP.ga K "InvalidPage"), false), ((HP.ga K "OtherScheme"), false), ((HP.ga K "OtherColumns"), false), ((HP.ga K "HasColumns"), false), ((HP.ga K "NotSafe"), false), ((HP.ga K "TooMany"), false), ((HP.ga K "Full"), false), ((HP.ga K "UnknownName"), false), ((HP.ga K "UnknownRow"), false), ((HP.ga K "UnknownValue"), false), ((HP.ga K "NothingLeft"), false)]
def e294 : HP.Fr → Bool := fun K => HP.kiL K (.ref (HP.ga K "InvalidRow")) [((HP.ga K "InvalidName"), false), ((HP.ga K "InvalidScheme"), false), ((HP.ga K "InvalidRow"), true), ((HP.ga K "InvalidLoose"), false), ((HP.ga K "InvalidVariables"), false), ((HP.ga K "InvalidPart"), false), ((HP.ga K "InvalidFormula"), false), ((HP.ga K "InvalidColumns"), false), ((HP.ga K "InvalidAnswer"), false), ((HP.ga K "InvalidTruths"), false), ((HP.ga K "InvalidFilling"), false), ((HP.ga K "InvalidMeaning"), false), ((HP.ga K "InvalidText"), false), ((HP.ga K "InvalidCommand"), false), ((HP.ga K "InvalidLimit"), false), ((HP.ga K "InvalidPage"), false), ((HP.ga K "OtherScheme"), false), ((HP.ga K "OtherColumns"), false), ((HP.ga K "HasColumns"), false), ((HP.ga K "NotSafe"), false), ((HP.ga K "TooMany"), false), ((HP.ga K "Full"), false), ((HP.ga K "UnknownName"), false), ((HP.ga K "UnknownRow"), false), ((HP.ga K "UnknownValue"), false), ((HP.ga K "NothingLeft"), false)]
def e295 : HP.Fr → Bool := fun K => HP.kiL K (.ref (HP.ga K "InvalidLoose")) [((HP.ga K "InvalidName"), false), ((HP.ga K "InvalidScheme"), false), ((HP.ga K "InvalidRow"), false), ((HP.ga K "InvalidLoose"), true), ((HP.ga K "InvalidVariables"), false), ((HP.ga K "InvalidPart"), false), ((HP.ga K "InvalidFormula"), false), ((HP.ga K "InvalidColumns"), false), ((HP.ga K "InvalidAnswer"), false), ((HP.ga K "InvalidTruths"), false), ((HP.ga K "InvalidFilling"), false), ((HP.ga K "InvalidMeaning"), false), ((HP.ga K "InvalidText"), false), ((HP.ga K "InvalidCommand"), false), ((HP.ga K "InvalidLimit"), false), ((HP.ga K "InvalidPage"), false), ((HP.ga K "OtherScheme"), false), ((HP.ga K "OtherColumns"), false), ((HP.ga K "HasColumns"), false), ((HP.ga K "NotSafe"), false), ((HP.ga K "TooMany"), false), ((HP.ga K "Full"), false), ((HP.ga K "UnknownName"), false), ((HP.ga K "UnknownRow"), false), ((HP.ga K "UnknownValue"), false), ((HP.ga K "NothingLeft"), false)]
def e296 : HP.Fr → Bool := fun K => HP.kiL K (.ref (HP.ga K "InvalidVariables")) [((HP.ga K "InvalidName"), false), ((HP.ga K "InvalidScheme"), false), ((HP.ga K "InvalidRow"), false), ((HP.ga K "InvalidLoose"), false), ((HP.ga K "InvalidVariables"), true), ((HP.ga K "InvalidPart"), false), ((HP.ga K "InvalidFormula"), false), ((HP.ga K "InvalidColumns"), false), ((HP.ga K "InvalidAnswer"), false), ((HP.ga K "InvalidTruths"), false), ((HP.ga K "InvalidFilling"), false), ((HP.ga K "InvalidMeaning"), false), ((HP.ga K "InvalidText"), false), ((HP.ga K "InvalidCommand"), false), ((HP.ga K "InvalidLimit"), false), ((HP.ga K "InvalidPage"), false), ((HP.ga K "OtherScheme"), false), ((HP.ga K "OtherColumns"), false), ((HP.ga K "HasColumns"), false), ((HP.ga K "NotSafe"), false), ((HP.ga K "TooMany"), false), ((HP.ga K "Full"), false), ((HP.ga K "UnknownName"), false), ((HP.ga K "UnknownRow"), false), ((HP.ga K "UnknownValue"), false), ((HP.ga K "NothingLeft"), false)]
def e297 : HP.Fr → Bool := fun K => HP.kiL K (.ref (HP.ga K "InvalidPart")) [((HP.ga K "InvalidName"), false), ((HP.ga K "InvalidScheme"), false), ((HP.ga K "InvalidRow"), false), ((HP.ga K "InvalidLoose"), false), ((HP.ga K "InvalidVariables"), false), ((HP.ga K "InvalidPart"), true), ((HP.ga K "InvalidFormula"), false), ((HP.ga K "InvalidColumns"), false), ((HP.ga K "InvalidAnswer"), false), ((HP.ga K "InvalidTruths"), false), ((HP.ga K "InvalidFilling"), false), ((HP.ga K "InvalidMeaning"), false), ((HP.ga K "InvalidText"), false), ((HP.ga K "InvalidCommand"), false), ((HP.ga K "InvalidLimit"), false), ((HP.ga K "InvalidPage"), false), ((HP.ga K "OtherScheme"), false), ((HP.ga K "OtherColumns"), false), ((HP.ga K "HasColumns"), false), ((HP.ga K "NotSafe"), false), ((HP.ga K "TooMany"), false), ((HP.ga K "Full"), false), ((HP.ga K "UnknownName"), false), ((HP.ga K "UnknownRow"), false), ((HP.ga K "UnknownValue"), false), ((HP.ga K "NothingLeft"), false)]
def e298 : HP.Fr → Bool := fun K => HP.kiL K (.ref (HP.ga K "InvalidFormula")) [((HP.ga K "InvalidName"), false), ((HP.ga K "InvalidScheme"), false), ((HP.ga K "InvalidRow"), false), ((HP.ga K "InvalidLoose"), false), ((HP.ga K "InvalidVariables"), false), ((HP.ga K "InvalidPart"), false), ((HP.ga K "InvalidFormula"), true), ((HP.ga K "InvalidColumns"), false), ((HP.ga K "InvalidAnswer"), false), ((HP.ga K "InvalidTruths"), false), ((HP.ga K "InvalidFilling"), false), ((HP.ga K "InvalidMeaning"), false), ((HP.ga K "InvalidText"), false), ((HP.ga K "InvalidCommand"), false), ((HP.ga K "InvalidLimit"), false), ((HP.ga K "InvalidPage"), false), ((HP.ga K "OtherScheme"), false), ((HP.ga K "OtherColumns"), false), ((HP.ga K "HasColumns"), false), ((HP.ga K "NotSafe"), false), ((HP.ga K "TooMany"), false), ((HP.ga K "Full"), false), ((HP.ga K "UnknownName"), false), ((HP.ga K "UnknownRow"), false), ((HP.ga K "UnknownValue"), false), ((HP.ga K "NothingLeft"), false)]
def e299 : HP.Fr → Bool := fun K => HP.kiL K (.ref (HP.ga K "InvalidColumns")) [((HP.ga K "InvalidName"), false), ((HP.ga K "InvalidScheme"), false), ((HP.ga K "InvalidRow"), false), ((HP.ga K "InvalidLoose"), false), ((HP.ga K "InvalidVariables"), false), ((HP.ga K "InvalidPart"), false), ((HP.ga K "InvalidFormula"), false), ((HP.ga K "InvalidColumns"), true), ((HP.ga K "InvalidAnswer"), false), ((HP.ga K "InvalidTruths"), false), ((HP.ga K "InvalidFilling"), false), ((HP.ga K "InvalidMeaning"), false), ((HP.ga K "InvalidText"), false), ((HP.ga K "InvalidCommand"), false), ((HP.ga K "InvalidLimit"), false), ((HP.ga K "InvalidPage"), false), ((HP.ga K "OtherScheme"), false), ((HP.ga K "OtherColumns"), false), ((HP.ga K "HasColumns"), false), ((HP.ga K "NotSafe"), false), ((HP.ga K "TooMany"), false), ((HP.ga K "Full"), false), ((HP.ga K "UnknownName"), false), ((HP.ga K "UnknownRow"), false), ((HP.ga K "UnknownValue"), false), ((HP.ga K "NothingLeft"), false)]
def e300 : HP.Fr → Bool := fun K => HP.kiL K (.ref (HP.ga K "InvalidAnswer")) [((HP.ga K "InvalidName"), false), ((HP.ga K "InvalidScheme"), false), ((HP.ga K "InvalidRow"), false), ((HP.ga K "InvalidLoose"), false), ((HP.ga K "InvalidVariables"), false), ((HP.ga K "InvalidPart"), false), ((HP.ga K "InvalidFormula"), false), ((HP.ga K "InvalidColumns"), false), ((HP.ga K "InvalidAnswer"), true), ((HP.ga K "InvalidTruths"), false), ((HP.ga K "InvalidFilling"), false), ((HP.ga K "InvalidMeaning"), false), ((HP.ga K "InvalidText"), false), ((HP.ga K "InvalidCommand"), false), ((HP.ga K "InvalidLimit"), false), ((HP.ga K "InvalidPage"), false), ((HP.ga K "OtherScheme"), false), ((HP.ga K "OtherColumns"), false), ((HP.ga K "HasColumns"), false), ((HP.ga K "NotSafe"), false), ((HP.ga K "TooMany"), false), ((HP.ga K "Full"), false), ((HP.ga K "UnknownName"), false), ((HP.ga K "UnknownRow"), false), ((HP.ga K "UnknownValue"), false), ((HP.ga K "NothingLeft"), false)]
def e301 : HP.Fr → Bool := fun K => HP.kiL K (.ref (HP.ga K "InvalidTruths")) [((HP.ga K "InvalidName"), false), ((HP.ga K "InvalidScheme"), false), ((HP.ga K "InvalidRow"), false), ((HP.ga K "InvalidLoose"), false), ((HP.ga K "InvalidVariables"), false), ((HP.ga K "InvalidPart"), false), ((HP.ga K "InvalidFormula"), false), ((HP.ga K "InvalidColumns"), false), ((HP.ga K "InvalidAnswer"), false), ((HP.ga K "InvalidTruths"), true), ((HP.ga K "InvalidFilling"), false), ((HP.ga K "InvalidMeaning"), false), ((HP.ga K "InvalidText"), false), ((HP.ga K "InvalidCommand"), false), ((HP.ga K "InvalidLimit"), false), ((HP.ga K "InvalidPage"), false), ((HP.ga K "OtherScheme"), false), ((HP.ga K "OtherColumns"), false), ((HP.ga K "HasColumns"), false), ((HP.ga K "NotSafe"), false), ((HP.ga K "TooMany"), false), ((HP.ga K "Full"), false), ((HP.ga K "UnknownName"), false), ((HP.ga K "UnknownRow"), false), ((HP.ga K "UnknownValue"), false), ((HP.ga K "NothingLeft"), false)]
def e302 : HP.Fr → Bool := fun K => HP.kiL K (.ref (HP.ga K "InvalidFilling")) [((HP.ga K "InvalidName"), false), ((HP.ga K "InvalidScheme"), false), ((HP.ga K "InvalidRow"), false), ((HP.ga K "InvalidLoose"), false), ((HP.ga K "InvalidVariables"), false), ((HP.ga K "InvalidPart"), false), ((HP.ga K "InvalidFormula"), false), ((HP.ga K "InvalidColumns"), false), ((HP.ga K "InvalidAnswer"), false), ((HP.ga K "InvalidTruths"), false), ((HP.ga K "InvalidFilling"), true), ((HP.ga K "InvalidMeaning"), false), ((HP.ga K "InvalidText"), false), ((HP.ga K "InvalidCommand"), false), ((HP.ga K "InvalidLimit"), false), ((HP.ga K "InvalidPage"), false), ((HP.ga K "OtherScheme"), false), ((HP.ga K "OtherColumns"), false), ((HP.ga K "HasColumns"), false), ((HP.ga K "NotSafe"), false), ((HP.ga K "TooMany"), false), ((HP.ga K "Full"), false), ((HP.ga K "UnknownName"), false), ((HP.ga K "UnknownRow"), false), ((HP.ga K "UnknownValue"), false), ((HP.ga K "NothingLeft"), false)]
def e303 : HP.Fr → Bool := fun K => HP.kiL K (.ref (HP.ga K "InvalidMeaning")) [((HP.ga K "InvalidName"), false), ((HP.ga K "InvalidScheme"), false), ((HP.ga K "InvalidRow"), false), ((HP.ga K "InvalidLoose"), false), ((HP.ga K "InvalidVariables"), false), ((HP.ga K "InvalidPart"), false), ((HP.ga K "InvalidFormula"), false), ((HP.ga K "InvalidColumns"), false), ((HP.ga K "InvalidAnswer"), false), ((HP.ga K "InvalidTruths"), false), ((HP.ga K "InvalidFilling"), false), ((HP.ga K "InvalidMeaning"), true), ((HP.ga K "InvalidText"), false), ((HP.ga K "InvalidCommand"), false), ((HP.ga K "InvalidLimit"), false), ((HP.ga K "InvalidPage"), false), ((HP.ga K "OtherScheme"), false), ((HP.ga K "OtherColumns"), false), ((HP.ga K "HasColumns"), false), ((HP.ga K "NotSafe"), false), ((HP.ga K "TooMany"), false), ((HP.ga K "Full"), false), ((HP.ga K "UnknownName"), false), ((HP.ga K "UnknownRow"), false), ((HP.ga K "UnknownValue"), false), ((HP.ga K "NothingLeft"), false)]
def e304 : HP.Fr → Bool := fun K => HP.kiL K (.ref (HP.ga K "InvalidText")) [((HP.ga K "InvalidName"), false), ((HP.ga K "InvalidScheme"), false), ((HP.ga K "InvalidRow"), false), ((HP.ga K "InvalidLoose"), false), ((HP.ga K "InvalidVariables"), false), ((HP.ga K "InvalidPart"), false), ((HP.ga K "InvalidFormula"), false), ((HP.ga K "InvalidColumns"), false), ((HP.ga K "InvalidAnswer"), false), ((HP.ga K "InvalidTruths"), false), ((HP.ga K "InvalidFilling"), false), ((HP.ga K "InvalidMeaning"), false), ((HP.ga K "InvalidText"), true), ((HP.ga K "InvalidCommand"), false), ((HP.ga K "InvalidLimit"), false), ((HP.ga K "InvalidPage"), false), ((HP.ga K "OtherScheme"), false), ((HP.ga K "OtherColumns"), false), ((HP.ga K "HasColumns"), false), ((HP.ga K "NotSafe"), false), ((HP.ga K "TooMany"), false), ((HP.ga K "Full"), false), ((HP.ga K "UnknownName"), false), ((HP.ga K "UnknownRow"), false), ((HP.ga K "UnknownValue"), false), ((HP.ga K "NothingLeft"), false)]
def e305 : HP.Fr → Bool := fun K => HP.kiL K (.ref (HP.ga K "InvalidCommand")) [((HP.ga K "InvalidName"), false), ((HP.ga K "InvalidScheme"), false), ((HP.ga K "InvalidRow"), false), ((HP.ga K "InvalidLoose"), false), ((HP.ga K "InvalidVariables"), false), ((HP.ga K "InvalidPart"), false), ((HP.ga K "InvalidFormula"), false), ((HP.ga K "InvalidColumns"), false), ((HP.ga K "InvalidAnswer"), false), ((HP.ga K "InvalidTruths"), false), ((HP.ga K "InvalidFilling"), false), ((HP.ga K "InvalidMeaning"), false), ((HP.ga K "InvalidText"), false), ((HP.ga K "InvalidCommand"), true), ((HP.ga K "InvalidLimit"), false), ((HP.ga K "InvalidPage"), false), ((HP.ga K "OtherScheme"), false), ((HP.ga K "OtherColumns"), false), ((HP.ga K "HasColumns"), false), ((HP.ga K "NotSafe"), false), ((HP.ga K "TooMany"), false), ((HP.ga K "Full"), false), ((HP.ga K "UnknownName"), false), ((HP.ga K "UnknownRow"), false), ((HP.ga K "UnknownValue"), false), ((HP.ga K "NothingLeft"), false)]
def e306 : HP.Fr → Bool := fun K => HP.kiL K (.ref (HP.ga K "InvalidLimit")) [((HP.ga K "InvalidName"), false), ((HP.ga K "InvalidScheme"), false), ((HP.ga K "InvalidRow"), false), ((HP.ga K "InvalidLoose"), false), ((HP.ga K "InvalidVariables"), false), ((HP.ga K "InvalidPart"), false), ((HP.ga K "InvalidFormula"), false), ((HP.ga K "InvalidColumns"), false), ((HP.ga K "InvalidAnswer"), false), ((HP.ga K "InvalidTruths"), false), ((HP.ga K "InvalidFilling"), false), ((HP.ga K "InvalidMeaning"), false), ((HP.ga K "InvalidText"), false), ((HP.ga K "InvalidCommand"), false), ((HP.ga K "InvalidLimit"), true), ((HP.ga K "InvalidPage"), false), ((HP.ga K "OtherScheme"), false), ((HP.ga K "OtherColumns"), false), ((HP.ga K "HasColumns"), false), ((HP.ga K "NotSafe"), false), ((HP.ga K "TooMany"), false), ((HP.ga K "Full"), false), ((HP.ga K "UnknownName"), false), ((HP.ga K "UnknownRow"), false), ((HP.ga K "UnknownValue"), false), ((HP.ga K "NothingLeft"), false)]
def e307 : HP.Fr → Bool := fun K => HP.kiL K (.ref (HP.ga K "InvalidPage")) [((HP.ga K "InvalidName"), false), ((HP.ga K "InvalidScheme"), false), ((HP.ga K "InvalidRow"), false), ((HP.ga K "InvalidLoose"), false), ((HP.ga K "InvalidVariables"), false), ((HP.ga K "InvalidPart"), false), ((HP.ga K "InvalidFormula"), false), ((HP.ga K "InvalidColumns"), false), ((HP.ga K "InvalidAnswer"), false), ((HP.ga K "InvalidTruths"), false), ((HP.ga K "InvalidFilling"), false), ((HP.ga K "InvalidMeaning"), false), ((HP.ga K "InvalidText"), false), ((HP.ga K "InvalidCommand"), false), ((HP.ga K "InvalidLimit"), false), ((HP.ga K "InvalidPage"), true), ((HP.ga K "OtherScheme"), false), ((HP.ga K "OtherColumns"), false), ((HP.ga K "HasColumns"), false), ((HP.ga K "NotSafe"), false), ((HP.ga K "TooMany"), false), ((HP.ga K "Full"), false), ((HP.ga K "UnknownName"), false), ((HP.ga K "UnknownRow"), false), ((HP.ga K "UnknownValue"), false), ((HP.ga K "NothingLeft"), false)]
def e308 : HP.Fr → Bool := fun K => HP.kiL K (.ref (HP.ga K "OtherScheme")) [((HP.ga K "InvalidName"), false), ((HP.ga K "InvalidScheme"), false), ((HP.ga K "InvalidRow"), false), ((HP.ga K "InvalidLoose"), false), ((HP.ga K "InvalidVariables"), false), ((HP.ga K "InvalidPart"), false), ((HP.ga K "InvalidFormula"), false), ((HP.ga K "InvalidColumns"), false), ((HP.ga K "InvalidAnswer"), false), ((HP.ga K "InvalidTruths"), false), ((HP.ga K "InvalidFilling"), false), ((HP.ga K "InvalidMeaning"), false), ((HP.ga K "InvalidText"), false), ((HP.ga K "InvalidCommand"), false), ((HP.ga K "InvalidLimit"), false), ((HP.ga K "InvalidPage"), false), ((HP.ga K "OtherScheme"), true), ((HP.ga K "OtherColumns"), false), ((HP.ga K "HasColumns"), false), ((HP.ga K "NotSafe"), false), ((HP.ga K "TooMany"), false), ((HP.ga K "Full"), false), ((HP.ga K "UnknownName"), false), ((HP.ga K "UnknownRow"), false), ((HP.ga K "UnknownValue"), false), ((HP.ga K "NothingLeft"), false)]
def e309 : HP.Fr → Bool := fun K => HP.kiL K (.ref (HP.ga K "OtherColumns")) [((HP.ga K "InvalidName"), false), ((HP.ga K "InvalidScheme"), false), ((HP.ga K "InvalidRow"), false), ((HP.ga K "InvalidLoose"), false), ((HP.ga K "InvalidVariables"), false), ((HP.ga K "InvalidPart"), false), ((HP.ga K "InvalidFormula"), false), ((HP.ga K "InvalidColumns"), false), ((HP.ga K "InvalidAnswer"), false), ((HP.ga K "InvalidTruths"), false), ((HP.ga K "InvalidFilling"), false), ((HP.ga K "InvalidMeaning"), false), ((HP.ga K "InvalidText"), false), ((HP.ga K "InvalidCommand"), false), ((HP.ga K "InvalidLimit"), false), ((HP.ga K "InvalidPage"), false), ((HP.ga K "OtherScheme"), false), ((HP.ga K "OtherColumns"), true), ((HP.ga K "HasColumns"), false), ((HP.ga K "NotSafe"), false), ((HP.ga K "TooMany"), false), ((HP.ga K "Full"), false), ((HP.ga K "UnknownName"), false), ((HP.ga K "UnknownRow"), false), ((HP.ga K "UnknownValue"), false), ((HP.ga K "NothingLeft"), false)]
def e310 : HP.Fr → Bool := fun K => HP.kiL K (.ref (HP.ga K "HasColumns")) [((HP.ga K "InvalidName"), false), ((HP.ga K "InvalidScheme"), false), ((HP.ga K "InvalidRow"), false), ((HP.ga K "InvalidLoose"), false), ((HP.ga K "InvalidVariables"), false), ((HP.ga K "InvalidPart"), false), ((HP.ga K "InvalidFormula"), false), ((HP.ga K "InvalidColumns"), false), ((HP.ga K "InvalidAnswer"), false), ((HP.ga K "InvalidTruths"), false), ((HP.ga K "InvalidFilling"), false), ((HP.ga K "InvalidMeaning"), false), ((HP.ga K "InvalidText"), false), ((HP.ga K "InvalidCommand"), false), ((HP.ga K "InvalidLimit"), false), ((HP.ga K "InvalidPage"), false), ((HP.ga K "OtherScheme"), false), ((HP.ga K "OtherColumns"), false), ((HP.ga K "HasColumns"), true), ((HP.ga K "NotSafe"), false), ((HP.ga K "TooMany"), false), ((HP.ga K "Full"), false), ((HP.ga K "UnknownName"), false), ((HP.ga K "UnknownRow"), false), ((HP.ga K "UnknownValue"), false), ((HP.ga K "NothingLeft"), false)]
def e311 : HP.Fr → Bool := fun K => HP.kiL K (.ref (HP.ga K "NotSafe")) [((HP.ga K "InvalidName"), false), ((HP.ga K "InvalidScheme"), false), ((HP.ga K "InvalidRow"), false), ((HP.ga K "InvalidLoose"), false), ((HP.ga K "InvalidVariables"), false), ((HP.ga K "InvalidPart"), false), ((HP.ga K "InvalidFormula"), false), ((HP.ga K "InvalidColumns"), false), ((HP.ga K "InvalidAnswer"), false), ((HP.ga K "InvalidTruths"), false), ((HP.ga K "InvalidFilling"), false), ((HP.ga K "InvalidMeaning"), false), ((HP.ga K "InvalidText"), false), ((HP.ga K "InvalidCommand"), false), ((HP.ga K "InvalidLimit"), false), ((HP.ga K "InvalidPage"), false), ((HP.ga K "OtherScheme"), false), ((HP.ga K "OtherColumns"), false), ((HP.ga K "HasColumns"), false), ((HP.ga K "NotSafe"), true), ((HP.ga K "TooMany"), false), ((HP.ga K "Full"), false), ((HP.ga K "UnknownName"), false), ((HP.ga K "UnknownRow"), false), ((HP.ga K "UnknownValue"), false), ((HP.ga K "NothingLeft"), false)]
def e312 : HP.Fr → Bool := fun K => HP.kiL K (.ref (HP.ga K "TooMany")) [((HP.ga K "InvalidName"), false), ((HP.ga K "InvalidScheme"), false), ((HP.ga K "InvalidRow"), false), ((HP.ga K "InvalidLoose"), false), ((HP.ga K "InvalidVariables"), false), ((HP.ga K "InvalidPart"), false), ((HP.ga K "InvalidFormula"), false), ((HP.ga K "InvalidColumns"), false), ((HP.ga K "InvalidAnswer"), false), ((HP.ga K "InvalidTruths"), false), ((HP.ga K "InvalidFilling"), false), ((HP.ga K "InvalidMeaning"), false), ((HP.ga K "InvalidText"), false), ((HP.ga K "InvalidCommand"), false), ((HP.ga K "InvalidLimit"), false), ((HP.ga K "InvalidPage"), false), ((HP.ga K "OtherScheme"), false), ((HP.ga K "OtherColumns"), false), ((HP.ga K "HasColumns"), false), ((HP.ga K "NotSafe"), false), ((HP.ga K "TooMany"), true), ((HP.ga K "Full"), false), ((HP.ga K "UnknownName"), false), ((HP.ga K "UnknownRow"), false), ((HP.ga K "UnknownValue"), false), ((HP.ga K "NothingLeft"), false)]
def e313 : HP.Fr → Bool := fun K => HP.kiL K (.ref (HP.ga K "Full")) [((HP.ga K "InvalidName"), false), ((HP.ga K "InvalidScheme"), false), ((HP.ga K "InvalidRow"), false), ((HP.ga K "InvalidLoose"), false), ((HP.ga K "InvalidVariables"), false), ((HP.ga K "InvalidPart"), false), ((HP.ga K "InvalidFormula"), false), ((HP.ga K "InvalidColumns"), false), ((HP.ga K "InvalidAnswer"), false), ((HP.ga K "InvalidTruths"), false), ((HP.ga K "InvalidFilling"), false), ((HP.ga K "InvalidMeaning"), false), ((HP.ga K "InvalidText"), false), ((HP.ga K "InvalidCommand"), false), ((HP.ga K "InvalidLimit"), false), ((HP.ga K "InvalidPage"), false), ((HP.ga K "OtherScheme"), false), ((HP.ga K "OtherColumns"), false), ((HP.ga K "HasColumns"), false), ((HP.ga K "NotSafe"), false), ((HP.ga K "TooMany"), false), ((HP.ga K "Full"), true), ((HP.ga K "UnknownName"), false), ((HP.ga K "UnknownRow"), false), ((HP.ga K "UnknownValue"), false), ((HP.ga K "NothingLeft"), false)]
def e314 : HP.Fr → Bool := fun K => HP.kiL K (.ref (HP.ga K "UnknownName")) [((HP.ga K "InvalidName"), false), ((HP.ga K "InvalidScheme"), false), ((HP.ga K "InvalidRow"), false), ((HP.ga K "InvalidLoose"), false), ((HP.ga K "InvalidVariables"), false), ((HP.ga K "InvalidPart"), false), ((HP.ga K "InvalidFormula"), false), ((HP.ga K "InvalidColumns"), false), ((HP.ga K "InvalidAnswer"), false), ((HP.ga K "InvalidTruths"), false), ((HP.ga K "InvalidFilling"), false), ((HP.ga K "InvalidMeaning"), false), ((HP.ga K "InvalidText"), false), ((HP.ga K "InvalidCommand"), false), ((HP.ga K "InvalidLimit"), false), ((HP.ga K "InvalidPage"), false), ((HP.ga K "OtherScheme"), false), ((HP.ga K "OtherColumns"), false), ((HP.ga K "HasColumns"), false), ((HP.ga K "NotSafe"), false), ((HP.ga K "TooMany"), false), ((HP.ga K "Full"), false), ((HP.ga K "UnknownName"), true), ((HP.ga K "UnknownRow"), false), ((HP.ga K "UnknownValue"), false), ((HP.ga K "NothingLeft"), false)]
def e315 : HP.Fr → Bool := fun K => HP.kiL K (.ref (HP.ga K "UnknownRow")) [((HP.ga K "InvalidName"), false), ((HP.ga K "InvalidScheme"), false), ((HP.ga K "InvalidRow"), false), ((HP.ga K "InvalidLoose"), false), ((HP.ga K "InvalidVariables"), false), ((HP.ga K "InvalidPart"), false), ((HP.ga K "InvalidFormula"), false), ((HP.ga K "InvalidColumns"), false), ((HP.ga K "InvalidAnswer"), false), ((HP.ga K "InvalidTruths"), false), ((HP.ga K "InvalidFilling"), false), ((HP.ga K "InvalidMeaning"), false), ((HP.ga K "InvalidText"), false), ((HP.ga K "InvalidCommand"), false), ((HP.ga K "InvalidLimit"), false), ((HP.ga K "InvalidPage"), false), ((HP.ga K "OtherScheme"), false), ((HP.ga K "OtherColumns"), false), ((HP.ga K "HasColumns"), false), ((HP.ga K "NotSafe"), false), ((HP.ga K "TooMany"), false), ((HP.ga K "Full"), false), ((HP.ga K "UnknownName"), false), ((HP.ga K "UnknownRow"), true), ((HP.ga K "UnknownValue"), false), ((HP.ga K "NothingLeft"), false)]
def e316 : HP.Fr → Bool := fun K => HP.kiL K (.ref (HP.ga K "UnknownValue")) [((HP.ga K "InvalidName"), false), ((HP.ga K "InvalidScheme"), false), ((HP.ga K "InvalidRow"), false), ((HP.ga K "InvalidLoose"), false), ((HP.ga K "InvalidVariables"), false), ((HP.ga K "InvalidPart"), false), ((HP.ga K "InvalidFormula"), false), ((HP.ga K "InvalidColumns"), false), ((HP.ga K "InvalidAnswer"), false), ((HP.ga K "InvalidTruths"), false), ((HP.ga K "InvalidFilling"), false), ((HP.ga K "InvalidMeaning"), false), ((HP.ga K "InvalidText"), false), ((HP.ga K "InvalidCommand"), false), ((HP.ga K "InvalidLimit"), false), ((HP.ga K "InvalidPage"), false), ((HP.ga K "OtherScheme"), false), ((HP.ga K "OtherColumns"), false), ((HP.ga K "HasColumns"), false), ((HP.ga K "NotSafe"), false), ((HP.ga K "TooMany"), false), ((HP.ga K "Full"), false), ((HP.ga K "UnknownName"), false), ((HP.ga K "UnknownRow"), false), ((HP.ga K "UnknownValue"), true), ((HP.ga K "NothingLeft"), false)]
def e317 : HP.Fr → Bool := fun K => HP.kiL K (.ref (HP.ga K "NothingLeft")) [((HP.ga K "InvalidName"), false), ((HP.ga K "InvalidScheme"), false), ((HP.ga K "InvalidRow"), false), ((HP.ga K "InvalidLoose"), false), ((HP.ga K "InvalidVariables"), false), ((HP.ga K "InvalidPart"), false), ((HP.ga K "InvalidFormula"), false), ((HP.ga K "InvalidColumns"), false), ((HP.ga K "InvalidAnswer"), false), ((HP.ga K "InvalidTruths"), false), ((HP.ga K "InvalidFilling"), false), ((HP.ga K "InvalidMeaning"), false), ((HP.ga K "InvalidText"), false), ((HP.ga K "InvalidCommand"), false), ((HP.ga K "InvalidLimit"), false), ((HP.ga K "InvalidPage"), false), ((HP.ga K "OtherScheme"), false), ((HP.ga K "OtherColumns"), false), ((HP.ga K "HasColumns"), false), ((HP.ga K "NotSafe"), false), ((HP.ga K "TooMany"), false), ((HP.ga K "Full"), false), ((HP.ga K "UnknownName"), false), ((HP.ga K "UnknownRow"), false), ((HP.ga K "UnknownValue"), false), ((HP.ga K "NothingLeft"), true)]
def e318 : HP.Fr → Bool := fun K => HP.eqO (PySem.W.nsIn K cStatics "thirdparty.any") (some none)
def e319 : HP.Fr → Bool := fun K => HP.fnxB K (HP.ma K (HP.ga K "InvalidName") "__init__")
def e320 : HP.Fr → Bool := fun K => HP.eqV (PySem.W.typeIn K (.ref (HP.ma K (HP.ga K "InvalidName") "__init__"))) (some (.type "function"))
def e321 : HP.Fr → Bool := fun K => PySem.W.excInitIn K (HP.ga K "InvalidName") [.type "ValueError", .type "Exception", .type "BaseException", .type "object"] "ValueError.__new__"
def e322 : HP.Fr → Bool := fun K => PySem.W.excOver K (HP.ga K "InvalidName") [.type "ValueError", .type "Exception", .type "BaseException", .type "object"]
def e323 : HP.Fr → Bool := fun K => PySem.W.hasDictIn K (HP.ga K "InvalidName")
def e324 : HP.Fr → Bool := fun K => HP.eqO (PySem.W.findIn K (.ref (HP.ga K "InvalidName")) "__setattr__") (some (some (.builtin "object.__setattr__")))
def e325 : HP.Fr → Bool := fun K => HP.eqB (PySem.W.subIn K (.ref (HP.ga K "InvalidName")) (.type "BaseException")) true
def e326 : HP.Fr → Bool := fun K => HP.eqB (PySem.W.subIn K (.ref (HP.ga K "InvalidName")) (.type "ValueError")) true
def e327 : HP.Fr → Bool := fun K => HP.eqV (PySem.W.typeIn K (.ref (HP.ga K "InvalidName"))) (some (.type "type"))
def e328 : HP.Fr → Bool := fun K => PySem.W.keepIn K (.ref (HP.ga K "InvalidName"))
def e329 : HP.Fr → Bool := fun K => HP.eqO (PySem.W.ks_superIn K (HP.ga K "InvalidName") (HP.ga K "InvalidName") "__init__") (some (some (.builtin "ValueError.__init__")))
def e330 : HP.Fr → Bool := fun K => PySem.W.codeIn K (.ref (HP.cdA K (HP.ma K (HP.ga K "InvalidName") "__init__"))) "InvalidName.__init__"
def e331 : HP.Fr → Bool := fun K => HP.cellB K (HP.clA K (HP.ma K (HP.ga K "InvalidName") "__init__")) (HP.ga K "InvalidName")
def e332 : HP.Fr → Bool := fun K => HP.fileB K (HP.cdA K (HP.ma K (HP.ga K "InvalidName") "__init__")) (PySem.Challenge.rw_plainsure_k01_errors_by_themselves).prog.main.file
def e333 : HP.Fr → Bool := fun K => HP.eqB (PySem.W.mroIn K (HP.ga K "InvalidName") (.ref (HP.ga K "InvalidName"))) true
def e334 : HP.Fr → Bool := fun K => HP.eqO (PySem.W.takerIn K (HP.ga K "InvalidName") "code") (some none)
def e335 : HP.Fr → Bool := fun K => HP.eqO (PySem.W.takerIn K (HP.ga K "InvalidName") "given") (some none)
def e336 : HP.Fr → Bool := fun K => HP.fnxB K (HP.ma K (HP.ga K "InvalidScheme") "__init__")
def e337 : HP.Fr → Bool := fun K => HP.eqV (PySem.W.typeIn K (.ref (HP.ma K (HP.ga K "InvalidScheme") "__init__"))) (some (.type "function"))
def e338 : HP.Fr → Bool := fun K => PySem.W.excInitIn K (HP.ga K "InvalidScheme") [.type "ValueError", .type "Exception", .type "BaseException", .type "object"] "ValueError.__new__"
def e339 : HP.Fr → Bool := fun K => PySem.W.excOver K (HP.ga K "InvalidScheme") [.type "ValueError", .type "Exception", .type "BaseException", .type "object"]
def e340 : HP.Fr → Bool := fun K => PySem.W.hasDictIn K (HP.ga K "InvalidScheme")
def e341 : HP.Fr → Bool := fun K => HP.eqO (PySem.W.findIn K (.ref (HP.ga K "InvalidScheme")) "__setattr__") (some (some (.builtin "object.__setattr__")))
def e342 : HP.Fr → Bool := fun K => HP.eqB (PySem.W.subIn K (.ref (HP.ga K "InvalidScheme")) (.type "BaseException")) true
def e343 : HP.Fr → Bool := fun K => HP.eqB (PySem.W.subIn K (.ref (HP.ga K "InvalidScheme")) (.type "ValueError")) true
def e344 : HP.Fr → Bool := fun K => HP.eqV (PySem.W.typeIn K (.ref (HP.ga K "InvalidScheme"))) (some (.type "type"))
def e345 : HP.Fr → Bool := fun K => PySem.W.keepIn K (.ref (HP.ga K "InvalidScheme"))
def e346 : HP.Fr → Bool := fun K => HP.eqO (PySem.W.ks_superIn K (HP.ga K "InvalidScheme") (HP.ga K "InvalidScheme") "__init__") (some (some (.builtin "ValueError.__init__")))
def e347 : HP.Fr → Bool := fun K => PySem.W.codeIn K (.ref (HP.cdA K (HP.ma K (HP.ga K "InvalidScheme") "__init__"))) "InvalidScheme.__init__"
def e348 : HP.Fr → Bool := fun K => HP.cellB K (HP.clA K (HP.ma K (HP.ga K "InvalidScheme") "__init__")) (HP.ga K "InvalidScheme")
def e349 : HP.Fr → Bool := fun K => HP.fileB K (HP.cdA K (HP.ma K (HP.ga K "InvalidScheme") "__init__")) (PySem.Challenge.rw_plainsure_k01_errors_by_themselves).prog.main.file
def e350 : HP.Fr → Bool := fun K => HP.eqB (PySem.W.mroIn K (HP.ga K "InvalidScheme") (.ref (HP.ga K "InvalidScheme"))) true
def e351 : HP.Fr → Bool := fun K => HP.eqO (PySem.W.takerIn K (HP.ga K "InvalidScheme") "code") (some none)
def e352 : HP.Fr → Bool := fun K => HP.eqO (PySem.W.takerIn K (HP.ga K "InvalidScheme") "at") (some none)
def e353 : HP.Fr → Bool := fun K => HP.fnxB K (HP.ma K (HP.ga K "InvalidRow") "__init__")
def e354 : HP.Fr → Bool := fun K => HP.eqV (PySem.W.typeIn K (.ref (HP.ma K (HP.ga K "InvalidRow") "__init__"))) (some (.type "function"))
def e355 : HP.Fr → Bool := fun K => PySem.W.excInitIn K (HP.ga K "InvalidRow") [.type "ValueError", .type "Exception", .type "BaseException", .type "object"] "ValueError.__new__"
def e356 : HP.Fr → Bool := fun K => PySem.W.excOver K (HP.ga K "InvalidRow") [.type "ValueError", .type "Exception", .type "BaseException", .type "object"]
def e357 : HP.Fr → Bool := fun K => PySem.W.hasDictIn K (HP.ga K "InvalidRow")
def e358 : HP.Fr → Bool := fun K => HP.eqO (PySem.W.findIn K (.ref (HP.ga K "InvalidRow")) "__setattr__") (some (some (.builtin "object.__setattr__")))
def e359 : HP.Fr → Bool := fun K => HP.eqB (PySem.W.subIn K (.ref (HP.ga K "InvalidRow")) (.type "BaseException")) true
def e360 : HP.Fr → Bool := fun K => HP.eqB (PySem.W.subIn K (.ref (HP.ga K "InvalidRow")) (.type "ValueError")) true
def e361 : HP.Fr → Bool := fun K => HP.eqV (PySem.W.typeIn K (.ref (HP.ga K "InvalidRow"))) (some (.type "type"))
def e362 : HP.Fr → Bool := fun K => PySem.W.keepIn K (.ref (HP.ga K "InvalidRow"))
def e363 : HP.Fr → Bool := fun K => HP.eqO (PySem.W.ks_superIn K (HP.ga K "InvalidRow") (HP.ga K "InvalidRow") "__init__") (some (some (.builtin "ValueError.__init__")))
def e364 : HP.Fr → Bool := fun K => PySem.W.codeIn K (.ref (HP.cdA K (HP.ma K (HP.ga K "InvalidRow") "__init__"))) "InvalidRow.__init__"
def e365 : HP.Fr → Bool := fun K => HP.cellB K (HP.clA K (HP.ma K (HP.ga K "InvalidRow") "__init__")) (HP.ga K "InvalidRow")
def e366 : HP.Fr → Bool := fun K => HP.fileB K (HP.cdA K (HP.ma K (HP.ga K "InvalidRow") "__init__")) (PySem.Challenge.rw_plainsure_k01_errors_by_themselves).prog.main.file
def e367 : HP.Fr → Bool := fun K => HP.eqB (PySem.W.mroIn K (HP.ga K "InvalidRow") (.ref (HP.ga K "InvalidRow"))) true
def e368 : HP.Fr → Bool := fun K => HP.eqO (PySem.W.takerIn K (HP.ga K "InvalidRow") "code") (some none)
def e369 : HP.Fr → Bool := fun K => HP.eqO (PySem.W.takerIn K (HP.ga K "InvalidRow") "at") (some none)
def e370 : HP.Fr → Bool := fun K => HP.fnxB K (HP.ma K (HP.ga K "InvalidLoose") "__init__")
def e371 : HP.Fr → Bool := fun K => HP.eqV (PySem.W.typeIn K (.ref (HP.ma K (HP.ga K "InvalidLoose") "__init__"))) (some (.type "function"))
def e372 : HP.Fr → Bool := fun K => PySem.W.excInitIn K (HP.ga K "InvalidLoose") [.type "ValueError", .type "Exception", .type "BaseException", .type "object"] "ValueError.__new__"
def e373 : HP.Fr → Bool := fun K => PySem.W.excOver K (HP.ga K "InvalidLoose") [.type "ValueError", .type "Exception", .type "BaseException", .type "object"]
def e374 : HP.Fr → Bool := fun K => PySem.W.hasDictIn K (HP.ga K "InvalidLoose")
def e375 : HP.Fr → Bool := fun K => HP.eqO (PySem.W.findIn K (.ref (HP.ga K "InvalidLoose")) "__setattr__") (some (some (.builtin "object.__setattr__")))
def e376 : HP.Fr → Bool := fun K => HP.eqB (PySem.W.subIn K (.ref (HP.ga K "InvalidLoose")) (.type "BaseException")) true
def e377 : HP.Fr → Bool := fun K => HP.eqB (PySem.W.subIn K (.ref (HP.ga K "InvalidLoose")) (.type "ValueError")) true
def e378 : HP.Fr → Bool := fun K => HP.eqV (PySem.W.typeIn K (.ref (HP.ga K "InvalidLoose"))) (some (.type "type"))
def e379 : HP.Fr → Bool := fun K => PySem.W.keepIn K (.ref (HP.ga K "InvalidLoose"))
def e380 : HP.Fr → Bool := fun K => HP.eqO (PySem.W.ks_superIn K (HP.ga K "InvalidLoose") (HP.ga K "InvalidLoose") "__init__") (some (some (.builtin "ValueError.__init__")))
def e381 : HP.Fr → Bool := fun K => PySem.W.codeIn K (.ref (HP.cdA K (HP.ma K (HP.ga K "InvalidLoose") "__init__"))) "InvalidLoose.__init__"
def e382 : HP.Fr → Bool := fun K => HP.cellB K (HP.clA K (HP.ma K (HP.ga K "InvalidLoose") "__init__")) (HP.ga K "InvalidLoose")
def e383 : HP.Fr → Bool := fun K => HP.fileB K (HP.cdA K (HP.ma K (HP.ga K "InvalidLoose") "__init__")) (PySem.Challenge.rw_plainsure_k01_errors_by_themselves).prog.main.file
def e384 : HP.Fr → Bool := fun K => HP.eqB (PySem.W.mroIn K (HP.ga K "InvalidLoose") (.ref (HP.ga K "InvalidLoose"))) true
def e385 : HP.Fr → Bool := fun K => HP.eqO (PySem.W.takerIn K (HP.ga K "InvalidLoose") "code") (some none)
def e386 : HP.Fr → Bool := fun K => HP.eqO (PySem.W.takerIn K (HP.ga K "InvalidLoose") "at") (some none)
def e387 : HP.Fr → Bool := fun K => HP.fnxB K (HP.ma K (HP.ga K "InvalidVariables") "__init__")
def e388 : HP.Fr → Bool := fun K => HP.eqV (PySem.W.typeIn K (.ref (HP.ma K (HP.ga K "InvalidVariables") "__init__"))) (some (.type "function"))
def e389 : HP.Fr → Bool := fun K => PySem.W.excInitIn K (HP.ga K "InvalidVariables") [.type "ValueError", .type "Exception", .type "BaseException", .type "object"] "ValueError.__new__"
def e390 : HP.Fr → Bool := fun K => PySem.W.excOver K (HP.ga K "InvalidVariables") [.type "ValueError", .type "Exception", .type "BaseException", .type "object"]
def e391 : HP.Fr → Bool := fun K => PySem.W.hasDictIn K (HP.ga K "InvalidVariables")
def e392 : HP.Fr → Bool := fun K => HP.eqO (PySem.W.findIn K (.ref (HP.ga K "InvalidVariables")) "__setattr__") (some (some (.builtin "object.__setattr__")))
def e393 : HP.Fr → Bool := fun K => HP.eqB (PySem.W.subIn K (.ref (HP.ga K "InvalidVariables")) (.type "BaseException")) true
def e394 : HP.Fr → Bool := fun K => HP.eqB (PySem.W.subIn K (.ref (HP.ga K "InvalidVariables")) (.type "ValueError")) true
def e395 : HP.Fr → Bool := fun K => HP.eqV (PySem.W.typeIn K (.ref (HP.ga K "InvalidVariables"))) (some (.type "type"))
def e396 : HP.Fr → Bool := fun K => PySem.W.keepIn K (.ref (HP.ga K "InvalidVariables"))
def e397 : HP.Fr → Bool := fun K => HP.eqO (PySem.W.ks_superIn K (HP.ga K "InvalidVariables") (HP.ga K "InvalidVariables") "__init__") (some (some (.builtin "ValueError.__init__")))
def e398 : HP.Fr → Bool := fun K => PySem.W.codeIn K (.ref (HP.cdA K (HP.ma K (HP.ga K "InvalidVariables") "__init__"))) "InvalidVariables.__init__"
def e399 : HP.Fr → Bool := fun K => HP.cellB K (HP.clA K (HP.ma K (HP.ga K "InvalidVariables") "__init__")) (HP.ga K "InvalidVariables")
def e400 : HP.Fr → Bool := fun K => HP.fileB K (HP.cdA K (HP.ma K (HP.ga K "InvalidVariables") "__init__")) (PySem.Challenge.rw_plainsure_k01_errors_by_themselves).prog.main.file
def e401 : HP.Fr → Bool := fun K => HP.eqB (PySem.W.mroIn K (HP.ga K "InvalidVariables") (.ref (HP.ga K "InvalidVariables"))) true
def e402 : HP.Fr → Bool := fun K => HP.eqO (PySem.W.takerIn K (HP.ga K "InvalidVariables") "code") (some none)
def e403 : HP.Fr → Bool := fun K => HP.eqO (PySem.W.takerIn K (HP.ga K "InvalidVariables") "given") (some none)
def e404 : HP.Fr → Bool := fun K => HP.fnxB K (HP.ma K (HP.ga K "InvalidPart") "__init__")
def e405 : HP.Fr → Bool := fun K => HP.eqV (PySem.W.typeIn K (.ref (HP.ma K (HP.ga K "InvalidPart") "__init__"))) (some (.type "function"))
def e406 : HP.Fr → Bool := fun K => PySem.W.excInitIn K (HP.ga K "InvalidPart") [.type "ValueError", .type "Exception", .type "BaseException", .type "object"] "ValueError.__new__"
def e407 : HP.Fr → Bool := fun K => PySem.W.excOver K (HP.ga K "InvalidPart") [.type "ValueError", .type "Exception", .type "BaseException", .type "object"]
def e408 : HP.Fr → Bool := fun K => PySem.W.hasDictIn K (HP.ga K "InvalidPart")
def e409 : HP.Fr → Bool := fun K => HP.eqO (PySem.W.findIn K (.ref (HP.ga K "InvalidPart")) "__setattr__") (some (some (.builtin "object.__setattr__")))
def e410 : HP.Fr → Bool := fun K => HP.eqB (PySem.W.subIn K (.ref (HP.ga K "InvalidPart")) (.type "BaseException")) true
def e411 : HP.Fr → Bool := fun K => HP.eqB (PySem.W.subIn K (.ref (HP.ga K "InvalidPart")) (.type "ValueError")) true
def e412 : HP.Fr → Bool := fun K => HP.eqV (PySem.W.typeIn K (.ref (HP.ga K "InvalidPart"))) (some (.type "type"))
def e413 : HP.Fr → Bool := fun K => PySem.W.keepIn K (.ref (HP.ga K "InvalidPart"))
def e414 : HP.Fr → Bool := fun K => HP.eqO (PySem.W.ks_superIn K (HP.ga K "InvalidPart") (HP.ga K "InvalidPart") "__init__") (some (some (.builtin "ValueError.__init__")))
def e415 : HP.Fr → Bool := fun K => PySem.W.codeIn K (.ref (HP.cdA K (HP.ma K (HP.ga K "InvalidPart") "__init__"))) "InvalidPart.__init__"
def e416 : HP.Fr → Bool := fun K => HP.cellB K (HP.clA K (HP.ma K (HP.ga K "InvalidPart") "__init__")) (HP.ga K "InvalidPart")
def e417 : HP.Fr → Bool := fun K => HP.fileB K (HP.cdA K (HP.ma K (HP.ga K "InvalidPart") "__init__")) (PySem.Challenge.rw_plainsure_k01_errors_by_themselves).prog.main.file
def e418 : HP.Fr → Bool := fun K => HP.eqB (PySem.W.mroIn K (HP.ga K "InvalidPart") (.ref (HP.ga K "InvalidPart"))) true
def e419 : HP.Fr → Bool := fun K => HP.eqO (PySem.W.takerIn K (HP.ga K "InvalidPart") "code") (some none)
def e420 : HP.Fr → Bool := fun K => HP.eqO (PySem.W.takerIn K (HP.ga K "InvalidPart") "at") (some none)
def e421 : HP.Fr → Bool := fun K => HP.fnxB K (HP.ma K (HP.ga K "InvalidFormula") "__init__")
def e422 : HP.Fr → Bool := fun K => HP.eqV (PySem.W.typeIn K (.ref (HP.ma K (HP.ga K "InvalidFormula") "__init__"))) (some (.type "function"))
def e423 : HP.Fr → Bool := fun K => PySem.W.excInitIn K (HP.ga K "InvalidFormula") [.type "ValueError", .type "Exception", .type "BaseException", .type "object"] "ValueError.__new__"
def e424 : HP.Fr → Bool := fun K => PySem.W.excOver K (HP.ga K "InvalidFormula") [.type "ValueError", .type "Exception", .type "BaseException", .type "object"]
def e425 : HP.Fr → Bool := fun K => PySem.W.hasDictIn K (HP.ga K "InvalidFormula")
def e426 : HP.Fr → Bool := fun K => HP.eqO (PySem.W.findIn K (.ref (HP.ga K "InvalidFormula")) "__setattr__") (some (some (.builtin "object.__setattr__")))
def e427 : HP.Fr → Bool := fun K => HP.eqB (PySem.W.subIn K (.ref (HP.ga K "InvalidFormula")) (.type "BaseException")) true
def e428 : HP.Fr → Bool := fun K => HP.eqB (PySem.W.subIn K (.ref (HP.ga K "InvalidFormula")) (.type "ValueError")) true
def e429 : HP.Fr → Bool := fun K => HP.eqV (PySem.W.typeIn K (.ref (HP.ga K "InvalidFormula"))) (some (.type "type"))
def e430 : HP.Fr → Bool := fun K => PySem.W.keepIn K (.ref (HP.ga K "InvalidFormula"))
def e431 : HP.Fr → Bool := fun K => HP.eqO (PySem.W.ks_superIn K (HP.ga K "InvalidFormula") (HP.ga K "InvalidFormula") "__init__") (some (some (.builtin "ValueError.__init__")))
def e432 : HP.Fr → Bool := fun K => PySem.W.codeIn K (.ref (HP.cdA K (HP.ma K (HP.ga K "InvalidFormula") "__init__"))) "InvalidFormula.__init__"
def e433 : HP.Fr → Bool := fun K => HP.cellB K (HP.clA K (HP.ma K (HP.ga K "InvalidFormula") "__init__")) (HP.ga K "InvalidFormula")
def e434 : HP.Fr → Bool := fun K => HP.fileB K (HP.cdA K (HP.ma K (HP.ga K "InvalidFormula") "__init__")) (PySem.Challenge.rw_plainsure_k01_errors_by_themselves).prog.main.file
def e435 : HP.Fr → Bool := fun K => HP.eqB (PySem.W.mroIn K (HP.ga K "InvalidFormula") (.ref (HP.ga K "InvalidFormula"))) true
def e436 : HP.Fr → Bool := fun K => HP.eqO (PySem.W.takerIn K (HP.ga K "InvalidFormula") "code") (some none)
def e437 : HP.Fr → Bool := fun K => HP.eqO (PySem.W.takerIn K (HP.ga K "InvalidFormula") "given") (some none)
def e438 : HP.Fr → Bool := fun K => HP.fnxB K (HP.ma K (HP.ga K "InvalidColumns") "__init__")
def e439 : HP.Fr → Bool := fun K => HP.eqV (PySem.W.typeIn K (.ref (HP.ma K (HP.ga K "InvalidColumns") "__init__"))) (some (.type "function"))
def e440 : HP.Fr → Bool := fun K => PySem.W.excInitIn K (HP.ga K "InvalidColumns") [.type "ValueError", .type "Exception", .type "BaseException", .type "object"] "ValueError.__new__"
def e441 : HP.Fr → Bool := fun K => PySem.W.excOver K (HP.ga K "InvalidColumns") [.type "ValueError", .type "Exception", .type "BaseException", .type "object"]
def e442 : HP.Fr → Bool := fun K => PySem.W.hasDictIn K (HP.ga K "InvalidColumns")
def e443 : HP.Fr → Bool := fun K => HP.eqO (PySem.W.findIn K (.ref (HP.ga K "InvalidColumns")) "__setattr__") (some (some (.builtin "object.__setattr__")))
def e444 : HP.Fr → Bool := fun K => HP.eqB (PySem.W.subIn K (.ref (HP.ga K "InvalidColumns")) (.type "BaseException")) true
def e445 : HP.Fr → Bool := fun K => HP.eqB (PySem.W.subIn K (.ref (HP.ga K "InvalidColumns")) (.type "ValueError")) true
def e446 : HP.Fr → Bool := fun K => HP.eqV (PySem.W.typeIn K (.ref (HP.ga K "InvalidColumns"))) (some (.type "type"))
def e447 : HP.Fr → Bool := fun K => PySem.W.keepIn K (.ref (HP.ga K "InvalidColumns"))
def e448 : HP.Fr → Bool := fun K => HP.eqO (PySem.W.ks_superIn K (HP.ga K "InvalidColumns") (HP.ga K "InvalidColumns") "__init__") (some (some (.builtin "ValueError.__init__")))
def e449 : HP.Fr → Bool := fun K => PySem.W.codeIn K (.ref (HP.cdA K (HP.ma K (HP.ga K "InvalidColumns") "__init__"))) "InvalidColumns.__init__"
def e450 : HP.Fr → Bool := fun K => HP.cellB K (HP.clA K (HP.ma K (HP.ga K "InvalidColumns") "__init__")) (HP.ga K "InvalidColumns")
def e451 : HP.Fr → Bool := fun K => HP.fileB K (HP.cdA K (HP.ma K (HP.ga K "InvalidColumns") "__init__")) (PySem.Challenge.rw_plainsure_k01_errors_by_themselves).prog.main.file
def e452 : HP.Fr → Bool := fun K => HP.eqB (PySem.W.mroIn K (HP.ga K "InvalidColumns") (.ref (HP.ga K "InvalidColumns"))) true
def e453 : HP.Fr → Bool := fun K => HP.eqO (PySem.W.takerIn K (HP.ga K "InvalidColumns") "code") (some none)
def e454 : HP.Fr → Bool := fun K => HP.eqO (PySem.W.takerIn K (HP.ga K "InvalidColumns") "given") (some none)
def e455 : HP.Fr → Bool := fun K => HP.fnxB K (HP.ma K (HP.ga K "InvalidAnswer") "__init__")
def e456 : HP.Fr → Bool := fun K => HP.eqV (PySem.W.typeIn K (.ref (HP.ma K (HP.ga K "InvalidAnswer") "__init__"))) (some (.type "function"))
def e457 : HP.Fr → Bool := fun K => PySem.W.excInitIn K (HP.ga K "InvalidAnswer") [.type "ValueError", .type "Exception", .type "BaseException", .type "object"] "ValueError.__new__"
def e458 : HP.Fr → Bool := fun K => PySem.W.excOver K (HP.ga K "InvalidAnswer") [.type "ValueError", .type "Exception", .type "BaseException", .type "object"]
def e459 : HP.Fr → Bool := fun K => PySem.W.hasDictIn K (HP.ga K "InvalidAnswer")
def e460 : HP.Fr → Bool := fun K => HP.eqO (PySem.W.findIn K (.ref (HP.ga K "InvalidAnswer")) "__setattr__") (some (some (.builtin "object.__setattr__")))
def e461 : HP.Fr → Bool := fun K => HP.eqB (PySem.W.subIn K (.ref (HP.ga K "InvalidAnswer")) (.type "BaseException")) true
def e462 : HP.Fr → Bool := fun K => HP.eqB (PySem.W.subIn K (.ref (HP.ga K "InvalidAnswer")) (.type "ValueError")) true
def e463 : HP.Fr → Bool := fun K => HP.eqV (PySem.W.typeIn K (.ref (HP.ga K "InvalidAnswer"))) (some (.type "type"))
def e464 : HP.Fr → Bool := fun K => PySem.W.keepIn K (.ref (HP.ga K "InvalidAnswer"))
def e465 : HP.Fr → Bool := fun K => HP.eqO (PySem.W.ks_superIn K (HP.ga K "InvalidAnswer") (HP.ga K "InvalidAnswer") "__init__") (some (some (.builtin "ValueError.__init__")))
def e466 : HP.Fr → Bool := fun K => PySem.W.codeIn K (.ref (HP.cdA K (HP.ma K (HP.ga K "InvalidAnswer") "__init__"))) "InvalidAnswer.__init__"
def e467 : HP.Fr → Bool := fun K => HP.cellB K (HP.clA K (HP.ma K (HP.ga K "InvalidAnswer") "__init__")) (HP.ga K "InvalidAnswer")
def e468 : HP.Fr → Bool := fun K => HP.fileB K (HP.cdA K (HP.ma K (HP.ga K "InvalidAnswer") "__init__")) (PySem.Challenge.rw_plainsure_k01_errors_by_themselves).prog.main.file
def e469 : HP.Fr → Bool := fun K => HP.eqB (PySem.W.mroIn K (HP.ga K "InvalidAnswer") (.ref (HP.ga K "InvalidAnswer"))) true
def e470 : HP.Fr → Bool := fun K => HP.eqO (PySem.W.takerIn K (HP.ga K "InvalidAnswer") "code") (some none)
def e471 : HP.Fr → Bool := fun K => HP.eqO (PySem.W.takerIn K (HP.ga K "InvalidAnswer") "given") (some none)
def e472 : HP.Fr → Bool := fun K => HP.fnxB K (HP.ma K (HP.ga K "InvalidTruths") "__init__")
def e473 : HP.Fr → Bool := fun K => HP.eqV (PySem.W.typeIn K (.ref (HP.ma K (HP.ga K "InvalidTruths") "__init__"))) (some (.type "function"))
def e474 : HP.Fr → Bool := fun K => PySem.W.excInitIn K (HP.ga K "InvalidTruths") [.type "ValueError", .type "Exception", .type "BaseException", .type "object"] "ValueError.__new__"
def e475 : HP.Fr → Bool := fun K => PySem.W.excOver K (HP.ga K "InvalidTruths") [.type "ValueError", .type "Exception", .type "BaseException", .type "object"]
def e476 : HP.Fr → Bool := fun K => PySem.W.hasDictIn K (HP.ga K "InvalidTruths")
def e477 : HP.Fr → Bool := fun K => HP.eqO (PySem.W.findIn K (.ref (HP.ga K "InvalidTruths")) "__setattr__") (some (some (.builtin "object.__setattr__")))
def e478 : HP.Fr → Bool := fun K => HP.eqB (PySem.W.subIn K (.ref (HP.ga K "InvalidTruths")) (.type "BaseException")) true
def e479 : HP.Fr → Bool := fun K => HP.eqB (PySem.W.subIn K (.ref (HP.ga K "InvalidTruths")) (.type "ValueError")) true
def e480 : HP.Fr → Bool := fun K => HP.eqV (PySem.W.typeIn K (.ref (HP.ga K "InvalidTruths"))) (some (.type "type"))
def e481 : HP.Fr → Bool := fun K => PySem.W.keepIn K (.ref (HP.ga K "InvalidTruths"))
def e482 : HP.Fr → Bool := fun K => HP.eqO (PySem.W.ks_superIn K (HP.ga K "InvalidTruths") (HP.ga K "InvalidTruths") "__init__") (some (some (.builtin "ValueError.__init__")))
def e483 : HP.Fr → Bool := fun K => PySem.W.codeIn K (.ref (HP.cdA K (HP.ma K (HP.ga K "InvalidTruths") "__init__"))) "InvalidTruths.__init__"
def e484 : HP.Fr → Bool := fun K => HP.cellB K (HP.clA K (HP.ma K (HP.ga K "InvalidTruths") "__init__")) (HP.ga K "InvalidTruths")
def e485 : HP.Fr → Bool := fun K => HP.fileB K (HP.cdA K (HP.ma K (HP.ga K "InvalidTruths") "__init__")) (PySem.Challenge.rw_plainsure_k01_errors_by_themselves).prog.main.file
def e486 : HP.Fr → Bool := fun K => HP.eqB (PySem.W.mroIn K (HP.ga K "InvalidTruths") (.ref (HP.ga K "InvalidTruths"))) true
def e487 : HP.Fr → Bool := fun K => HP.eqO (PySem.W.takerIn K (HP.ga K "InvalidTruths") "code") (some none)
def e488 : HP.Fr → Bool := fun K => HP.eqO (PySem.W.takerIn K (HP.ga K "InvalidTruths") "given") (some none)
def e489 : HP.Fr → Bool := fun K => HP.fnxB K (HP.ma K (HP.ga K "InvalidFilling") "__init__")
def e490 : HP.Fr → Bool := fun K => HP.eqV (PySem.W.typeIn K (.ref (HP.ma K (HP.ga K "InvalidFilling") "__init__"))) (some (.type "function"))
def e491 : HP.Fr → Bool := fun K => PySem.W.excInitIn K (HP.ga K "InvalidFilling") [.type "ValueError", .type "Exception", .type "BaseException", .type "object"] "ValueError.__new__"
def e492 : HP.Fr → Bool := fun K => PySem.W.excOver K (HP.ga K "InvalidFilling") [.type "ValueError", .type "Exception", .type "BaseException", .type "object"]
def e493 : HP.Fr → Bool := fun K => PySem.W.hasDictIn K (HP.ga K "InvalidFilling")
def e494 : HP.Fr → Bool := fun K => HP.eqO (PySem.W.findIn K (.ref (HP.ga K "InvalidFilling")) "__setattr__") (some (some (.builtin "object.__setattr__")))
def e495 : HP.Fr → Bool := fun K => HP.eqB (PySem.W.subIn K (.ref (HP.ga K "InvalidFilling")) (.type "BaseException")) true
def e496 : HP.Fr → Bool := fun K => HP.eqB (PySem.W.subIn K (.ref (HP.ga K "InvalidFilling")) (.type "ValueError")) true
def e497 : HP.Fr → Bool := fun K => HP.eqV (PySem.W.typeIn K (.ref (HP.ga K "InvalidFilling"))) (some (.type "type"))
def e498 : HP.Fr → Bool := fun K => PySem.W.keepIn K (.ref (HP.ga K "InvalidFilling"))
def e499 : HP.Fr → Bool := fun K => HP.eqO (PySem.W.ks_superIn K (HP.ga K "InvalidFilling") (HP.ga K "InvalidFilling") "__init__") (some (some (.builtin "ValueError.__init__")))
def e500 : HP.Fr → Bool := fun K => PySem.W.codeIn K (.ref (HP.cdA K (HP.ma K (HP.ga K "InvalidFilling") "__init__"))) "InvalidFilling.__init__"
def e501 : HP.Fr → Bool := fun K => HP.cellB K (HP.clA K (HP.ma K (HP.ga K "InvalidFilling") "__init__")) (HP.ga K "InvalidFilling")
def e502 : HP.Fr → Bool := fun K => HP.fileB K (HP.cdA K (HP.ma K (HP.ga K "InvalidFilling") "__init__")) (PySem.Challenge.rw_plainsure_k01_errors_by_themselves).prog.main.file
def e503 : HP.Fr → Bool := fun K => HP.eqB (PySem.W.mroIn K (HP.ga K "InvalidFilling") (.ref (HP.ga K "InvalidFilling"))) true
def e504 : HP.Fr → Bool := fun K => HP.eqO (PySem.W.takerIn K (HP.ga K "InvalidFilling") "code") (some none)
def e505 : HP.Fr → Bool := fun K => HP.eqO (PySem.W.takerIn K (HP.ga K "InvalidFilling") "given") (some none)
def e506 : HP.Fr → Bool := fun K => HP.fnxB K (HP.ma K (HP.ga K "InvalidMeaning") "__init__")
def e507 : HP.Fr → Bool := fun K => HP.eqV (PySem.W.typeIn K (.ref (HP.ma K (HP.ga K "InvalidMeaning") "__init__"))) (some (.type "function"))
def e508 : HP.Fr → Bool := fun K => PySem.W.excInitIn K (HP.ga K "InvalidMeaning") [.type "ValueError", .type "Exception", .type "BaseException", .type "object"] "ValueError.__new__"
def e509 : HP.Fr → Bool := fun K => PySem.W.excOver K (HP.ga K "InvalidMeaning") [.type "ValueError", .type "Exception", .type "BaseException", .type "object"]
def e510 : HP.Fr → Bool := fun K => PySem.W.hasDictIn K (HP.ga K "InvalidMeaning")
def e511 : HP.Fr → Bool := fun K => HP.eqO (PySem.W.findIn K (.ref (HP.ga K "InvalidMeaning")) "__setattr__") (some (some (.builtin "object.__setattr__")))
def e512 : HP.Fr → Bool := fun K => HP.eqB (PySem.W.subIn K (.ref (HP.ga K "InvalidMeaning")) (.type "BaseException")) true
def e513 : HP.Fr → Bool := fun K => HP.eqB (PySem.W.subIn K (.ref (HP.ga K "InvalidMeaning")) (.type "ValueError")) true
def e514 : HP.Fr → Bool := fun K => HP.eqV (PySem.W.typeIn K (.ref (HP.ga K "InvalidMeaning"))) (some (.type "type"))
def e515 : HP.Fr → Bool := fun K => PySem.W.keepIn K (.ref (HP.ga K "InvalidMeaning"))
def e516 : HP.Fr → Bool := fun K => HP.eqO (PySem.W.ks_superIn K (HP.ga K "InvalidMeaning") (HP.ga K "InvalidMeaning") "__init__") (some (some (.builtin "ValueError.__init__")))
def e517 : HP.Fr → Bool := fun K => PySem.W.codeIn K (.ref (HP.cdA K (HP.ma K (HP.ga K "InvalidMeaning") "__init__"))) "InvalidMeaning.__init__"
def e518 : HP.Fr → Bool := fun K => HP.cellB K (HP.clA K (HP.ma K (HP.ga K "InvalidMeaning") "__init__")) (HP.ga K "InvalidMeaning")
def e519 : HP.Fr → Bool := fun K => HP.fileB K (HP.cdA K (HP.ma K (HP.ga K "InvalidMeaning") "__init__")) (PySem.Challenge.rw_plainsure_k01_errors_by_themselves).prog.main.file
def e520 : HP.Fr → Bool := fun K => HP.eqB (PySem.W.mroIn K (HP.ga K "InvalidMeaning") (.ref (HP.ga K "InvalidMeaning"))) true
def e521 : HP.Fr → Bool := fun K => HP.eqO (PySem.W.takerIn K (HP.ga K "InvalidMeaning") "code") (some none)
def e522 : HP.Fr → Bool := fun K => HP.eqO (PySem.W.takerIn K (HP.ga K "InvalidMeaning") "given") (some none)
def e523 : HP.Fr → Bool := fun K => HP.fnxB K (HP.ma K (HP.ga K "InvalidText") "__init__")
def e524 : HP.Fr → Bool := fun K => HP.eqV (PySem.W.typeIn K (.ref (HP.ma K (HP.ga K "InvalidText") "__init__"))) (some (.type "function"))
def e525 : HP.Fr → Bool := fun K => PySem.W.excInitIn K (HP.ga K "InvalidText") [.type "ValueError", .type "Exception", .type "BaseException", .type "object"] "ValueError.__new__"
def e526 : HP.Fr → Bool := fun K => PySem.W.excOver K (HP.ga K "InvalidText") [.type "ValueError", .type "Exception", .type "BaseException", .type "object"]
def e527 : HP.Fr → Bool := fun K => PySem.W.hasDictIn K (HP.ga K "InvalidText")
def e528 : HP.Fr → Bool := fun K => HP.eqO (PySem.W.findIn K (.ref (HP.ga K "InvalidText")) "__setattr__") (some (some (.builtin "object.__setattr__")))
def e529 : HP.Fr → Bool := fun K => HP.eqB (PySem.W.subIn K (.ref (HP.ga K "InvalidText")) (.type "BaseException")) true
def e530 : HP.Fr → Bool := fun K => HP.eqB (PySem.W.subIn K (.ref (HP.ga K "InvalidText")) (.type "ValueError")) true
def e531 : HP.Fr → Bool := fun K => HP.eqV (PySem.W.typeIn K (.ref (HP.ga K "InvalidText"))) (some (.type "type"))
def e532 : HP.Fr → Bool := fun K => PySem.W.keepIn K (.ref (HP.ga K "InvalidText"))
def e533 : HP.Fr → Bool := fun K => HP.eqO (PySem.W.ks_superIn K (HP.ga K "InvalidText") (HP.ga K "InvalidText") "__init__") (some (some (.builtin "ValueError.__init__")))
def e534 : HP.Fr → Bool := fun K => PySem.W.codeIn K (.ref (HP.cdA K (HP.ma K (HP.ga K "InvalidText") "__init__"))) "InvalidText.__init__"
def e535 : HP.Fr → Bool := fun K => HP.cellB K (HP.clA K (HP.ma K (HP.ga K "InvalidText") "__init__")) (HP.ga K "InvalidText")
def e536 : HP.Fr → Bool := fun K => HP.fileB K (HP.cdA K (HP.ma K (HP.ga K "InvalidText") "__init__")) (PySem.Challenge.rw_plainsure_k01_errors_by_themselves).prog.main.file
def e537 : HP.Fr → Bool := fun K => HP.eqB (PySem.W.mroIn K (HP.ga K "InvalidText") (.ref (HP.ga K "InvalidText"))) true
def e538 : HP.Fr → Bool := fun K => HP.eqO (PySem.W.takerIn K (HP.ga K "InvalidText") "code") (some none)
def e539 : HP.Fr → Bool := fun K => HP.eqO (PySem.W.takerIn K (HP.ga K "InvalidText") "at") (some none)
def e540 : HP.Fr → Bool := fun K => HP.fnxB K (HP.ma K (HP.ga K "InvalidCommand") "__init__")
def e541 : HP.Fr → Bool := fun K => HP.eqV (PySem.W.typeIn K (.ref (HP.ma K (HP.ga K "InvalidCommand") "__init__"))) (some (.type "function"))
def e542 : HP.Fr → Bool := fun K => PySem.W.excInitIn K (HP.ga K "InvalidCommand") [.type "ValueError", .type "Exception", .type "BaseException", .type "object"] "ValueError.__new__"
def e543 : HP.Fr → Bool := fun K => PySem.W.excOver K (HP.ga K "InvalidCommand") [.type "ValueError", .type "Exception", .type "BaseException", .type "object"]
def e544 : HP.Fr → Bool := fun K => PySem.W.hasDictIn K (HP.ga K "InvalidCommand")
def e545 : HP.Fr → Bool := fun K => HP.eqO (PySem.W.findIn K (.ref (HP.ga K "InvalidCommand")) "__setattr__") (some (some (.builtin "object.__setattr__")))
def e546 : HP.Fr → Bool := fun K => HP.eqB (PySem.W.subIn K (.ref (HP.ga K "InvalidCommand")) (.type "BaseException")) true
def e547 : HP.Fr → Bool := fun K => HP.eqB (PySem.W.subIn K (.ref (HP.ga K "InvalidCommand")) (.type "ValueError")) true
def e548 : HP.Fr → Bool := fun K => HP.eqV (PySem.W.typeIn K (.ref (HP.ga K "InvalidCommand"))) (some (.type "type"))
def e549 : HP.Fr → Bool := fun K => PySem.W.keepIn K (.ref (HP.ga K "InvalidCommand"))
def e550 : HP.Fr → Bool := fun K => HP.eqO (PySem.W.ks_superIn K (HP.ga K "InvalidCommand") (HP.ga K "InvalidCommand") "__init__") (some (some (.builtin "ValueError.__init__")))
def e551 : HP.Fr → Bool := fun K => PySem.W.codeIn K (.ref (HP.cdA K (HP.ma K (HP.ga K "InvalidCommand") "__init__"))) "InvalidCommand.__init__"
def e552 : HP.Fr → Bool := fun K => HP.cellB K (HP.clA K (HP.ma K (HP.ga K "InvalidCommand") "__init__")) (HP.ga K "InvalidCommand")
def e553 : HP.Fr → Bool := fun K => HP.fileB K (HP.cdA K (HP.ma K (HP.ga K "InvalidCommand") "__init__")) (PySem.Challenge.rw_plainsure_k01_errors_by_themselves).prog.main.file
def e554 : HP.Fr → Bool := fun K => HP.eqB (PySem.W.mroIn K (HP.ga K "InvalidCommand") (.ref (HP.ga K "InvalidCommand"))) true
def e555 : HP.Fr → Bool := fun K => HP.eqO (PySem.W.takerIn K (HP.ga K "InvalidCommand") "code") (some none)
def e556 : HP.Fr → Bool := fun K => HP.eqO (PySem.W.takerIn K (HP.ga K "InvalidCommand") "at") (some none)
def e557 : HP.Fr → Bool := fun K => HP.fnxB K (HP.ma K (HP.ga K "InvalidLimit") "__init__")
def e558 : HP.Fr → Bool := fun K => HP.eqV (PySem.W.typeIn K (.ref (HP.ma K (HP.ga K "InvalidLimit") "__init__"))) (some (.type "function"))
def e559 : HP.Fr → Bool := fun K => PySem.W.excInitIn K (HP.ga K "InvalidLimit") [.type "ValueError", .type "Exception", .type "BaseException", .type "object"] "ValueError.__new__"
def e560 : HP.Fr → Bool := fun K => PySem.W.excOver K (HP.ga K "InvalidLimit") [.type "ValueError", .type "Exception", .type "BaseException", .type "object"]
def e561 : HP.Fr → Bool := fun K => PySem.W.hasDictIn K (HP.ga K "InvalidLimit")
def e562 : HP.Fr → Bool := fun K => HP.eqO (PySem.W.findIn K (.ref (HP.ga K "InvalidLimit")) "__setattr__") (some (some (.builtin "object.__setattr__")))
def e563 : HP.Fr → Bool := fun K => HP.eqB (PySem.W.subIn K (.ref (HP.ga K "InvalidLimit")) (.type "BaseException")) true
def e564 : HP.Fr → Bool := fun K => HP.eqB (PySem.W.subIn K (.ref (HP.ga K "InvalidLimit")) (.type "ValueError")) true
def e565 : HP.Fr → Bool := fun K => HP.eqV (PySem.W.typeIn K (.ref (HP.ga K "InvalidLimit"))) (some (.type "type"))
def e566 : HP.Fr → Bool := fun K => PySem.W.keepIn K (.ref (HP.ga K "InvalidLimit"))
def e567 : HP.Fr → Bool := fun K => HP.eqO (PySem.W.ks_superIn K (HP.ga K "InvalidLimit") (HP.ga K "InvalidLimit") "__init__") (some (some (.builtin "ValueError.__init__")))
def e568 : HP.Fr → Bool := fun K => PySem.W.codeIn K (.ref (HP.cdA K (HP.ma K (HP.ga K "InvalidLimit") "__init__"))) "InvalidLimit.__init__"
def e569 : HP.Fr → Bool := fun K => HP.cellB K (HP.clA K (HP.ma K (HP.ga K "InvalidLimit") "__init__")) (HP.ga K "InvalidLimit")
def e570 : HP.Fr → Bool := fun K => HP.fileB K (HP.cdA K (HP.ma K (HP.ga K "InvalidLimit") "__init__")) (PySem.Challenge.rw_plainsure_k01_errors_by_themselves).prog.main.file
def e571 : HP.Fr → Bool := fun K => HP.eqB (PySem.W.mroIn K (HP.ga K "InvalidLimit") (.ref (HP.ga K "InvalidLimit"))) true
def e572 : HP.Fr → Bool := fun K => HP.eqO (PySem.W.takerIn K (HP.ga K "InvalidLimit") "code") (some none)
def e573 : HP.Fr → Bool := fun K => HP.eqO (PySem.W.takerIn K (HP.ga K "InvalidLimit") "given") (some none)
def e574 : HP.Fr → Bool := fun K => HP.fnxB K (HP.ma K (HP.ga K "InvalidPage") "__init__")
def e575 : HP.Fr → Bool := fun K => HP.eqV (PySem.W.typeIn K (.ref (HP.ma K (HP.ga K "InvalidPage") "__init__"))) (some (.type "function"))
def e576 : HP.Fr → Bool := fun K => PySem.W.excInitIn K (HP.ga K "InvalidPage") [.type "ValueError", .type "Exception", .type "BaseException", .type "object"] "ValueError.__new__"
def e577 : HP.Fr → Bool := fun K => PySem.W.excOver K (HP.ga K "InvalidPage") [.type "ValueError", .type "Exception", .type "BaseException", .type "object"]
def e578 : HP.Fr → Bool := fun K => PySem.W.hasDictIn K (HP.ga K "InvalidPage")
def e579 : HP.Fr → Bool := fun K => HP.eqO (PySem.W.findIn K (.ref (HP.ga K "InvalidPage")) "__setattr__") (some (some (.builtin "object.__setattr__")))
def e580 : HP.Fr → Bool := fun K => HP.eqB (PySem.W.subIn K (.ref (HP.ga K "InvalidPage")) (.type "BaseException")) true
def e581 : HP.Fr → Bool := fun K => HP.eqB (PySem.W.subIn K (.ref (HP.ga K "InvalidPage")) (.type "ValueError")) true
def e582 : HP.Fr → Bool := fun K => HP.eqV (PySem.W.typeIn K (.ref (HP.ga K "InvalidPage"))) (some (.type "type"))
def e583 : HP.Fr → Bool := fun K => PySem.W.keepIn K (.ref (HP.ga K "InvalidPage"))
def e584 : HP.Fr → Bool := fun K => HP.eqO (PySem.W.ks_superIn K (HP.ga K "InvalidPage") (HP.ga K "InvalidPage") "__init__") (some (some (.builtin "ValueError.__init__")))
def e585 : HP.Fr → Bool := fun K => PySem.W.codeIn K (.ref (HP.cdA K (HP.ma K (HP.ga K "InvalidPage") "__init__"))) "InvalidPage.__init__"
def e586 : HP.Fr → Bool := fun K => HP.cellB K (HP.clA K (HP.ma K (HP.ga K "InvalidPage") "__init__")) (HP.ga K "InvalidPage")
def e587 : HP.Fr → Bool := fun K => HP.fileB K (HP.cdA K (HP.ma K (HP.ga K "InvalidPage") "__init__")) (PySem.Challenge.rw_plainsure_k01_errors_by_themselves).prog.main.file
def e588 : HP.Fr → Bool := fun K => HP.eqB (PySem.W.mroIn K (HP.ga K "InvalidPage") (.ref (HP.ga K "InvalidPage"))) true
def e589 : HP.Fr → Bool := fun K => HP.eqO (PySem.W.takerIn K (HP.ga K "InvalidPage") "code") (some none)
def e590 : HP.Fr → Bool := fun K => HP.eqO (PySem.W.takerIn K (HP.ga K "InvalidPage") "line") (some none)
def e591 : HP.Fr → Bool := fun K => HP.fnxB K (HP.ma K (HP.ga K "OtherScheme") "__init__")
def e592 : HP.Fr → Bool := fun K => HP.eqV (PySem.W.typeIn K (.ref (HP.ma K (HP.ga K "OtherScheme") "__init__"))) (some (.type "function"))
def e593 : HP.Fr → Bool := fun K => PySem.W.excInitIn K (HP.ga K "OtherScheme") [.type "ValueError", .type "Exception", .type "BaseException", .type "object"] "ValueError.__new__"
def e594 : HP.Fr → Bool := fun K => PySem.W.excOver K (HP.ga K "OtherScheme") [.type "ValueError", .type "Exception", .type "BaseException", .type "object"]
def e595 : HP.Fr → Bool := fun K => PySem.W.hasDictIn K (HP.ga K "OtherScheme")
def e596 : HP.Fr → Bool := fun K => HP.eqO (PySem.W.findIn K (.ref (HP.ga K "OtherScheme")) "__setattr__") (some (some (.builtin "object.__setattr__")))
def e597 : HP.Fr → Bool := fun K => HP.eqB (PySem.W.subIn K (.ref (HP.ga K "OtherScheme")) (.type "BaseException")) true
def e598 : HP.Fr → Bool := fun K => HP.eqB (PySem.W.subIn K (.ref (HP.ga K "OtherScheme")) (.type "ValueError")) true
def e599 : HP.Fr → Bool := fun K => HP.eqV (PySem.W.typeIn K (.ref (HP.ga K "OtherScheme"))) (some (.type "type"))
def e600 : HP.Fr → Bool := fun K => PySem.W.keepIn K (.ref (HP.ga K "OtherScheme"))
def e601 : HP.Fr → Bool := fun K => HP.eqO (PySem.W.ks_superIn K (HP.ga K "OtherScheme") (HP.ga K "OtherScheme") "__init__") (some (some (.builtin "ValueError.__init__")))
def e602 : HP.Fr → Bool := fun K => PySem.W.codeIn K (.ref (HP.cdA K (HP.ma K (HP.ga K "OtherScheme") "__init__"))) "OtherScheme.__init__"
def e603 : HP.Fr → Bool := fun K => HP.cellB K (HP.clA K (HP.ma K (HP.ga K "OtherScheme") "__init__")) (HP.ga K "OtherScheme")
def e604 : HP.Fr → Bool := fun K => HP.fileB K (HP.cdA K (HP.ma K (HP.ga K "OtherScheme") "__init__")) (PySem.Challenge.rw_plainsure_k01_errors_by_themselves).prog.main.file
def e605 : HP.Fr → Bool := fun K => HP.eqB (PySem.W.mroIn K (HP.ga K "OtherScheme") (.ref (HP.ga K "OtherScheme"))) true
def e606 : HP.Fr → Bool := fun K => HP.eqO (PySem.W.takerIn K (HP.ga K "OtherScheme") "code") (some none)
def e607 : HP.Fr → Bool := fun K => HP.fnxB K (HP.ma K (HP.ga K "OtherColumns") "__init__")
def e608 : HP.Fr → Bool := fun K => HP.eqV (PySem.W.typeIn K (.ref (HP.ma K (HP.ga K "OtherColumns") "__init__"))) (some (.type "function"))
def e609 : HP.Fr → Bool := fun K => PySem.W.excInitIn K (HP.ga K "OtherColumns") [.type "ValueError", .type "Exception", .type "BaseException", .type "object"] "ValueError.__new__"
def e610 : HP.Fr → Bool := fun K => PySem.W.excOver K (HP.ga K "OtherColumns") [.type "ValueError", .type "Exception", .type "BaseException", .type "object"]
def e611 : HP.Fr → Bool := fun K => PySem.W.hasDictIn K (HP.ga K "OtherColumns")
def e612 : HP.Fr → Bool := fun K => HP.eqO (PySem.W.findIn K (.ref (HP.ga K "OtherColumns")) "__setattr__") (some (some (.builtin "object.__setattr__")))
def e613 : HP.Fr → Bool := fun K => HP.eqB (PySem.W.subIn K (.ref (HP.ga K "OtherColumns")) (.type "BaseException")) true
def e614 : HP.Fr → Bool := fun K => HP.eqB (PySem.W.subIn K (.ref (HP.ga K "OtherColumns")) (.type "ValueError")) true
def e615 : HP.Fr → Bool := fun K => HP.eqV (PySem.W.typeIn K (.ref (HP.ga K "OtherColumns"))) (some (.type "type"))
def e616 : HP.Fr → Bool := fun K => PySem.W.keepIn K (.ref (HP.ga K "OtherColumns"))
def e617 : HP.Fr → Bool := fun K => HP.eqO (PySem.W.ks_superIn K (HP.ga K "OtherColumns") (HP.ga K "OtherColumns") "__init__") (some (some (.builtin "ValueError.__init__")))
def e618 : HP.Fr → Bool := fun K => PySem.W.codeIn K (.ref (HP.cdA K (HP.ma K (HP.ga K "OtherColumns") "__init__"))) "OtherColumns.__init__"
def e619 : HP.Fr → Bool := fun K => HP.cellB K (HP.clA K (HP.ma K (HP.ga K "OtherColumns") "__init__")) (HP.ga K "OtherColumns")
def e620 : HP.Fr → Bool := fun K => HP.fileB K (HP.cdA K (HP.ma K (HP.ga K "OtherColumns") "__init__")) (PySem.Challenge.rw_plainsure_k01_errors_by_themselves).prog.main.file
def e621 : HP.Fr → Bool := fun K => HP.eqB (PySem.W.mroIn K (HP.ga K "OtherColumns") (.ref (HP.ga K "OtherColumns"))) true
def e622 : HP.Fr → Bool := fun K => HP.eqO (PySem.W.takerIn K (HP.ga K "OtherColumns") "code") (some none)
def e623 : HP.Fr → Bool := fun K => HP.fnxB K (HP.ma K (HP.ga K "HasColumns") "__init__")
def e624 : HP.Fr → Bool := fun K => HP.eqV (PySem.W.typeIn K (.ref (HP.ma K (HP.ga K "HasColumns") "__init__"))) (some (.type "function"))
def e625 : HP.Fr → Bool := fun K => PySem.W.excInitIn K (HP.ga K "HasColumns") [.type "ValueError", .type "Exception", .type "BaseException", .type "object"] "ValueError.__new__"
def e626 : HP.Fr → Bool := fun K => PySem.W.excOver K (HP.ga K "HasColumns") [.type "ValueError", .type "Exception", .type "BaseException", .type "object"]
def e627 : HP.Fr → Bool := fun K => PySem.W.hasDictIn K (HP.ga K "HasColumns")
def e628 : HP.Fr → Bool := fun K => HP.eqO (PySem.W.findIn K (.ref (HP.ga K "HasColumns")) "__setattr__") (some (some (.builtin "object.__setattr__")))
def e629 : HP.Fr → Bool := fun K => HP.eqB (PySem.W.subIn K (.ref (HP.ga K "HasColumns")) (.type "BaseException")) true
def e630 : HP.Fr → Bool := fun K => HP.eqB (PySem.W.subIn K (.ref (HP.ga K "HasColumns")) (.type "ValueError")) true
def e631 : HP.Fr → Bool := fun K => HP.eqV (PySem.W.typeIn K (.ref (HP.ga K "HasColumns"))) (some (.type "type"))
def e632 : HP.Fr → Bool := fun K => PySem.W.keepIn K (.ref (HP.ga K "HasColumns"))
def e633 : HP.Fr → Bool := fun K => HP.eqO (PySem.W.ks_superIn K (HP.ga K "HasColumns") (HP.ga K "HasColumns") "__init__") (some (some (.builtin "ValueError.__init__")))
def e634 : HP.Fr → Bool := fun K => PySem.W.codeIn K (.ref (HP.cdA K (HP.ma K (HP.ga K "HasColumns") "__init__"))) "HasColumns.__init__"
def e635 : HP.Fr → Bool := fun K => HP.cellB K (HP.clA K (HP.ma K (HP.ga K "HasColumns") "__init__")) (HP.ga K "HasColumns")
def e636 : HP.Fr → Bool := fun K => HP.fileB K (HP.cdA K (HP.ma K (HP.ga K "HasColumns") "__init__")) (PySem.Challenge.rw_plainsure_k01_errors_by_themselves).prog.main.file
def e637 : HP.Fr → Bool := fun K => HP.eqB (PySem.W.mroIn K (HP.ga K "HasColumns") (.ref (HP.ga K "HasColumns"))) true
def e638 : HP.Fr → Bool := fun K => HP.eqO (PySem.W.takerIn K (HP.ga K "HasColumns") "code") (some none)
def e639 : HP.Fr → Bool := fun K => HP.fnxB K (HP.ma K (HP.ga K "NotSafe") "__init__")
def e640 : HP.Fr → Bool := fun K => HP.eqV (PySem.W.typeIn K (.ref (HP.ma K (HP.ga K "NotSafe") "__init__"))) (some (.type "function"))
def e641 : HP.Fr → Bool := fun K => PySem.W.excInitIn K (HP.ga K "NotSafe") [.type "ValueError", .type "Exception", .type "BaseException", .type "object"] "ValueError.__new__"
def e642 : HP.Fr → Bool := fun K => PySem.W.excOver K (HP.ga K "NotSafe") [.type "ValueError", .type "Exception", .type "BaseException", .type "object"]
def e643 : HP.Fr → Bool := fun K => PySem.W.hasDictIn K (HP.ga K "NotSafe")
def e644 : HP.Fr → Bool := fun K => HP.eqO (PySem.W.findIn K (.ref (HP.ga K "NotSafe")) "__setattr__") (some (some (.builtin "object.__setattr__")))
def e645 : HP.Fr → Bool := fun K => HP.eqB (PySem.W.subIn K (.ref (HP.ga K "NotSafe")) (.type "BaseException")) true
def e646 : HP.Fr → Bool := fun K => HP.eqB (PySem.W.subIn K (.ref (HP.ga K "NotSafe")) (.type "ValueError")) true
def e647 : HP.Fr → Bool := fun K => HP.eqV (PySem.W.typeIn K (.ref (HP.ga K "NotSafe"))) (some (.type "type"))
def e648 : HP.Fr → Bool := fun K => PySem.W.keepIn K (.ref (HP.ga K "NotSafe"))
def e649 : HP.Fr → Bool := fun K => HP.eqO (PySem.W.ks_superIn K (HP.ga K "NotSafe") (HP.ga K "NotSafe") "__init__") (some (some (.builtin "ValueError.__init__")))
def e650 : HP.Fr → Bool := fun K => PySem.W.codeIn K (.ref (HP.cdA K (HP.ma K (HP.ga K "NotSafe") "__init__"))) "NotSafe.__init__"
def e651 : HP.Fr → Bool := fun K => HP.cellB K (HP.clA K (HP.ma K (HP.ga K "NotSafe") "__init__")) (HP.ga K "NotSafe")
def e652 : HP.Fr → Bool := fun K => HP.fileB K (HP.cdA K (HP.ma K (HP.ga K "NotSafe") "__init__")) (PySem.Challenge.rw_plainsure_k01_errors_by_themselves).prog.main.file
def e653 : HP.Fr → Bool := fun K => HP.eqB (PySem.W.mroIn K (HP.ga K "NotSafe") (.ref (HP.ga K "NotSafe"))) true
def e654 : HP.Fr → Bool := fun K => HP.eqO (PySem.W.takerIn K (HP.ga K "NotSafe") "code") (some none)
def e655 : HP.Fr → Bool := fun K => HP.fnxB K (HP.ma K (HP.ga K "TooMany") "__init__")
def e656 : HP.Fr → Bool := fun K => HP.eqV (PySem.W.typeIn K (.ref (HP.ma K (HP.ga K "TooMany") "__init__"))) (some (.type "function"))
def e657 : HP.Fr → Bool := fun K => PySem.W.excInitIn K (HP.ga K "TooMany") [.type "ValueError", .type "Exception", .type "BaseException", .type "object"] "ValueError.__new__"
def e658 : HP.Fr → Bool := fun K => PySem.W.excOver K (HP.ga K "TooMany") [.type "ValueError", .type "Exception", .type "BaseException", .type "object"]
def e659 : HP.Fr → Bool := fun K => PySem.W.hasDictIn K (HP.ga K "TooMany")
def e660 : HP.Fr → Bool := fun K => HP.eqO (PySem.W.findIn K (.ref (HP.ga K "TooMany")) "__setattr__") (some (some (.builtin "object.__setattr__")))
def e661 : HP.Fr → Bool := fun K => HP.eqB (PySem.W.subIn K (.ref (HP.ga K "TooMany")) (.type "BaseException")) true
def e662 : HP.Fr → Bool := fun K => HP.eqB (PySem.W.subIn K (.ref (HP.ga K "TooMany")) (.type "ValueError")) true
def e663 : HP.Fr → Bool := fun K => HP.eqV (PySem.W.typeIn K (.ref (HP.ga K "TooMany"))) (some (.type "type"))
def e664 : HP.Fr → Bool := fun K => PySem.W.keepIn K (.ref (HP.ga K "TooMany"))
def e665 : HP.Fr → Bool := fun K => HP.eqO (PySem.W.ks_superIn K (HP.ga K "TooMany") (HP.ga K "TooMany") "__init__") (some (some (.builtin "ValueError.__init__")))
def e666 : HP.Fr → Bool := fun K => PySem.W.codeIn K (.ref (HP.cdA K (HP.ma K (HP.ga K "TooMany") "__init__"))) "TooMany.__init__"
def e667 : HP.Fr → Bool := fun K => HP.cellB K (HP.clA K (HP.ma K (HP.ga K "TooMany") "__init__")) (HP.ga K "TooMany")
def e668 : HP.Fr → Bool := fun K => HP.fileB K (HP.cdA K (HP.ma K (HP.ga K "TooMany") "__init__")) (PySem.Challenge.rw_plainsure_k01_errors_by_themselves).prog.main.file
def e669 : HP.Fr → Bool := fun K => HP.eqB (PySem.W.mroIn K (HP.ga K "TooMany") (.ref (HP.ga K "TooMany"))) true
def e670 : HP.Fr → Bool := fun K => HP.eqO (PySem.W.takerIn K (HP.ga K "TooMany") "code") (some none)
def e671 : HP.Fr → Bool := fun K => HP.eqO (PySem.W.takerIn K (HP.ga K "TooMany") "most") (some none)
def e672 : HP.Fr → Bool := fun K => HP.fnxB K (HP.ma K (HP.ga K "Full") "__init__")
def e673 : HP.Fr → Bool := fun K => HP.eqV (PySem.W.typeIn K (.ref (HP.ma K (HP.ga K "Full") "__init__"))) (some (.type "function"))
def e674 : HP.Fr → Bool := fun K => PySem.W.excInitIn K (HP.ga K "Full") [.type "ValueError", .type "Exception", .type "BaseException", .type "object"] "ValueError.__new__"
def e675 : HP.Fr → Bool := fun K => PySem.W.excOver K (HP.ga K "Full") [.type "ValueError", .type "Exception", .type "BaseException", .type "object"]
def e676 : HP.Fr → Bool := fun K => PySem.W.hasDictIn K (HP.ga K "Full")
def e677 : HP.Fr → Bool := fun K => HP.eqO (PySem.W.findIn K (.ref (HP.ga K "Full")) "__setattr__") (some (some (.builtin "object.__setattr__")))
def e678 : HP.Fr → Bool := fun K => HP.eqB (PySem.W.subIn K (.ref (HP.ga K "Full")) (.type "BaseException")) true
def e679 : HP.Fr → Bool := fun K => HP.eqB (PySem.W.subIn K (.ref (HP.ga K "Full")) (.type "ValueError")) true
def e680 : HP.Fr → Bool := fun K => HP.eqV (PySem.W.typeIn K (.ref (HP.ga K "Full"))) (some (.type "type"))
def e681 : HP.Fr → Bool := fun K => PySem.W.keepIn K (.ref (HP.ga K "Full"))
def e682 : HP.Fr → Bool := fun K => HP.eqO (PySem.W.ks_superIn K (HP.ga K "Full") (HP.ga K "Full") "__init__") (some (some (.builtin "ValueError.__init__")))
def e683 : HP.Fr → Bool := fun K => PySem.W.codeIn K (.ref (HP.cdA K (HP.ma K (HP.ga K "Full") "__init__"))) "Full.__init__"
def e684 : HP.Fr → Bool := fun K => HP.cellB K (HP.clA K (HP.ma K (HP.ga K "Full") "__init__")) (HP.ga K "Full")
def e685 : HP.Fr → Bool := fun K => HP.fileB K (HP.cdA K (HP.ma K (HP.ga K "Full") "__init__")) (PySem.Challenge.rw_plainsure_k01_errors_by_themselves).prog.main.file
def e686 : HP.Fr → Bool := fun K => HP.eqB (PySem.W.mroIn K (HP.ga K "Full") (.ref (HP.ga K "Full"))) true
def e687 : HP.Fr → Bool := fun K => HP.eqO (PySem.W.takerIn K (HP.ga K "Full") "code") (some none)
def e688 : HP.Fr → Bool := fun K => HP.eqO (PySem.W.takerIn K (HP.ga K "Full") "limit") (some none)
def e689 : HP.Fr → Bool := fun K => HP.fnxB K (HP.ma K (HP.ga K "UnknownName") "__init__")
def e690 : HP.Fr → Bool := fun K => HP.eqV (PySem.W.typeIn K (.ref (HP.ma K (HP.ga K "UnknownName") "__init__"))) (some (.type "function"))
def e691 : HP.Fr → Bool := fun K => PySem.W.excInitIn K (HP.ga K "UnknownName") [.type "LookupError", .type "Exception", .type "BaseException", .type "object"] "LookupError.__new__"
def e692 : HP.Fr → Bool := fun K => PySem.W.excOver K (HP.ga K "UnknownName") [.type "LookupError", .type "Exception", .type "BaseException", .type "object"]
def e693 : HP.Fr → Bool := fun K => PySem.W.hasDictIn K (HP.ga K "UnknownName")
def e694 : HP.Fr → Bool := fun K => HP.eqO (PySem.W.findIn K (.ref (HP.ga K "UnknownName")) "__setattr__") (some (some (.builtin "object.__setattr__")))
def e695 : HP.Fr → Bool := fun K => HP.eqB (PySem.W.subIn K (.ref (HP.ga K "UnknownName")) (.type "BaseException")) true
def e696 : HP.Fr → Bool := fun K => HP.eqB (PySem.W.subIn K (.ref (HP.ga K "UnknownName")) (.type "LookupError")) true
def e697 : HP.Fr → Bool := fun K => HP.eqV (PySem.W.typeIn K (.ref (HP.ga K "UnknownName"))) (some (.type "type"))
def e698 : HP.Fr → Bool := fun K => PySem.W.keepIn K (.ref (HP.ga K "UnknownName"))
def e699 : HP.Fr → Bool := fun K => HP.eqO (PySem.W.ks_superIn K (HP.ga K "UnknownName") (HP.ga K "UnknownName") "__init__") (some (some (.builtin "LookupError.__init__")))
def e700 : HP.Fr → Bool := fun K => PySem.W.codeIn K (.ref (HP.cdA K (HP.ma K (HP.ga K "UnknownName") "__init__"))) "UnknownName.__init__"
def e701 : HP.Fr → Bool := fun K => HP.cellB K (HP.clA K (HP.ma K (HP.ga K "UnknownName") "__init__")) (HP.ga K "UnknownName")
def e702 : HP.Fr → Bool := fun K => HP.fileB K (HP.cdA K (HP.ma K (HP.ga K "UnknownName") "__init__")) (PySem.Challenge.rw_plainsure_k01_errors_by_themselves).prog.main.file
def e703 : HP.Fr → Bool := fun K => HP.eqB (PySem.W.mroIn K (HP.ga K "UnknownName") (.ref (HP.ga K "UnknownName"))) true
def e704 : HP.Fr → Bool := fun K => HP.eqO (PySem.W.takerIn K (HP.ga K "UnknownName") "code") (some none)
def e705 : HP.Fr → Bool := fun K => HP.eqO (PySem.W.takerIn K (HP.ga K "UnknownName") "name") (some none)
def e706 : HP.Fr → Bool := fun K => HP.fnxB K (HP.ma K (HP.ga K "UnknownRow") "__init__")
def e707 : HP.Fr → Bool := fun K => HP.eqV (PySem.W.typeIn K (.ref (HP.ma K (HP.ga K "UnknownRow") "__init__"))) (some (.type "function"))
def e708 : HP.Fr → Bool := fun K => PySem.W.excInitIn K (HP.ga K "UnknownRow") [.type "LookupError", .type "Exception", .type "BaseException", .type "object"] "LookupError.__new__"
def e709 : HP.Fr → Bool := fun K => PySem.W.excOver K (HP.ga K "UnknownRow") [.type "LookupError", .type "Exception", .type "BaseException", .type "object"]
def e710 : HP.Fr → Bool := fun K => PySem.W.hasDictIn K (HP.ga K "UnknownRow")
def e711 : HP.Fr → Bool := fun K => HP.eqO (PySem.W.findIn K (.ref (HP.ga K "UnknownRow")) "__setattr__") (some (some (.builtin "object.__setattr__")))
def e712 : HP.Fr → Bool := fun K => HP.eqB (PySem.W.subIn K (.ref (HP.ga K "UnknownRow")) (.type "BaseException")) true
def e713 : HP.Fr → Bool := fun K => HP.eqB (PySem.W.subIn K (.ref (HP.ga K "UnknownRow")) (.type "LookupError")) true
def e714 : HP.Fr → Bool := fun K => HP.eqV (PySem.W.typeIn K (.ref (HP.ga K "UnknownRow"))) (some (.type "type"))
def e715 : HP.Fr → Bool := fun K => PySem.W.keepIn K (.ref (HP.ga K "UnknownRow"))
def e716 : HP.Fr → Bool := fun K => HP.eqO (PySem.W.ks_superIn K (HP.ga K "UnknownRow") (HP.ga K "UnknownRow") "__init__") (some (some (.builtin "LookupError.__init__")))
def e717 : HP.Fr → Bool := fun K => PySem.W.codeIn K (.ref (HP.cdA K (HP.ma K (HP.ga K "UnknownRow") "__init__"))) "UnknownRow.__init__"
def e718 : HP.Fr → Bool := fun K => HP.cellB K (HP.clA K (HP.ma K (HP.ga K "UnknownRow") "__init__")) (HP.ga K "UnknownRow")
def e719 : HP.Fr → Bool := fun K => HP.fileB K (HP.cdA K (HP.ma K (HP.ga K "UnknownRow") "__init__")) (PySem.Challenge.rw_plainsure_k01_errors_by_themselves).prog.main.file
def e720 : HP.Fr → Bool := fun K => HP.eqB (PySem.W.mroIn K (HP.ga K "UnknownRow") (.ref (HP.ga K "UnknownRow"))) true
def e721 : HP.Fr → Bool := fun K => HP.eqO (PySem.W.takerIn K (HP.ga K "UnknownRow") "code") (some none)
def e722 : HP.Fr → Bool := fun K => HP.eqO (PySem.W.takerIn K (HP.ga K "UnknownRow") "row") (some none)
def e723 : HP.Fr → Bool := fun K => HP.fnxB K (HP.ma K (HP.ga K "UnknownValue") "__init__")
def e724 : HP.Fr → Bool := fun K => HP.eqV (PySem.W.typeIn K (.ref (HP.ma K (HP.ga K "UnknownValue") "__init__"))) (some (.type "function"))
def e725 : HP.Fr → Bool := fun K => PySem.W.excInitIn K (HP.ga K "UnknownValue") [.type "LookupError", .type "Exception", .type "BaseException", .type "object"] "LookupError.__new__"
def e726 : HP.Fr → Bool := fun K => PySem.W.excOver K (HP.ga K "UnknownValue") [.type "LookupError", .type "Exception", .type "BaseException", .type "object"]
def e727 : HP.Fr → Bool := fun K => PySem.W.hasDictIn K (HP.ga K "UnknownValue")
def e728 : HP.Fr → Bool := fun K => HP.eqO (PySem.W.findIn K (.ref (HP.ga K "UnknownValue")) "__setattr__") (some (some (.builtin "object.__setattr__")))
def e729 : HP.Fr → Bool := fun K => HP.eqB (PySem.W.subIn K (.ref (HP.ga K "UnknownValue")) (.type "BaseException")) true
def e730 : HP.Fr → Bool := fun K => HP.eqB (PySem.W.subIn K (.ref (HP.ga K "UnknownValue")) (.type "LookupError")) true
def e731 : HP.Fr → Bool := fun K => HP.eqV (PySem.W.typeIn K (.ref (HP.ga K "UnknownValue"))) (some (.type "type"))
def e732 : HP.Fr → Bool := fun K => PySem.W.keepIn K (.ref (HP.ga K "UnknownValue"))
def e733 : HP.Fr → Bool := fun K => HP.eqO (PySem.W.ks_superIn K (HP.ga K "UnknownValue") (HP.ga K "UnknownValue") "__init__") (some (some (.builtin "LookupError.__init__")))
def e734 : HP.Fr → Bool := fun K => PySem.W.codeIn K (.ref (HP.cdA K (HP.ma K (HP.ga K "UnknownValue") "__init__"))) "UnknownValue.__init__"
def e735 : HP.Fr → Bool := fun K => HP.cellB K (HP.clA K (HP.ma K (HP.ga K "UnknownValue") "__init__")) (HP.ga K "UnknownValue")
def e736 : HP.Fr → Bool := fun K => HP.fileB K (HP.cdA K (HP.ma K (HP.ga K "UnknownValue") "__init__")) (PySem.Challenge.rw_plainsure_k01_errors_by_themselves).prog.main.file
def e737 : HP.Fr → Bool := fun K => HP.eqB (PySem.W.mroIn K (HP.ga K "UnknownValue") (.ref (HP.ga K "UnknownValue"))) true
def e738 : HP.Fr → Bool := fun K => HP.eqO (PySem.W.takerIn K (HP.ga K "UnknownValue") "code") (some none)
def e739 : HP.Fr → Bool := fun K => HP.eqO (PySem.W.takerIn K (HP.ga K "UnknownValue") "given") (some none)
def e740 : HP.Fr → Bool := fun K => HP.fnxB K (HP.ma K (HP.ga K "NothingLeft") "__init__")
def e741 : HP.Fr → Bool := fun K => HP.eqV (PySem.W.typeIn K (.ref (HP.ma K (HP.ga K "NothingLeft") "__init__"))) (some (.type "function"))
def e742 : HP.Fr → Bool := fun K => PySem.W.excInitIn K (HP.ga K "NothingLeft") [.type "IndexError", .type "LookupError", .type "Exception", .type "BaseException", .type "object"] "IndexError.__new__"
def e743 : HP.Fr → Bool := fun K => PySem.W.excOver K (HP.ga K "NothingLeft") [.type "IndexError", .type "LookupError", .type "Exception", .type "BaseException", .type "object"]
def e744 : HP.Fr → Bool := fun K => PySem.W.hasDictIn K (HP.ga K "NothingLeft")
def e745 : HP.Fr → Bool := fun K => HP.eqO (PySem.W.findIn K (.ref (HP.ga K "NothingLeft")) "__setattr__") (some (some (.builtin "object.__setattr__")))
def e746 : HP.Fr → Bool := fun K => HP.eqB (PySem.W.subIn K (.ref (HP.ga K "NothingLeft")) (.type "BaseException")) true
def e747 : HP.Fr → Bool := fun K => HP.eqB (PySem.W.subIn K (.ref (HP.ga K "NothingLeft")) (.type "IndexError")) true
def e748 : HP.Fr → Bool := fun K => HP.eqV (PySem.W.typeIn K (.ref (HP.ga K "NothingLeft"))) (some (.type "type"))
def e749 : HP.Fr → Bool := fun K => PySem.W.keepIn K (.ref (HP.ga K "NothingLeft"))
def e750 : HP.Fr → Bool := fun K => HP.eqO (PySem.W.ks_superIn K (HP.ga K "NothingLeft") (HP.ga K "NothingLeft") "__init__") (some (some (.builtin "IndexError.__init__")))
def e751 : HP.Fr → Bool := fun K => PySem.W.codeIn K (.ref (HP.cdA K (HP.ma K (HP.ga K "NothingLeft") "__init__"))) "NothingLeft.__init__"
def e752 : HP.Fr → Bool := fun K => HP.cellB K (HP.clA K (HP.ma K (HP.ga K "NothingLeft") "__init__")) (HP.ga K "NothingLeft")
def e753 : HP.Fr → Bool := fun K => HP.fileB K (HP.cdA K (HP.ma K (HP.ga K "NothingLeft") "__init__")) (PySem.Challenge.rw_plainsure_k01_errors_by_themselves).prog.main.file
def e754 : HP.Fr → Bool := fun K => HP.eqB (PySem.W.mroIn K (HP.ga K "NothingLeft") (.ref (HP.ga K "NothingLeft"))) true
def e755 : HP.Fr → Bool := fun K => HP.eqO (PySem.W.takerIn K (HP.ga K "NothingLeft") "code") (some none)
def x0 : List (HP.Fr → Bool) := [e0, e1, e2, e3, e4, e5, e6, e7, e8, e9, e10, e11, e12, e13, e14, e15, e16, e17, e18, e19, e20, e21, e22, e23, e24, e25, e26, e27, e28, e29, e30, e31, e32, e33, e34, e35, e36, e37, e38, e39, e40, e41, e42, e43, e44, e45, e46, e47, e48, e49, e50, e51, e52, e53, e54, e55, e56, e57, e58, e59, e60, e61, e62, e63, e64, e65, e66, e67, e68, e69, e70, e71, e72, e73, e74, e75, e76, e77, e78, e79, e80, e81, e82, e83, e84, e85, e86, e87, e88, e89, e90, e91, e92, e93, e94, e95, e96, e97, e98, e99, e100, e101, e102, e103, e104, e105, e106, e107, e108, e109, e110, e111, e112, e113, e114, e115, e116, e117, e118, e119, e120, e121, e122, e123, e124, e125, e126, e127, e128, e129, e130, e131, e132, e133, e134, e135, e136, e137, e138, e139, e140, e141, e142, e143, e144, e145, e146, e147, e148, e149, e150, e151, e152, e153, e154, e155, e156, e157, e158, e159, e160, e161, e162, e163, e164, e165, e166, e167, e168, e169, e170, e171, e172, e173, e174, e175, e176, e177, e178, e179, e180, e181, e182, e183, e184, e185, e186, e187, e188, e189, e190, e191, e192, e193, e194, e195, e196, e197, e198, e199, e200, e201, e202, e203, e204, e205, e206, e207, e208, e209, e210, e211, e212, e213, e214, e215, e216, e217, e218, e219, e220, e221, e222, e223, e224, e225, e226, e227, e228, e229, e230, e231, e232, e233, e234, e235, e236, e237, e238, e239, e240, e241, e242, e243, e244, e245, e246, e247, e248, e249, e250, e251, e252, e253, e254, e255, e256, e257, e258, e259, e260, e261, e262, e263, e264, e265, e266, e267, e268, e269, e270, e271, e272, e273, e274, e275, e276, e277, e278, e279, e280, e281, e282, e283, e284, e285, e286, e287, e288, e289, e290, e291, e292, e293, e294, e295, e296, e297, e298, e299, e300, e301, e302, e303, e304, e305, e306, e307, e308, e309, e310, e311, e312, e313, e314, e315, e316, e317, e318, e319, e320, e321, e322, e323, e324, e325, e326, e327, e328, e329, e330, e331, e332, e333, e334, e335, e336, e337, e338, e339, e340, e341, e342, e343, e344, e345, e346, e347, e348, e349, e350, e351, e352, e353, e354, e355, e356, e357, e358, e359, e360, e361, e362, e363, e364, e365, e366, e367, e368, e369, e370, e371, e372, e373, e374, e375, e376, e377]
def x1 : List (HP.Fr → Bool) := [e378, e379, e380, e381, e382, e383, e384, e385, e386, e387, e388, e389, e390, e391, e392, e393, e394, e395, e396, e397, e398, e399, e400, e401, e402, e403, e404, e405, e406, e407, e408, e409, e410, e411, e412, e413, e414, e415, e416, e417, e418, e419, e420, e421, e422, e423, e424, e425, e426, e427, e428, e429, e430, e431, e432, e433, e434, e435, e436, e437, e438, e439, e440, e441, e442, e443, e444, e445, e446, e447, e448, e449, e450, e451, e452, e453, e454, e455, e456, e457, e458, e459, e460, e461, e462, e463, e464, e465, e466, e467, e468, e469, e470, e471, e472, e473, e474, e475, e476, e477, e478, e479, e480, e481, e482, e483, e484, e485, e486, e487, e488, e489, e490, e491, e492, e493, e494, e495, e496, e497, e498, e499, e500, e501, e502, e503, e504, e505, e506, e507, e508, e509, e510, e511, e512, e513, e514, e515, e516, e517, e518, e519, e520, e521, e522, e523, e524, e525, e526, e527, e528, e529, e530, e531, e532, e533, e534, e535, e536, e537, e538, e539, e540, e541, e542, e543, e544, e545, e546, e547, e548, e549, e550, e551, e552, e553, e554, e555, e556, e557, e558, e559, e560, e561, e562, e563, e564, e565, e566, e567, e568, e569, e570, e571, e572, e573, e574, e575, e576, e577, e578, e579, e580, e581, e582, e583, e584, e585, e586, e587, e588, e589, e590, e591, e592, e593, e594, e595, e596, e597, e598, e599, e600, e601, e602, e603, e604, e605, e606, e607, e608, e609, e610, e611, e612, e613, e614, e615, e616, e617, e618, e619, e620, e621, e622, e623, e624, e625, e626, e627, e628, e629, e630, e631, e632, e633, e634, e635, e636, e637, e638, e639, e640, e641, e642, e643, e644, e645, e646, e647, e648, e649, e650, e651, e652, e653, e654, e655, e656, e657, e658, e659, e660, e661, e662, e663, e664, e665, e666, e667, e668, e669, e670, e671, e672, e673, e674, e675, e676, e677, e678, e679, e680, e681, e682, e683, e684, e685, e686, e687, e688, e689, e690, e691, e692, e693, e694, e695, e696, e697, e698, e699, e700, e701, e702, e703, e704, e705, e706, e707, e708, e709, e710, e711, e712, e713, e714, e715, e716, e717, e718, e719, e720, e721, e722, e723, e724, e725, e726, e727, e728, e729, e730, e731, e732, e733, e734, e735, e736, e737, e738, e739, e740, e741, e742, e743, e744, e745, e746, e747, e748, e749, e750, e751, e752, e753, e754, e755]
def exs : List (HP.Fr → Bool) := x0 ++ x1
def k0 : List PySem.Str := ["law", "SureError", "Missing", "InvalidName", "InvalidScheme", "InvalidRow", "InvalidLoose", "InvalidVariables", "InvalidPart", "InvalidFormula", "InvalidColumns", "InvalidAnswer", "InvalidTruths", "InvalidFilling", "InvalidMeaning", "InvalidText", "InvalidCommand", "InvalidLimit", "InvalidPage", "OtherScheme", "OtherColumns", "HasColumns", "NotSafe", "TooMany", "Full", "UnknownName", "UnknownRow", "UnknownValue", "NothingLeft", "_law_bag"]
def k1 : List PySem.Str := ["_law_draw", "_law_of", "_law_errors", "_law_codes", "_law_same", "_law_field", "_law_classes", "_law_named_errors", "__init__"]
def keep : List PySem.Str := k0 ++ k1
abbrev hk : Hook := HP.hookP keep fns exs
def ob (s : SharedT) : HP.AlP := HP.obsP keep fns exs (HandSHeadRun.getT s)
theorem ob_eq (s : SharedT) : ob s = hk.obs s.abs := HP.obsP_eq (HandSHeadRun.getT_eq s)
theorem runA (w : World) : HP.RunA R qv keep fns 60000 names w := by
  intro os
  kernel_rfl
theorem runB (w : World) : HP.RunB R keep x0 60000 w := by
  intro os
  kernel_rfl
theorem runC (w : World) : HP.RunC R keep x1 60000 w := by
  intro os
  kernel_rfl
theorem run (w : World) : HandSHeadRun.RunEq R qv hk ob 60000 names w := HP.run_of (runA w) (runB w) (runC w)
end HE
namespace PD
open PySem PySem.Spec PyProof.Rows L2
def Ex (H H' : Hp) : Prop := ∀ a o, H a = some o → H' a = some o
structure Xt where
  at_ : PySem.W.Frag → Hp → Addr → Prop
  mono : ∀ K H H' a, Ex H H' → at_ K H a → at_ K H' a
inductive D where
  | non | bl (b : Bool) | int (i : Int) | str (s : Str) | ty (n : String) | ref (a : Addr)
  | tup (xs : List D) | lst (xs : List D)
  | dic (kvs : List (Key × D))
  | obj (C : Addr) (fs : List (Str × D))
  | ext (x : Xt)
theorem Ex.refl (H : Hp) : Ex H H := fun _ _ h => h
theorem Ex.trans {H H1 H2 : Hp} (a : Ex H H1) (b : Ex H1 H2) : Ex H H2 := fun x o h => b x o (a x o h)
theorem Ex.new {H : Hp} {p : Addr} {o : HO} (h : H p = none) : Ex H (upd H p o) := fun a u e => by
  rw [upd_ne (ne_of_none e h)]
  exact e
theorem Ex.rd {H H' : Hp} {a : Addr} {u : HO} (e : Ex H H') (h : Rd H a u) : Rd H' a u := by
  rcases h with h | ⟨o, h⟩
  · exact Or.inl (e a _ h)
  · exact Or.inr ⟨o, e a _ h⟩
theorem Ex.l {K : PySem.W.Frag} {H H' : Hp} {a : Addr} {xs : List V} (e : Ex H H') (h : SqL K H a xs) : SqL K H' a xs := by
  rcases h with h | h
  · exact Or.inl (e.rd h)
  · exact Or.inr h
theorem Ex.t {K : PySem.W.Frag} {H H' : Hp} {a : Addr} {xs : List V} (e : Ex H H') (h : SqT K H a xs) : SqT K H' a xs := by
  rcases h with h | h
  · exact Or.inl (e.rd h)
  · exact Or.inr h
theorem Ex.free {H H' : Hp} {a : Addr} (e : Ex H H') (h : H' a = Option.none) : H a = Option.none := by
  cases q : H a with
  | none => rfl
  | some o =>
    rw [e a o q] at h
    cases h
inductive Rep (K : PySem.W.Frag) (H : Hp) : D → V → Prop where
  | non : Rep K H .non .non
  | bl (b : Bool) : Rep K H (.bl b) (.bl b)
  | int (i : Int) : Rep K H (.int i) (.int i)
  | str (s : Str) : Rep K H (.str s) (.str s)
  | ty (n : String) : Rep K H (.ty n) (.ty n)
  | ref (a : Addr) : Rep K H (.ref a) (.ref a)
  | tup {a : Addr} {xs : List V} {ds : List D} (h : SqT K H a xs) (hl : xs.length = ds.length) (r : ∀ (i : Nat) (d : D) (v : V), ds[i]? = some d → xs[i]? = some v → Rep K H d v) : Rep K H (.tup ds) (.ref a)
  | lst {a : Addr} {xs : List V} {ds : List D} (h : H a = some (.lst xs)) (hl : xs.length = ds.length) (r : ∀ (i : Nat) (d : D) (v : V), ds[i]? = some d → xs[i]? = some v → Rep K H d v) : Rep K H (.lst ds) (.ref a)
  | dic {a : Addr} {es : List (Key × V)} {kvs : List (Key × D)} (h : Rd H a (.dK es)) (hl : es.map (·.1) = kvs.map (·.1)) (r : ∀ (i : Nat) (k : Key) (d : D) (j : Key) (v : V), kvs[i]? = some (k, d) → es[i]? = some (j, v) → Rep K H d v) : Rep K H (.dic kvs) (.ref a)
  | obj {a C dx : Addr} {gs : List (Str × V)} {fs : List (Str × D)} (h : H a = some (.ins C dx gs)) (hl : gs.map (·.1) = fs.map (·.1)) (r : ∀ (i : Nat) (k : Str) (d : D) (j : Str) (v : V), fs[i]? = some (k, d) → gs[i]? = some (j, v) → Rep K H d v) : Rep K H (.obj C fs) (.ref a)
  | ext {x : Xt} {a : Addr} (h : x.at_ K H a) : Rep K H (.ext x) (.ref a)
section
variable {K : PySem.W.Frag} {H H' : Hp}
theorem Rep.mono {d : D} {v : V} (r : Rep K H d v) (e : Ex H H') : Rep K H' d v := by
  induction r with
  | non => exact .non
  | bl b => exact .bl b
  | int i => exact .int i
  | str s => exact .str s
  | ty n => exact .ty n
  | ref a => exact .ref a
  | tup h hl _ ih => exact .tup (e.t h) hl ih
  | lst h hl _ ih => exact .lst (e _ _ h) hl ih
  | dic h hl _ ih => exact .dic (e.rd h) hl ih
  | obj h hl _ ih => exact .obj (e _ _ h) hl ih
  | ext h => exact .ext (Xt.mono _ _ _ _ _ e h)
def Reps (K : PySem.W.Frag) (H : Hp) (ds : List D) (xs : List V) : Prop := xs.length = ds.length ∧ ∀ (i : Nat) (d : D) (v : V), ds[i]? = some d → xs[i]? = some v → Rep K H d v
def RepK (K : PySem.W.Frag) (H : Hp) (kvs : List (Key × D)) (es : List (Key × V)) : Prop := es.map (·.1) = kvs.map (·.1) ∧ ∀ (i : Nat) (k : Key) (d : D) (j : Key) (v : V), kvs[i]? = some (k, d) → es[i]? = some (j, v) → Rep K H d v
def RepF (K : PySem.W.Frag) (H : Hp) (fs : List (Str × D)) (gs : List (Str × V)) : Prop := gs.map (·.1) = fs.map (·.1) ∧ ∀ (i : Nat) (k : Str) (d : D) (j : Str) (v : V), fs[i]? = some (k, d) → gs[i]? = some (j, v) → Rep K H d v
theorem Reps.mono {ds : List D} {xs : List V} (r : Reps K H ds xs) (e : Ex H H') : Reps K H' ds xs := ⟨r.1, fun i d v a b => (r.2 i d v a b).mono e⟩
theorem RepK.mono {ds : List (Key × D)} {xs : List (Key × V)} (r : RepK K H ds xs) (e : Ex H H') : RepK K H' ds xs := ⟨r.1, fun i k d j v a b => (r.2 i k d j v a b).mono e⟩
theorem RepF.mono {ds : List (Str × D)} {xs : List (Str × V)} (r : RepF K H ds xs) (e : Ex H H') : RepF K H' ds xs := ⟨r.1, fun i k d j v a b => (r.2 i k d j v a b).mono e⟩
theorem Reps.nil : Reps K H [] [] := ⟨rfl, fun i d v a => by simp at a⟩
theorem Reps.cons {d : D} {v : V} {ds : List D} {xs : List V} (a : Rep K H d v) (r : Reps K H ds xs) : Reps K H (d :: ds) (v :: xs) := by
  refine ⟨by simp [r.1], fun i e w h1 h2 => ?_⟩
  cases i with
  | zero =>
    simp at h1 h2
    rw [← h1, ← h2]
    exact a
  | succ i => exact r.2 i e w (by simpa using h1) (by simpa using h2)
theorem Reps.head {d : D} {v : V} {ds : List D} {xs : List V} (r : Reps K H (d :: ds) (v :: xs)) : Rep K H d v := r.2 0 d v rfl rfl
theorem Reps.tail {d : D} {v : V} {ds : List D} {xs : List V} (r : Reps K H (d :: ds) (v :: xs)) : Reps K H ds xs :=
  ⟨by simpa using r.1, fun i e w h1 h2 => r.2 (i + 1) e w (by simpa using h1) (by simpa using h2)⟩
theorem Reps.inv_nil {xs : List V} (r : Reps K H [] xs) : xs = [] := by
  cases xs with
  | nil => rfl
  | cons x y => exact absurd r.1 (by simp)
theorem Reps.inv_cons {d : D} {ds : List D} {xs : List V} (r : Reps K H (d :: ds) xs) : ∃ v ys, xs = v :: ys ∧ Rep K H d v ∧ Reps K H ds ys := by
  cases xs with
  | nil => exact absurd r.1 (by simp)
  | cons v ys => exact ⟨v, ys, rfl, r.head, r.tail⟩
theorem Reps.append : ∀ {ds es : List D} {xs ys : List V}, Reps K H ds xs → Reps K H es ys → Reps K H (ds ++ es) (xs ++ ys)
  | [], es, xs, ys, r, q => by
    rw [r.inv_nil]
    exact q
  | d :: ds, es, xs, ys, r, q => by
    obtain ⟨v, zs, rfl, a, b⟩ := r.inv_cons
    exact (Reps.append b q).cons a
theorem Reps.one {d : D} {v : V} (a : Rep K H d v) : Reps K H [d] [v] := Reps.nil.cons a
theorem Reps.take {ds : List D} {xs : List V} (n : Nat) (r : Reps K H ds xs) : Reps K H (ds.take n) (xs.take n) := by
  refine ⟨by simp [r.1], fun i d v h1 h2 => ?_⟩
  rw [List.getElem?_take] at h1 h2
  split at h1
  · rename_i hi
    rw [if_pos hi] at h2
    exact r.2 i d v h1 h2
  · cases h1
theorem Reps.drop {ds : List D} {xs : List V} (n : Nat) (r : Reps K H ds xs) : Reps K H (ds.drop n) (xs.drop n) := by
  refine ⟨by simp [r.1], fun i d v h1 h2 => ?_⟩
  rw [List.getElem?_drop] at h1 h2
  exact r.2 _ d v h1 h2
theorem Reps.get {ds : List D} {xs : List V} (r : Reps K H ds xs) {i : Nat} {d : D} (h : ds[i]? = some d) : ∃ v, xs[i]? = some v ∧ Rep K H d v := by
  have hi : i < xs.length := by
    rw [r.1]
    exact (List.getElem?_eq_some_iff.mp h).1
  exact ⟨xs[i], List.getElem?_eq_getElem hi, r.2 i d _ h (List.getElem?_eq_getElem hi)⟩
structure Yt where
  x : Xt
  at_ : PySem.W.Frag → Hp → HO → Prop
  mono : ∀ K S S' o, Ex S S' → at_ K S o → at_ K S' o
  rest : ∀ K S a o, at_ K S o → S a = some o → x.at_ K S a
def Pk (K : PySem.W.Frag) (S H : Hp) (d : D) (v : V) : Prop :=
  Rep K S d v ∨ (∃ ds a xs, d = .lst ds ∧ v = .ref a ∧ H a = some (.lst xs) ∧ Reps K S ds xs) ∨ (∃ kvs a es, d = .dic kvs ∧ v = .ref a ∧ H a = some (.dK es) ∧ RepK K S kvs es) ∨ (∃ C fs a dx gs, d = .obj C fs ∧ v = .ref a ∧ H a = some (.ins C dx gs) ∧ RepF K S fs gs) ∨ ∃ (y : Yt) (a : Addr) (o : HO), d = .ext y.x ∧ v = .ref a ∧ H a = some o ∧ y.at_ K S o
theorem Pk.l {S : Hp} {ds : List D} {v : V} (p : Pk K S H (.lst ds) v) (e : Ex S H) : ∃ a xs, v = .ref a ∧ H a = some (.lst xs) ∧ Reps K S ds xs := by
  rcases p with r | ⟨_, a, xs, q, rfl, h, r⟩ | ⟨_, _, _, q, _⟩ | ⟨_, _, _, _, _, q, _⟩ | ⟨_, _, _, q, _⟩
  · cases r with
    | lst h hl r => exact ⟨_, _, rfl, e _ _ h, hl, r⟩
  · cases q
    exact ⟨a, xs, rfl, h, r⟩
  · cases q
  · cases q
  · cases q
theorem Pk.t {S : Hp} {ds : List D} {v : V} (p : Pk K S H (.tup ds) v) (e : Ex S H) : ∃ a xs, v = .ref a ∧ SqT K H a xs ∧ Reps K S ds xs := by
  rcases p with r | ⟨_, a, xs, q, rfl, h, r⟩ | ⟨_, a, xs, q, rfl, h, r⟩ | ⟨_, _, _, _, _, q, _⟩ | ⟨_, _, _, q, _⟩
  · cases r with
    | tup h hl r => exact ⟨_, _, rfl, e.t h, hl, r⟩
  · cases q
  · cases q
  · cases q
  · cases q
theorem Pk.k {S : Hp} {kvs : List (Key × D)} {v : V} (p : Pk K S H (.dic kvs) v) (e : Ex S H) : ∃ a es, v = .ref a ∧ Rd H a (.dK es) ∧ RepK K S kvs es := by
  rcases p with r | ⟨_, a, xs, q, rfl, h, r⟩ | ⟨_, a, es, q, rfl, h, r⟩ | ⟨_, _, _, _, _, q, _⟩ | ⟨_, _, _, q, _⟩
  · cases r with
    | dic h hl r => exact ⟨_, _, rfl, e.rd h, hl, r⟩
  · cases q
  · cases q
    exact ⟨a, es, rfl, .inl h, r⟩
  · cases q
  · cases q
theorem Pk.o {S : Hp} {C : Addr} {fs : List (Str × D)} {v : V} (p : Pk K S H (.obj C fs) v) (e : Ex S H) : ∃ a dx gs, v = .ref a ∧ H a = some (.ins C dx gs) ∧ RepF K S fs gs := by
  rcases p with r | ⟨_, a, xs, q, rfl, h, r⟩ | ⟨_, a, es, q, rfl, h, r⟩ | ⟨_, _, a, dx, gs, q, rfl, h, r⟩ | ⟨_, _, _, q, _⟩
  · cases r with
    | obj h hl r => exact ⟨_, _, _, rfl, e _ _ h, hl, r⟩
  · cases q
  · cases q
  · cases q
    exact ⟨a, dx, gs, rfl, h, r⟩
  · cases q
theorem Pk.str {S : Hp} {s : Str} {v : V} (p : Pk K S H (.str s) v) : v = .str s := by
  rcases p with r | ⟨_, a, xs, q, rfl, h, r⟩ | ⟨_, a, es, q, rfl, h, r⟩ | ⟨_, _, _, _, _, q, _⟩ | ⟨_, _, _, q, _⟩
  · cases r
    rfl
  · cases q
  · cases q
  · cases q
  · cases q
end
inductive SV where
  | val (d : D) | own (xs : List D) | ownK (kvs : List (Key × D)) | ownO (C : Addr) (fs : List (Str × D)) | slf (C : Addr) (fs : List (Str × D)) | ownX (y : Yt)
def SV.isOwn : SV → Prop
  | .val _ => False
  | _ => True
abbrev DSt := List (Option SV)
def SV.d : SV → D
  | .val d => d
  | .own xs => .lst xs
  | .ownK kvs => .dic kvs
  | .ownO C fs => .obj C fs
  | .slf C fs => .obj C fs
  | .ownX y => .ext y.x
def SV.at_ (K : PySem.W.Frag) (S : Hp) : SV → HO → Prop
  | .own ds, .lst xs => Reps K S ds xs
  | .ownK kvs, .dK es => RepK K S kvs es
  | .ownO C fs, .ins C' _ gs => C' = C ∧ RepF K S fs gs
  | .slf C fs, .ins C' _ gs => C' = C ∧ RepF K S fs gs
  | .ownX y, o => y.at_ K S o
  | _, _ => False
theorem SV.at_.mono {K : PySem.W.Frag} {S S' : Hp} {y : SV} {o : HO} (h : y.at_ K S o) (e : Ex S S') : y.at_ K S' o := by
  cases y <;> cases o <;> first | exact Yt.mono _ _ _ _ _ e h | exact h.elim | exact Reps.mono h e | exact RepK.mono h e | exact ⟨h.1, RepF.mono h.2 e⟩
theorem SV.at_.isOwn {K : PySem.W.Frag} {S : Hp} {y : SV} {o : HO} (h : y.at_ K S o) : y.isOwn := by
  cases y <;> first | trivial | (cases o <;> exact h.elim)
def SV.pl : SV → Option Addr → Addr → Prop
  | .slf _ _, s, a => s = some a
  | _, _, _ => True
structure Fm where
  H0 : Hp
  S0 : Hp
  bag : Option Addr
  slf : Option Addr
  /-- tables of code objects that lambdas of this def fill -/
  tb : List (Addr × Str)
def BagAt (S H : Hp) (b : Addr) : Prop := S b = none ∧ ∃ (c : Addr) (cells : List Int) (i1 i2 i3 i4 : Int), H b = some (.lst [.ref c, .int i1, .int i2, .int i3, .int i4]) ∧ S c = some (.lst (cells.map V.int)) ∧
  cells.length ≤ 63 ∧ 0 ≤ i1 ∧ i1 ≤ cells.length ∧ 0 ≤ i3 ∧ i3 < 2147483648
def TabAt (S H : Hp) (P : Addr) (q : Str) : Prop := S P = none ∧ ∃ ps : Array Value, H P = some (.tbl ps) ∧ TriplesOk ps.toList ∧ ∀ (pos : Pos) (cv : Value), codeAmong pos ps.toList = some cv → ∃ c, cv = .ref c ∧ S c = some (LamX.CodeO c q)
structure R0 (F : Fm) (S H : Hp) : Prop where
  fz : Ex S H
  s0 : Ex F.S0 S
  keep : ∀ a o, F.H0 a = some o → F.bag ≠ some a → (∀ q, (a, q) ∉ F.tb) → H a = some o
  new : ∀ a o, S a = some o → F.S0 a = some o ∨ F.H0 a = none
  bag : ∀ b, F.bag = some b → BagAt S H b ∧ F.H0 b ≠ none
  tab : ∀ p ∈ F.tb, TabAt S H p.1 p.2 ∧ F.H0 p.1 ≠ none
def SlotR (K : PySem.W.Frag) (F : Fm) (S H : Hp) (x : Option (Option SV)) (o : Option (Option V)) : Prop :=
  match x with
  | some (some (.val d)) => ∃ v, o = some (some v) ∧ Rep K S d v
  | some (some y) => ∃ a u, o = some (some (.ref a)) ∧ F.H0 a = none ∧ S a = none ∧ H a = some u ∧ y.at_ K S u ∧ y.pl F.slf a
  | _ => True
def OwnAt (ρ : DSt) (σ : L2.St) (i : Nat) (a : Addr) : Prop := (∃ y, ρ[i]? = some (some y) ∧ y.isOwn) ∧ σ[i]? = some (some (.ref a))
structure R (K : PySem.W.Frag) (F : Fm) (S : Hp) (ρ : DSt) (σ : L2.St) (H : Hp) : Prop extends R0 F S H where
  len : σ.length = ρ.length
  slot : ∀ i : Nat, SlotR K F S H ρ[i]? σ[i]?
  apart : ∀ (i j : Nat) (a : Addr), OwnAt ρ σ i a → OwnAt ρ σ j a → i = j
section
variable {K : PySem.W.Frag} {F : Fm} {S S' H H' : Hp} {ρ : DSt} {σ : L2.St}
theorem SlotR.at_ {x : Option V} {y : SV} (hy : y.isOwn) (h : SlotR K F S H (some (some y)) (some x)) : ∃ a u, x = some (.ref a) ∧ F.H0 a = none ∧ S a = none ∧ H a = some u ∧ y.at_ K S u ∧ y.pl F.slf a := by
  cases y with
  | val d => exact hy.elim
  | own ds => obtain ⟨a, u, e, h⟩ := h; cases e; exact ⟨a, u, rfl, h⟩
  | ownK ds => obtain ⟨a, u, e, h⟩ := h; cases e; exact ⟨a, u, rfl, h⟩
  | ownO C fs => obtain ⟨a, u, e, h⟩ := h; cases e; exact ⟨a, u, rfl, h⟩
  | slf C fs => obtain ⟨a, u, e, h⟩ := h; cases e; exact ⟨a, u, rfl, h⟩
  | ownX y => obtain ⟨a, u, e, h⟩ := h; cases e; exact ⟨a, u, rfl, h⟩
theorem R.at_ {i : Nat} {y : SV} (r : R K F S ρ σ H) (h : ρ[i]? = some (some y)) (hy : y.isOwn) : ∃ a u, σ[i]? = some (some (.ref a)) ∧ F.H0 a = none ∧ S a = none ∧ H a = some u ∧ y.at_ K S u ∧ y.pl F.slf a := by
  have q := r.slot i
  rw [h] at q
  cases y with
  | val d => exact hy.elim
  | own ds => exact q
  | ownK ds => exact q
  | ownO C fs => exact q
  | slf C fs => exact q
  | ownX y => exact q
theorem R.own {i : Nat} {ds : List D} (r : R K F S ρ σ H) (h : ρ[i]? = some (some (.own ds))) : ∃ a xs, σ[i]? = some (some (.ref a)) ∧ F.H0 a = none ∧ S a = none ∧ H a = some (.lst xs) ∧ Reps K S ds xs := by
  obtain ⟨a, u, h1, h2, h3, h4, h5, h6⟩ := r.at_ h trivial
  cases u <;> first | exact h5.elim | exact ⟨a, _, h1, h2, h3, h4, h5⟩
theorem R.ownK {i : Nat} {kvs : List (Key × D)} (r : R K F S ρ σ H) (h : ρ[i]? = some (some (.ownK kvs))) : ∃ a es, σ[i]? = some (some (.ref a)) ∧ F.H0 a = none ∧ S a = none ∧ H a = some (.dK es) ∧ RepK K S kvs es := by
  obtain ⟨a, u, h1, h2, h3, h4, h5, h6⟩ := r.at_ h trivial
  cases u <;> first | exact h5.elim | exact ⟨a, _, h1, h2, h3, h4, h5⟩
theorem R.ownO {i : Nat} {C : Addr} {fs : List (Str × D)} (r : R K F S ρ σ H) (h : ρ[i]? = some (some (.ownO C fs))) : ∃ a dx gs, σ[i]? = some (some (.ref a)) ∧ F.H0 a = none ∧ S a = none ∧ H a = some (.ins C dx gs) ∧ RepF K S fs gs := by
  obtain ⟨a, u, h1, h2, h3, h4, h5, h6⟩ := r.at_ h trivial
  cases u <;> first
    | exact h5.elim
    | (obtain ⟨e, h5⟩ := h5
       cases e
       exact ⟨a, _, _, h1, h2, h3, h4, h5⟩)
theorem R.slf {i : Nat} {C : Addr} {fs : List (Str × D)} (r : R K F S ρ σ H) (h : ρ[i]? = some (some (.slf C fs))) : ∃ a dx gs, σ[i]? = some (some (.ref a)) ∧ F.slf = some a ∧ S a = none ∧ H a = some (.ins C dx gs) ∧ RepF K S fs gs := by
  obtain ⟨a, u, h1, h2, h3, h4, h5, h6⟩ := r.at_ h trivial
  cases u <;> first
    | exact h5.elim
    | (obtain ⟨e, h5⟩ := h5
       cases e
       exact ⟨a, _, _, h1, h6, h3, h4, h5⟩)
theorem R.val {i : Nat} {d : D} (r : R K F S ρ σ H) (h : ρ[i]? = some (some (.val d))) : ∃ v, σ[i]? = some (some v) ∧ Rep K S d v := by
  have q := r.slot i
  rw [h] at q
  exact q
theorem R.ownAt {i : Nat} {a : Addr} (r : R K F S ρ σ H) (h : OwnAt ρ σ i a) : F.H0 a = none ∧ S a = none ∧ ∃ o, H a = some o := by
  obtain ⟨⟨y, h, hy⟩, h2⟩ := h
  obtain ⟨b, u, e, p1, p2, p3, _, _⟩ := r.at_ h hy
  rw [h2] at e
  cases e
  exact ⟨p1, p2, _, p3⟩
theorem R.peek {i : Nat} {y : SV} (r : R K F S ρ σ H) (h : ρ[i]? = some (some y)) : ∃ v, σ[i]? = some (some v) ∧ Pk K S H y.d v := by
  cases y with
  | val d =>
    obtain ⟨v, h1, h2⟩ := r.val h
    exact ⟨v, h1, .inl h2⟩
  | own ds =>
    obtain ⟨a, xs, h1, h2, h3, h4, h5⟩ := r.own h
    exact ⟨.ref a, h1, .inr (.inl ⟨ds, a, xs, rfl, rfl, h4, h5⟩)⟩
  | ownK kvs =>
    obtain ⟨a, xs, h1, h2, h3, h4, h5⟩ := r.ownK h
    exact ⟨.ref a, h1, .inr (.inr (.inl ⟨kvs, a, xs, rfl, rfl, h4, h5⟩))⟩
  | ownO C fs =>
    obtain ⟨a, dx, gs, h1, h2, h3, h4, h5⟩ := r.ownO h
    exact ⟨.ref a, h1, .inr (.inr (.inr (.inl ⟨C, fs, a, dx, gs, rfl, rfl, h4, h5⟩)))⟩
  | slf C fs =>
    obtain ⟨a, dx, gs, h1, h2, h3, h4, h5⟩ := r.slf h
    exact ⟨.ref a, h1, .inr (.inr (.inr (.inl ⟨C, fs, a, dx, gs, rfl, rfl, h4, h5⟩)))⟩
  | ownX y =>
    obtain ⟨a, u, h1, h2, h3, h4, h5, _⟩ := r.at_ h trivial
    exact ⟨.ref a, h1, .inr (.inr (.inr (.inr ⟨y, a, u, rfl, rfl, h4, h5⟩)))⟩
theorem SlotR.go {x : Option (Option SV)} {o : Option (Option V)} (h : SlotR K F S H x o) (eS : Ex S S') (hk : ∀ a y, x = some (some y) → y.isOwn → o = some (some (.ref a)) → S' a = none ∧ H' a = H a) : SlotR K F S' H' x o := by
  cases x with
  | none => trivial
  | some x => cases x with
    | none => trivial
    | some y => cases y with
      | val d =>
        obtain ⟨v, h1, h2⟩ := h
        exact ⟨v, h1, h2.mono eS⟩
      | own ds =>
        obtain ⟨a, u, h1, h2, h3, h4, h5, h6⟩ := h
        obtain ⟨k1, k2⟩ := hk a _ rfl trivial h1
        exact ⟨a, u, h1, h2, k1, by rw [k2]; exact h4, h5.mono eS, h6⟩
      | ownK ds =>
        obtain ⟨a, u, h1, h2, h3, h4, h5, h6⟩ := h
        obtain ⟨k1, k2⟩ := hk a _ rfl trivial h1
        exact ⟨a, u, h1, h2, k1, by rw [k2]; exact h4, h5.mono eS, h6⟩
      | ownO C fs =>
        obtain ⟨a, u, h1, h2, h3, h4, h5, h6⟩ := h
        obtain ⟨k1, k2⟩ := hk a _ rfl trivial h1
        exact ⟨a, u, h1, h2, k1, by rw [k2]; exact h4, h5.mono eS, h6⟩
      | slf C fs =>
        obtain ⟨a, u, h1, h2, h3, h4, h5, h6⟩ := h
        obtain ⟨k1, k2⟩ := hk a _ rfl trivial h1
        exact ⟨a, u, h1, h2, k1, by rw [k2]; exact h4, h5.mono eS, h6⟩
      | ownX y =>
        obtain ⟨a, u, h1, h2, h3, h4, h5, h6⟩ := h
        obtain ⟨k1, k2⟩ := hk a _ rfl trivial h1
        exact ⟨a, u, h1, h2, k1, by rw [k2]; exact h4, h5.mono eS, h6⟩
theorem R.grow (r : R K F S ρ σ H) (q : R0 F S' H') (eS : Ex S S') (hk : ∀ (i : Nat) (a : Addr), OwnAt ρ σ i a → S' a = none ∧ H' a = H a) : R K F S' ρ σ H' :=
  ⟨q, r.len, fun i => (r.slot i).go eS fun a y h hy e => hk i a ⟨⟨y, h, hy⟩, e⟩, r.apart⟩
theorem BagAt.mono {b : Addr} (x : BagAt S H b) (eS : Ex S S') (hb : S' b = none) (hH : H' b = H b) : BagAt S' H' b := by
  obtain ⟨h1, c, cells, i1, i2, i3, i4, h2, h3, h4⟩ := x
  exact ⟨hb, c, cells, i1, i2, i3, i4, by rw [hH]; exact h2, eS _ _ h3, h4⟩
theorem TabAt.mono {b : Addr} {q : Str} (x : TabAt S H b q) (eS : Ex S S') (hb : S' b = none) (hH : H' b = H b) : TabAt S' H' b q := by
  obtain ⟨h1, ps, h2, h3, h4⟩ := x
  refine ⟨hb, ps, by rw [hH]; exact h2, h3, fun pos cv hc => ?_⟩
  obtain ⟨c, e, z⟩ := h4 pos cv hc
  exact ⟨c, e, eS _ _ z⟩
theorem R0.tabNe (r : R0 F S H) {a : Addr} {p : Addr × Str} (hp : p ∈ F.tb) (h : F.H0 a = none ∨ H a = none) : a ≠ p.1 := by
  intro e
  subst e
  obtain ⟨⟨_, _, h2, _⟩, h3⟩ := r.tab p hp
  rcases h with h | h
  · exact h3 h
  · rw [h] at h2
    cases h2
theorem R0.bagNe (r : R0 F S H) {a : Addr} {b : Addr} (hb : F.bag = some b) (h : F.H0 a = none ∨ H a = none) : a ≠ b := by
  intro e
  subst e
  obtain ⟨⟨_, _, _, _, _, _, _, h2, _⟩, h3⟩ := r.bag a hb
  rcases h with h | h
  · exact h3 h
  · rw [h] at h2
    cases h2
theorem R0.laid {p : Addr} {o : HO} (r : R0 F S H) (hp : H p = none) : R0 F (upd S p o) (upd H p o) := by
  have sp : S p = none := r.fz.free hp
  refine ⟨fun a u e => ?_, r.s0.trans (Ex.new sp), fun a u e n n2 => ?_, fun a u e => ?_, fun b hb => ⟨?_, (r.bag b hb).2⟩, fun b hb => ⟨?_, (r.tab b hb).2⟩⟩
  · by_cases h : a = p
    · subst h
      rw [upd_same] at e ⊢
      exact e
    · rw [upd_ne h] at e ⊢
      exact r.fz a u e
  · have q := r.keep a u e n n2
    rw [upd_ne (ne_of_none q hp)]
    exact q
  · by_cases h : a = p
    · subst h
      right
      cases z : F.H0 a with
      | none => rfl
      | some x =>
        have : F.bag ≠ some a := fun hb => (r.bagNe hb (.inr hp)) rfl
        rw [r.keep a x z this fun q hq => (r.tabNe hq (.inr hp)) rfl] at hp
        cases hp
    · rw [upd_ne h] at e
      exact r.new a u e
  · have nb : p ≠ b := r.bagNe hb (.inr hp)
    exact (r.bag b hb).1.mono (Ex.new sp) (by rw [upd_ne nb.symm]; exact (r.bag b hb).1.1) (by rw [upd_ne nb.symm])
  · have nb : p ≠ b.1 := r.tabNe hb (.inr hp)
    exact (r.tab b hb).1.mono (Ex.new sp) (by rw [upd_ne nb.symm]; exact (r.tab b hb).1.1) (by rw [upd_ne nb.symm])
theorem R.laid {p : Addr} {o : HO} (r : R K F S ρ σ H) (hp : H p = none) : R K F (upd S p o) ρ σ (upd H p o) :=
  r.grow (r.toR0.laid hp) (Ex.new (r.fz.free hp)) fun i a h => by
    obtain ⟨_, h2, _, h3⟩ := r.ownAt h
    have n : a ≠ p := ne_of_none h3 hp
    exact ⟨by rw [upd_ne n]; exact h2, upd_ne n⟩
theorem R0.temp {p : Addr} {o : HO} (r : R0 F S H) (hp : H p = none) : R0 F S (upd H p o) := by
  refine ⟨r.fz.trans (Ex.new hp), r.s0, fun a u e n n2 => ?_, r.new, fun b hb => ⟨?_, (r.bag b hb).2⟩, fun b hb => ⟨?_, (r.tab b hb).2⟩⟩
  · have q := r.keep a u e n n2
    rw [upd_ne (ne_of_none q hp)]
    exact q
  · have nb : p ≠ b := r.bagNe hb (.inr hp)
    exact (r.bag b hb).1.mono (Ex.refl S) (r.bag b hb).1.1 (by rw [upd_ne nb.symm])
  · have nb : p ≠ b.1 := r.tabNe hb (.inr hp)
    exact (r.tab b hb).1.mono (Ex.refl S) (r.tab b hb).1.1 (by rw [upd_ne nb.symm])
theorem R.temp {p : Addr} {o : HO} (r : R K F S ρ σ H) (hp : H p = none) : R K F S ρ σ (upd H p o) :=
  r.grow (r.toR0.temp hp) (Ex.refl S) fun i a h => by
    obtain ⟨_, h2, _, h3⟩ := r.ownAt h
    exact ⟨h2, upd_ne (ne_of_none h3 hp)⟩
structure Loose (F : Fm) (S : Hp) (ρ : DSt) (σ : L2.St) (p : Addr) : Prop where
  h0 : F.H0 p = none
  s : S p = none
  ap : ∀ i : Nat, ¬ OwnAt ρ σ i p
theorem R.h0_none {p : Addr} (r : R0 F S H) (hp : H p = none) : F.H0 p = none := by
  cases z : F.H0 p with
  | none => rfl
  | some x =>
    have : F.bag ≠ some p := fun hb => (r.bagNe hb (.inr hp)) rfl
    rw [r.keep p x z this fun q hq => (r.tabNe hq (.inr hp)) rfl] at hp
    cases hp
theorem R.loose {p : Addr} (r : R K F S ρ σ H) (hp : H p = none) : Loose F S ρ σ p :=
  ⟨R.h0_none r.toR0 hp, r.fz.free hp, fun i h => by
    obtain ⟨_, _, _, h3⟩ := r.ownAt h
    rw [hp] at h3
    cases h3⟩
theorem R0.chg {p : Addr} {o : HO} (r : R0 F S H) (h0 : F.H0 p = none) (hs : S p = none) : R0 F S (upd H p o) := by
  refine ⟨fun a u e => ?_, r.s0, fun a u e n n2 => ?_, r.new, fun b hb => ⟨?_, (r.bag b hb).2⟩, fun b hb => ⟨?_, (r.tab b hb).2⟩⟩
  · rw [upd_ne (ne_of_none e hs)]
    exact r.fz a u e
  · rw [upd_ne (ne_of_none e h0)]
    exact r.keep a u e n n2
  · have nb : p ≠ b := r.bagNe hb (.inl h0)
    exact (r.bag b hb).1.mono (Ex.refl S) (r.bag b hb).1.1 (by rw [upd_ne nb.symm])
  · have nb : p ≠ b.1 := r.tabNe hb (.inl h0)
    exact (r.tab b hb).1.mono (Ex.refl S) (r.tab b hb).1.1 (by rw [upd_ne nb.symm])
theorem R.chg {p : Addr} {o : HO} (r : R K F S ρ σ H) (l : Loose F S ρ σ p) : R K F S ρ σ (upd H p o) :=
  r.grow (r.toR0.chg l.h0 l.s) (Ex.refl S) fun i a h => ⟨(r.ownAt h).2.1, upd_ne (fun e : a = p => l.ap i (e ▸ h))⟩
theorem R0.rest {p : Addr} {o : HO} (r : R0 F S H) (h0 : F.H0 p = none) (hp : H p = some o) (hs : S p = none) : R0 F (upd S p o) H := by
  refine ⟨fun a u e => ?_, r.s0.trans (Ex.new hs), r.keep, fun a u e => ?_, fun b hb => ⟨?_, (r.bag b hb).2⟩, fun b hb => ⟨?_, (r.tab b hb).2⟩⟩
  · by_cases h : a = p
    · subst h
      rw [upd_same] at e
      rw [hp]
      exact e
    · rw [upd_ne h] at e
      exact r.fz a u e
  · by_cases h : a = p
    · subst h
      exact .inr h0
    · rw [upd_ne h] at e
      exact r.new a u e
  · have nb : p ≠ b := r.bagNe hb (.inl h0)
    exact (r.bag b hb).1.mono (Ex.new hs) (by rw [upd_ne nb.symm]; exact (r.bag b hb).1.1) rfl
  · have nb : p ≠ b.1 := r.tabNe hb (.inl h0)
    exact (r.tab b hb).1.mono (Ex.new hs) (by rw [upd_ne nb.symm]; exact (r.tab b hb).1.1) rfl
theorem R.rest {p : Addr} {o : HO} (r : R K F S ρ σ H) (l : Loose F S ρ σ p) (hp : H p = some o) : R K F (upd S p o) ρ σ H :=
  r.grow (r.toR0.rest l.h0 hp l.s) (Ex.new l.s) fun i a h => ⟨by rw [upd_ne (fun e : a = p => l.ap i (e ▸ h))]; exact (r.ownAt h).2.1, rfl⟩
theorem OwnAt.set_ne {i j : Nat} {a : Addr} {x : Option SV} {v : Option V} (h : OwnAt (ρ.set j x) (σ.set j v) i a) (n : i ≠ j) : OwnAt ρ σ i a := by
  unfold OwnAt at h ⊢
  rw [List.getElem?_set_ne n.symm, List.getElem?_set_ne n.symm] at h
  exact h
theorem slot_set {j : Nat} {x : SV} {v : V} (r : R K F S ρ σ H) (hx : SlotR K F S H (some (some x)) (some (some v))) : ∀ i : Nat, SlotR K F S H (ρ.set j (some x))[i]? (σ.set j (some v))[i]? := fun i => by
  by_cases h : j = i
  · subst h
    by_cases hl : j < ρ.length
    · rw [List.getElem?_set_self hl, List.getElem?_set_self (by rw [r.len]; exact hl)]
      exact hx
    · rw [List.getElem?_eq_none (by rw [List.length_set]; omega)]
      trivial
  · rw [List.getElem?_set_ne h, List.getElem?_set_ne h]
    exact r.slot i
theorem R.setV {j : Nat} {d : D} {v : V} (r : R K F S ρ σ H) (h : Rep K S d v) : R K F S (ρ.set j (some (.val d))) (σ.set j (some v)) H := by
  refine ⟨r.toR0, by rw [List.length_set, List.length_set]; exact r.len, slot_set r ⟨v, rfl, h⟩, fun i k a h1 h2 => ?_⟩
  have ne : ∀ i, OwnAt (ρ.set j (some (.val d))) (σ.set j (some v)) i a → i ≠ j := fun i h e => by
    subst e
    obtain ⟨⟨y, h, hy⟩, _⟩ := h
    rw [List.getElem?_set] at h
    split at h
    · split at h
      · cases h
        exact hy
      · cases h
    · rename_i c
      exact c rfl
  exact r.apart i k a (h1.set_ne (ne i h1)) (h2.set_ne (ne k h2))
theorem R.setOwn {j : Nat} {y : SV} {u : HO} {p : Addr} (r : R K F S ρ σ H) (l : Loose F S ρ σ p) (hp : H p = some u) (h : y.at_ K S u) (hl : y.pl F.slf p) : R K F S (ρ.set j (some y)) (σ.set j (some (.ref p))) H := by
  have hx : SlotR K F S H (some (some y)) (some (some (.ref p))) := by
    cases y with
    | val d => exact (SV.at_.isOwn h).elim
    | own ds => exact ⟨p, u, rfl, l.h0, l.s, hp, h, hl⟩
    | ownK ds => exact ⟨p, u, rfl, l.h0, l.s, hp, h, hl⟩
    | ownO C fs => exact ⟨p, u, rfl, l.h0, l.s, hp, h, hl⟩
    | slf C fs => exact ⟨p, u, rfl, l.h0, l.s, hp, h, hl⟩
    | ownX y => exact ⟨p, u, rfl, l.h0, l.s, hp, h, hl⟩
  refine ⟨r.toR0, by rw [List.length_set, List.length_set]; exact r.len, slot_set r hx, fun i k a h1 h2 => ?_⟩
  have at_ : ∀ i, OwnAt (ρ.set j (some y)) (σ.set j (some (.ref p))) i a → (i = j ∧ a = p) ∨ (i ≠ j ∧ OwnAt ρ σ i a) := fun i h => by
    by_cases e : i = j
    · subst e
      left
      have q := h.2
      rw [List.getElem?_set] at q
      split at q
      · split at q
        · cases q
          exact ⟨rfl, rfl⟩
        · cases q
      · rename_i c
        exact absurd rfl c
    · exact .inr ⟨e, h.set_ne e⟩
  rcases at_ i h1 with ⟨e1, e2⟩ | ⟨e1, e2⟩ <;> rcases at_ k h2 with ⟨f1, f2⟩ | ⟨f1, f2⟩
  · rw [e1, f1]
  · exact absurd (e2 ▸ f2) (l.ap k)
  · exact absurd (f2 ▸ e2) (l.ap i)
  · exact r.apart i k a e2 f2
theorem R.setL {j : Nat} {ds : List D} {xs : List V} {p : Addr} (r : R K F S ρ σ H) (l : Loose F S ρ σ p) (hp : H p = some (.lst xs)) (h : Reps K S ds xs) : R K F S (ρ.set j (some (.own ds))) (σ.set j (some (.ref p))) H := r.setOwn l hp h trivial
theorem R.setK {j : Nat} {kvs : List (Key × D)} {es : List (Key × V)} {p : Addr} (r : R K F S ρ σ H) (l : Loose F S ρ σ p) (hp : H p = some (.dK es)) (h : RepK K S kvs es) : R K F S (ρ.set j (some (.ownK kvs))) (σ.set j (some (.ref p))) H := r.setOwn l hp h trivial
theorem R.restAny {j : Nat} {y : SV} {a : Addr} {u : HO} (r : R K F S ρ σ H) (h : ρ[j]? = some (some y)) (hy : y.isOwn) (ha : σ[j]? = some (some (.ref a))) (hH : H a = some u) (hd : Rep K (upd S a u) y.d (.ref a)) : R K F (upd S a u) (ρ.set j (some (.val y.d))) σ H := by
  have hA : OwnAt ρ σ j a := ⟨⟨_, h, hy⟩, ha⟩
  obtain ⟨p1, p2, o, p3⟩ := r.ownAt hA
  have hj : j < ρ.length := (List.getElem?_eq_some_iff.mp h).1
  have eS : Ex S (upd S a u) := Ex.new p2
  refine ⟨r.toR0.rest p1 hH p2, by rw [List.length_set]; exact r.len, fun i => ?_, fun i k b h1 h2 => ?_⟩
  · by_cases e : j = i
    · subst e
      rw [List.getElem?_set_self hj]
      exact ⟨.ref a, ha, hd⟩
    · rw [List.getElem?_set_ne e]
      refine (r.slot i).go eS fun b y h hy g => ?_
      have oi : OwnAt ρ σ i b := ⟨⟨y, h, hy⟩, g⟩
      have nb : b ≠ a := fun z => e (r.apart j i a hA (z ▸ oi))
      exact ⟨by rw [upd_ne nb]; exact (r.ownAt oi).2.1, rfl⟩
  · have up : ∀ i, OwnAt (ρ.set j (some (.val y.d))) σ i b → OwnAt ρ σ i b := fun i q => by
      by_cases e : j = i
      · subst e
        obtain ⟨⟨y, q1, q3⟩, _⟩ := q
        rw [List.getElem?_set_self hj] at q1
        cases q1
        exact q3.elim
      · obtain ⟨⟨y, q1, q3⟩, q2⟩ := q
        rw [List.getElem?_set_ne e] at q1
        exact ⟨⟨y, q1, q3⟩, q2⟩
    exact r.apart i k b (up i h1) (up k h2)
theorem R.restOwn {j : Nat} {ds : List D} {a : Addr} {ys : List V} (r : R K F S ρ σ H) (h : ρ[j]? = some (some (.own ds))) (ha : σ[j]? = some (some (.ref a))) (hH : H a = some (.lst ys)) : R K F (upd S a (.lst ys)) (ρ.set j (some (.val (.lst ds)))) σ H := by
  obtain ⟨a', xs', g1, _, p2, g4, g5⟩ := r.own h
  rw [ha] at g1
  cases g1
  rw [hH] at g4
  cases g4
  have eS : Ex S (upd S a (.lst ys)) := Ex.new p2
  exact r.restAny h trivial ha hH (.lst upd_same (g5.mono eS).1 (g5.mono eS).2)
theorem ownAt_set {i j : Nat} {a : Addr} {x : Option SV} (h : OwnAt (ρ.set j x) σ i a) (n : j ≠ i) : OwnAt ρ σ i a := by
  obtain ⟨⟨y, q1, q3⟩, q2⟩ := h
  rw [List.getElem?_set_ne n] at q1
  exact ⟨⟨y, q1, q3⟩, q2⟩
end
structure Go (K : PySem.W.Frag) (F : Fm) (σ : L2.St) (S : Hp) (ρ : DSt) (H : Hp) (S' : Hp) (ρ' : DSt) (H' : Hp) : Prop where
  ex : Ex S S'
  r : R K F S' ρ' σ H'
  kp : ∀ p o, Loose F S ρ σ p → H p = some o → Loose F S' ρ' σ p ∧ H' p = some o
  up : ∀ p, H' p = none → H p = none
theorem upd_none {H : Hp} {p q : Addr} {o : HO} (h : upd H p o q = none) : H q = none := by
  by_cases e : q = p
  · subst e
    rw [upd_same] at h
    cases h
  · rw [upd_ne e] at h
    exact h
section
variable {K : PySem.W.Frag} {F : Fm} {S S' H H' : Hp} {ρ ρ' : DSt} {σ : L2.St}
theorem Go.refl (r : R K F S ρ σ H) : Go K F σ S ρ H S ρ H := ⟨Ex.refl S, r, fun _ _ a b => ⟨a, b⟩, fun _ h => h⟩
theorem Go.trans {S2 H2 : Hp} {ρ2 : DSt} (a : Go K F σ S ρ H S' ρ' H') (b : Go K F σ S' ρ' H' S2 ρ2 H2) : Go K F σ S ρ H S2 ρ2 H2 :=
  ⟨a.ex.trans b.ex, b.r, fun p o h1 h2 => by
    obtain ⟨h3, h4⟩ := a.kp p o h1 h2
    exact b.kp p o h3 h4, fun p h => a.up p (b.up p h)⟩
theorem Go.laid {p : Addr} {o : HO} (r : R K F S ρ σ H) (hp : H p = none) : Go K F σ S ρ H (upd S p o) ρ (upd H p o) :=
  ⟨Ex.new (r.fz.free hp), r.laid hp, fun q u l h => by
    have n : q ≠ p := ne_of_none h hp
    exact ⟨⟨l.h0, by rw [upd_ne n]; exact l.s, l.ap⟩, by rw [upd_ne n]; exact h⟩, fun _ h => upd_none h⟩
theorem Go.temp {p : Addr} {o : HO} (r : R K F S ρ σ H) (hp : H p = none) : Go K F σ S ρ H S ρ (upd H p o) :=
  ⟨Ex.refl S, r.temp hp, fun q u l h => by
    have n : q ≠ p := ne_of_none h hp
    exact ⟨l, by rw [upd_ne n]; exact h⟩, fun _ h => upd_none h⟩
theorem Go.rest {p : Addr} {o : HO} (g : Go K F σ S ρ H S' ρ' H') (l : Loose F S' ρ' σ p) (hp : H' p = some o) (hn : H p = none) : Go K F σ S ρ H (upd S' p o) ρ' H' :=
  ⟨g.ex.trans (Ex.new l.s), g.r.rest l hp, fun q u l2 h => by
    have n : q ≠ p := ne_of_none h hn
    obtain ⟨l3, h3⟩ := g.kp q u l2 h
    exact ⟨⟨l3.h0, by rw [upd_ne n]; exact l3.s, l3.ap⟩, h3⟩, g.up⟩
theorem Go.chg {p : Addr} {o : HO} (g : Go K F σ S ρ H S' ρ' H') (l : Loose F S' ρ' σ p) (hn : H p = none) : Go K F σ S ρ H S' ρ' (upd H' p o) :=
  ⟨g.ex, g.r.chg l, fun q u l2 h => by
    have n : q ≠ p := ne_of_none h hn
    obtain ⟨l3, h3⟩ := g.kp q u l2 h
    exact ⟨l3, by rw [upd_ne n]; exact h3⟩, fun q h => g.up q (upd_none h)⟩
theorem Go.restAny {j : Nat} {y : SV} {a : Addr} {u : HO} (r : R K F S ρ σ H) (h : ρ[j]? = some (some y)) (hy : y.isOwn) (ha : σ[j]? = some (some (.ref a))) (hH : H a = some u) (hd : Rep K (upd S a u) y.d (.ref a)) :
    Go K F σ S ρ H (upd S a u) (ρ.set j (some (.val y.d))) H := by
  have hA : OwnAt ρ σ j a := ⟨⟨_, h, hy⟩, ha⟩
  obtain ⟨p1, p2, o, p3⟩ := r.ownAt hA
  refine ⟨Ex.new p2, r.restAny h hy ha hH hd, fun q u l hq => ⟨⟨l.h0, ?_, fun i z => ?_⟩, hq⟩, fun _ h => h⟩
  · rw [upd_ne (fun e : q = a => l.ap j (e ▸ hA))]
    exact l.s
  · by_cases e : j = i
    · subst e
      obtain ⟨⟨y', q1, q3⟩, _⟩ := z
      rw [List.getElem?_set_self (List.getElem?_eq_some_iff.mp h).1] at q1
      cases q1
      exact q3
    · exact l.ap i (ownAt_set z e)
theorem Go.restOwn {j : Nat} {ds : List D} {a : Addr} {ys : List V} (r : R K F S ρ σ H) (h : ρ[j]? = some (some (.own ds))) (ha : σ[j]? = some (some (.ref a))) (hH : H a = some (.lst ys)) :
    Go K F σ S ρ H (upd S a (.lst ys)) (ρ.set j (some (.val (.lst ds)))) H := by
  obtain ⟨a', xs', g1, _, p2, g4, g5⟩ := r.own h
  rw [ha] at g1
  cases g1
  rw [hH] at g4
  cases g4
  have eS : Ex S (upd S a (.lst ys)) := Ex.new p2
  exact Go.restAny r h trivial ha hH (.lst upd_same (g5.mono eS).1 (g5.mono eS).2)
end
end PD
namespace PD
open PySem PySem.Spec PyProof.Rows L2
structure DX where
  cls : Addr
  fs : List (Str × D)
abbrev KX := DX → DSt → Prop
abbrev WE := DSt → (D → DSt → Prop) → KX → Prop
abbrev WT := DSt → (Bool → DSt → Prop) → KX → Prop
abbrev WA := DSt → (List D → DSt → Prop) → KX → Prop
abbrev WP2 := DSt → (D → D → DSt → Prop) → KX → Prop
def RepX (K : PySem.W.Frag) (S : Hp) (dx : DX) (cls : Value) (od : Option Addr) : Prop := ∃ d gs, cls = .ref dx.cls ∧ od = some d ∧ S d = some (.xd gs) ∧ RepF K S dx.fs gs
def XL (K : PySem.W.Frag) (F : Fm) (W : WX) (σ : L2.St) (S : Hp) (kx : KX) : Prop := ∀ dx ρ S' H' cls od, Ex S S' → R K F S' ρ σ H' → RepX K S' dx cls od → kx dx ρ → W cls od σ H'
theorem XL.mono {K : PySem.W.Frag} {F : Fm} {W : WX} {σ : L2.St} {S S' : Hp} {kx : KX} (h : XL K F W σ S kx) (e : Ex S S') : XL K F W σ S' kx := fun dx ρ S2 H' cls od e2 => h dx ρ S2 H' cls od (e.trans e2)
def RunE (K : PySem.W.Frag) (F : Fm) (W : WX) (t : TE) (w : WE) : Prop := ∀ S ρ σ H (Q : VK) (kq : D → DSt → Prop) (kx : KX), R K F S ρ σ H → w ρ kq kx →
  (∀ S' ρ' H' d v, Go K F σ S ρ H S' ρ' H' → Rep K S' d v → kq d ρ' → Q v H') → XL K F W σ S kx → t σ H Q
def RunP (K : PySem.W.Frag) (F : Fm) (W : WX) (t : TE) (w : WE) : Prop := ∀ S ρ σ H (Q : VK) (kq : D → DSt → Prop) (kx : KX), R K F S ρ σ H → w ρ kq kx →
  (∀ S' ρ' H' d v, Go K F σ S ρ H S' ρ' H' → Pk K S' H' d v → kq d ρ' → Q v H') → XL K F W σ S kx → t σ H Q
def RunL (K : PySem.W.Frag) (F : Fm) (W : WX) (t : TE) (w : WA) : Prop := ∀ S ρ σ H (Q : VK) (kq : List D → DSt → Prop) (kx : KX), R K F S ρ σ H → w ρ kq kx →
  (∀ S' ρ' H' ds p xs, Go K F σ S ρ H S' ρ' H' → H p = none → Loose F S' ρ' σ p → H' p = some (.lst xs) → Reps K S' ds xs → kq ds ρ' → Q (.ref p) H') → XL K F W σ S kx → t σ H Q
def RunT (K : PySem.W.Frag) (F : Fm) (W : WX) (t : TT) (w : WT) : Prop := ∀ S ρ σ H (Q : Bool → Hp → Prop) (kq : Bool → DSt → Prop) (kx : KX), R K F S ρ σ H → w ρ kq kx →
  (∀ S' ρ' H' b, Go K F σ S ρ H S' ρ' H' → kq b ρ' → Q b H') → XL K F W σ S kx → t σ H Q
def RunA (K : PySem.W.Frag) (F : Fm) (W : WX) (t : TA) (w : WA) : Prop := ∀ S ρ σ H (Q : List V → Hp → Prop) (kq : List D → DSt → Prop) (kx : KX), R K F S ρ σ H → w ρ kq kx →
  (∀ S' ρ' H' ds vs, Go K F σ S ρ H S' ρ' H' → Reps K S' ds vs → kq ds ρ' → Q vs H') → XL K F W σ S kx → t σ H Q
def RunQ (K : PySem.W.Frag) (F : Fm) (W : WX) (ta tb : TE) (w : WP2) : Prop := ∀ S ρ σ H (Q : V → V → Hp → Prop) (kq : D → D → DSt → Prop) (kx : KX), R K F S ρ σ H → w ρ kq kx →
  (∀ S' ρ' H' d v e u, Go K F σ S ρ H S' ρ' H' → Pk K S' H' d v → Pk K S' H' e u → kq d e ρ' → Q v u H') → XL K F W σ S kx → ta σ H fun x H1 => tb σ H1 fun y H2 => Q x y H2
structure DE (X : Cx) (F : Fm) (W : WX) (e : Expr) (w : WE) : Prop where
  ex : ∃ t, PE X e t ∧ RunE X.K F W t w
structure DP (X : Cx) (F : Fm) (W : WX) (e : Expr) (w : WE) : Prop where
  ex : ∃ t, PE X e t ∧ RunP X.K F W t w
structure DL (X : Cx) (F : Fm) (W : WX) (e : Expr) (w : WA) : Prop where
  ex : ∃ t, PE X e t ∧ RunL X.K F W t w
structure DT (X : Cx) (F : Fm) (W : WX) (e : Expr) (w : WT) : Prop where
  ex : ∃ t, PT X e t ∧ RunT X.K F W t w
structure DW (X : Cx) (F : Fm) (W : WX) (e : Expr) (w : WT) : Prop where
  ex : ∃ t, PW X e t ∧ RunT X.K F W t w
structure DA (X : Cx) (F : Fm) (W : WX) (es : List Expr) (w : WA) : Prop where
  ex : ∃ t, PA X es t ∧ RunA X.K F W t w
structure DQ (X : Cx) (F : Fm) (W : WX) (a b : Expr) (w : WP2) : Prop where
  ex : ∃ ta tb, PE X a ta ∧ PE X b tb ∧ RunQ X.K F W ta tb w
section
variable {X : Cx} {F : Fm} {W : WX} {e a b : Expr} {w wa wb : WE}
theorem dp (h : DE X F W e w) : DP X F W e w := by
  obtain ⟨t, p, q⟩ := h.ex
  exact ⟨t, p, fun S ρ σ H Q kq kx r hw hk hx => q S ρ σ H Q kq kx r hw (fun S' ρ' H' d v g rp => hk S' ρ' H' d v g (.inl rp)) hx⟩
def wLE (w : WA) : WE := fun ρ kq kx => w ρ (fun ds ρ' => kq (.lst ds) ρ') kx
theorem dl_e {w : WA} (h : DL X F W e w) : DE X F W e (wLE w) := by
  obtain ⟨t, p, q⟩ := h.ex
  refine ⟨t, p, fun S ρ σ H Q kq kx r hw hk hx => q S ρ σ H Q _ kx r hw (fun S' ρ' H' ds a xs g hn l ha rp k => ?_) hx⟩
  have eS : Ex S' (upd S' a (.lst xs)) := Ex.new l.s
  exact hk _ ρ' H' (.lst ds) (.ref a) (g.rest l ha hn) (.lst upd_same (rp.mono eS).1 (rp.mono eS).2) k
theorem dl_p {w : WA} (h : DL X F W e w) : DP X F W e (wLE w) := by
  obtain ⟨t, p, q⟩ := h.ex
  exact ⟨t, p, fun S ρ σ H Q kq kx r hw hk hx => q S ρ σ H Q _ kx r hw (fun S' ρ' H' ds a xs g hn l ha rp k => hk _ ρ' H' (.lst ds) (.ref a) g (.inr (.inl ⟨ds, a, xs, rfl, rfl, ha, rp⟩)) k) hx⟩
def wVar (i : Nat) : WE := fun ρ kq _ => match ρ[i]? with
  | some (some (.val d)) => kq d ρ
  | some (some (.own ds)) => kq (.lst ds) (ρ.set i (some (.val (.lst ds))))
  | _ => False
def wPeek (i : Nat) : WE := fun ρ kq _ => match ρ[i]? with
  | some (some y) => kq y.d ρ
  | _ => False
def wC (d : D) : WE := fun ρ kq _ => kq d ρ
theorem run_var (K : PySem.W.Frag) (F : Fm) (W : WX) (i : Nat) : RunE K F W (tVar i) (wVar i) := fun S ρ σ H Q kq kx r hw hk hx => by
  unfold wVar at hw
  split at hw
  · rename_i d h
    obtain ⟨v, h1, h2⟩ := r.val h
    exact ⟨v, h1, hk S ρ H d v (Go.refl r) h2 hw⟩
  · rename_i ds h
    obtain ⟨a, xs, h1, h2, h3, h4, h5⟩ := r.own h
    have eS : Ex S (upd S a (.lst xs)) := Ex.new h3
    exact ⟨.ref a, h1, hk _ _ H (.lst ds) (.ref a) (Go.restOwn r h h1 h4) (.lst upd_same (h5.mono eS).1 (h5.mono eS).2) hw⟩
  · exact hw.elim
theorem run_peek (K : PySem.W.Frag) (F : Fm) (W : WX) (i : Nat) : RunP K F W (tVar i) (wPeek i) := fun S ρ σ H Q kq kx r hw hk hx => by
  unfold wPeek at hw
  split at hw
  · rename_i y h
    obtain ⟨v, h1, h2⟩ := r.peek h
    exact ⟨v, h1, hk S ρ H _ v (Go.refl r) h2 hw⟩
  · exact hw.elim
theorem dv (i : Nat) {x : Str} {pos : Pos} (hN : X.N[i]? = some x := by rfl) (hv : Vis X.env.scope x := by first | exact Or.inl rfl | exact Or.inr (Or.inl rfl) | exact Or.inr (Or.inr rfl)) (hd : (x == ("__debug__" : Str)) = false := by decide)
    (hcd : (x == ("__classdict__" : Str)) = false := by decide) : DE X F W (.Name x pos) (wVar i) := ⟨tVar i, pe_var hN hv hd hcd, run_var _ _ _ i⟩
theorem dvp (i : Nat) {x : Str} {pos : Pos} (hN : X.N[i]? = some x := by rfl) (hv : Vis X.env.scope x := by first | exact Or.inl rfl | exact Or.inr (Or.inl rfl) | exact Or.inr (Or.inr rfl)) (hd : (x == ("__debug__" : Str)) = false := by decide)
    (hcd : (x == ("__classdict__" : Str)) = false := by decide) : DP X F W (.Name x pos) (wPeek i) := ⟨tVar i, pe_var hN hv hd hcd, run_peek _ _ _ i⟩
theorem run_c (K : PySem.W.Frag) (F : Fm) (W : WX) {d : D} {v : V} (h : ∀ H, Rep K H d v) : RunE K F W (tC v) (wC d) := fun S ρ σ H Q kq kx r hw hk hx => hk S ρ H d v (Go.refl r) (h S) hw
theorem d_int {i j pos} : DE X F W (.Constant (.int i) j pos) (wC (.int i)) := ⟨_, pe_int, run_c _ _ _ fun _ => .int i⟩
theorem d_bl {x j pos} : DE X F W (.Constant (.bool x) j pos) (wC (.bl x)) := ⟨_, pe_bl, run_c _ _ _ fun _ => .bl x⟩
theorem d_non {j pos} : DE X F W (.Constant .none j pos) (wC .non) := ⟨_, pe_non, run_c _ _ _ fun _ => .non⟩
theorem d_str {x j pos} : DE X F W (.Constant (.str x) j pos) (wC (.str x)) := ⟨_, pe_str, run_c _ _ _ fun _ => .str x⟩
def w2 (wa wb : WE) : WP2 := fun ρ kq kx => wa ρ (fun d ρ1 => wb ρ1 (fun e ρ2 => kq d e ρ2) kx) kx
theorem dq (ha : DE X F W a wa) (hb : DP X F W b wb) : DQ X F W a b (w2 wa wb) := by
  obtain ⟨ta, pa, qa⟩ := ha.ex
  obtain ⟨tb, pb, qb⟩ := hb.ex
  refine ⟨ta, tb, pa, pb, fun S ρ σ H Q kq kx r hw hk hx => qa S ρ σ H _ _ kx r hw (fun S1 ρ1 H1 d v g1 p1 k1 => ?_) hx⟩
  refine qb S1 ρ1 σ H1 _ _ kx g1.r k1 (fun S2 ρ2 H2 e u g2 p2 k2 => ?_) (hx.mono g1.ex)
  exact hk S2 ρ2 H2 d v e u (g1.trans g2) (.inl (p1.mono g2.ex)) p2 k2
def w2n (i : Nat) (wb : WE) : WP2 := fun ρ kq kx => match ρ[i]? with
  | some (some _) => wb ρ (fun e ρ2 => match ρ2[i]? with
    | some (some z) => kq z.d e ρ2
    | _ => False) kx
  | _ => False
theorem dqn (i : Nat) {x : Str} {pos : Pos} (hb : DP X F W b wb) (hN : X.N[i]? = some x := by rfl) (hv : Vis X.env.scope x := by first | exact Or.inl rfl | exact Or.inr (Or.inl rfl) | exact Or.inr (Or.inr rfl)) (hd : (x == ("__debug__" : Str)) = false := by decide)
    (hcd : (x == ("__classdict__" : Str)) = false := by decide) : DQ X F W (.Name x pos) b (w2n i wb) := by
  obtain ⟨tb, pb, qb⟩ := hb.ex
  refine ⟨tVar i, tb, pe_var hN hv hd hcd, pb, fun S ρ σ H Q kq kx r hw hk hx => ?_⟩
  unfold w2n at hw
  split at hw
  · rename_i y hy
    obtain ⟨v, hv, _⟩ := r.peek hy
    refine ⟨v, hv, qb S ρ σ H _ _ kx r hw (fun S1 ρ1 H1 e u g1 p1 k1 => ?_) hx⟩
    split at k1
    · rename_i z hz
      obtain ⟨v', hv', p2⟩ := g1.r.peek hz
      rw [hv] at hv'
      cases hv'
      exact hk S1 ρ1 H1 _ v e u g1 p2 p1 k1
    · exact k1.elim
  · exact hw.elim
end
end PD
namespace PD
open PySem PySem.Spec PyProof.Rows L2
abbrev O2 := D → D → (D → Prop) → Prop
abbrev O1 := D → (D → Prop) → Prop
abbrev O2L := D → D → (List D → Prop) → Prop
def Op2 (K : PySem.W.Frag) (r : R2) (o : O2) : Prop := ∀ (F : Fm) S ρ σ H d v e u (Q : VK) (k : D → Prop), R K F S ρ σ H → Pk K S H d v → Pk K S H e u → o d e k →
  (∀ S' H' c w, Go K F σ S ρ H S' ρ H' → Rep K S' c w → k c → Q w H') → r v u H Q
def Op2L (K : PySem.W.Frag) (r : R2) (o : O2L) : Prop := ∀ (F : Fm) S ρ σ H d v e u (Q : VK) (k : List D → Prop), R K F S ρ σ H → Pk K S H d v → Pk K S H e u → o d e k →
  (∀ S' H' ds p xs, Go K F σ S ρ H S' ρ H' → H p = none → Loose F S' ρ σ p → H' p = some (.lst xs) → Reps K S' ds xs → k ds → Q (.ref p) H') → r v u H Q
def Op1 (K : PySem.W.Frag) (r : V → Hp → VK → Prop) (o : O1) : Prop := ∀ (F : Fm) S ρ σ H d v (Q : VK) (k : D → Prop), R K F S ρ σ H → Pk K S H d v → o d k →
  (∀ S' H' c w, Go K F σ S ρ H S' ρ H' → Rep K S' c w → k c → Q w H') → r v H Q
def wOp (o : O2) (w : WP2) : WE := fun ρ kq kx => w ρ (fun d e ρ' => o d e fun c => kq c ρ') kx
def wOpL (o : O2L) (w : WP2) : WA := fun ρ kq kx => w ρ (fun d e ρ' => o d e fun c => kq c ρ') kx
def wOpT (o : O2) (w : WP2) : WT := fun ρ kq kx => w ρ (fun d e ρ' => o d e fun c => match c with | .bl b => kq b ρ' | _ => False) kx
def w1 (o : O1) (w : WE) : WE := fun ρ kq kx => w ρ (fun d ρ' => o d fun c => kq c ρ') kx
theorem free_of {K : PySem.W.Frag} {F : Fm} {σ : L2.St} {S S' H H' : Hp} {ρ ρ' : DSt} {p : Addr} (g : Go K F σ S ρ H S' ρ' H') (hn : H' p = none) : H p = none := g.up _ hn
section
variable {X : Cx} {F : Fm} {W : WX} {e a b c : Expr} {w wa wb wc : WE} {pos : Pos}
theorem run_op {K : PySem.W.Frag} {r : R2} {o : O2} {ta tb : TE} {w : WP2} (h : RunQ K F W ta tb w) (h2 : Op2 K r o) : RunE K F W (tOp r ta tb) (wOp o w) := fun S ρ σ H Q kq kx rr hw hk hx =>
  h S ρ σ H (fun x y H2 => r x y H2 Q) _ kx rr hw (fun S1 ρ1 H1 d v e u g1 p1 p2 k1 => h2 F S1 ρ1 σ H1 d v e u Q _ g1.r p1 p2 k1 fun S2 H2 c z g2 p3 k2 => hk S2 ρ1 H2 c z (g1.trans g2) p3 k2) hx
theorem run_opL {K : PySem.W.Frag} {r : R2} {o : O2L} {ta tb : TE} {w : WP2} (h : RunQ K F W ta tb w) (h2 : Op2L K r o) : RunL K F W (tOp r ta tb) (wOpL o w) := fun S ρ σ H Q kq kx rr hw hk hx =>
  h S ρ σ H (fun x y H2 => r x y H2 Q) _ kx rr hw (fun S1 ρ1 H1 d v e u g1 p1 p2 k1 => h2 F S1 ρ1 σ H1 d v e u Q _ g1.r p1 p2 k1 fun S2 H2 ds p xs g2 hn l p3 p4 k2 => hk S2 ρ1 H2 ds p xs (g1.trans g2) (free_of g1 hn) l p3 p4 k2) hx
theorem d_op {op : Operator} {r : R2} {o : O2} {w : WP2} (ho : OpR X (binaryOp op) r) (h2 : Op2 X.K r o) (h : DQ X F W a b w) : DE X F W (.BinOp a op b pos) (wOp o w) := by
  obtain ⟨ta, tb, pa, pb, q⟩ := h.ex
  exact ⟨_, pe_op ho pa pb, run_op q h2⟩
theorem dl_op {op : Operator} {r : R2} {o : O2L} {w : WP2} (ho : OpR X (binaryOp op) r) (h2 : Op2L X.K r o) (h : DQ X F W a b w) : DL X F W (.BinOp a op b pos) (wOpL o w) := by
  obtain ⟨ta, tb, pa, pb, q⟩ := h.ex
  exact ⟨_, pe_op ho pa pb, run_opL q h2⟩
theorem d_cmp {op : CmpOp} {r : R2} {o : O2} {w : WP2} (ho : OpR X (compareOp op) r) (h2 : Op2 X.K r o) (h : DQ X F W a b w) (hm : behindInMarks op b = false := by first | exact nomark _ | with_unfolding_all rfl) : DE X F W (.Compare a [op] [b] pos) (wOp o w) := by
  obtain ⟨ta, tb, pa, pb, q⟩ := h.ex
  exact ⟨_, pe_cmpR ho pa pb hm, run_op q h2⟩
theorem dt_cmp {op : CmpOp} {r : R2} {o : O2} {w : WP2} (ho : OpR X (compareOp op) r) (h2 : Op2 X.K r o) (h : DQ X F W a b w) (hm : behindInMarks op b = false := by first | exact nomark _ | with_unfolding_all rfl) : DT X F W (.Compare a [op] [b] pos) (wOpT o w) := by
  obtain ⟨ta, tb, pa, pb, q⟩ := h.ex
  refine ⟨_, pt_cmpR ho pa pb hm, fun S ρ σ H Q kq kx rr hw hk hx => ?_⟩
  refine run_op q h2 S ρ σ H (fun x H' => ∃ k, x = .bl k ∧ Q k H') (fun c ρ' => match c with | .bl b => kq b ρ' | _ => False) kx rr hw (fun S1 ρ1 H1 d v g1 p1 k1 => ?_) hx
  split at k1
  · cases p1
    exact ⟨_, rfl, hk S1 ρ1 H1 _ g1 k1⟩
  · exact k1.elim
def wTst (w : WE) : WT := fun ρ kq kx => w ρ (fun c ρ' => match c with | .bl b => kq b ρ' | _ => False) kx
theorem dt_val (h : DE X F W e w) (he : ∀ whole, isTrue e X.env whole = (do let v ← whole; standAt e.pos; holding [v] (truthy v)) := by intro _; rfl) : DT X F W e (wTst w) := by
  obtain ⟨t, p, q⟩ := h.ex
  refine ⟨_, pt_val p he, fun S ρ σ H Q kq kx rr hw hk hx => ?_⟩
  refine q S ρ σ H (fun x H' => ∃ k, x = .bl k ∧ Q k H') (fun c ρ' => match c with | .bl b => kq b ρ' | _ => False) kx rr hw (fun S1 ρ1 H1 d v g1 p1 k1 => ?_) hx
  split at k1
  · cases p1
    exact ⟨_, rfl, hk S1 ρ1 H1 _ g1 k1⟩
  · exact k1.elim
def wOr (w u : WT) : WT := fun ρ kq kx => w ρ (fun b ρ' => if b = true then kq true ρ' else u ρ' kq kx) kx
def wNot (w : WT) : WT := fun ρ kq kx => w ρ (fun b ρ' => kq (!b) ρ') kx
def wIf (t : WT) (w u : WE) : WE := fun ρ kq kx => t ρ (fun b ρ' => if b = true then w ρ' kq kx else u ρ' kq kx) kx
def wAndV (w u : WE) : WE := fun ρ kq kx => w ρ (fun c ρ' => match c with | .bl b => if b = true then u ρ' kq kx else kq (.bl false) ρ' | _ => False) kx
theorem run_or {K : PySem.W.Frag} {t u : TT} {wt wu : WT} (ht : RunT K F W t wt) (hu : RunT K F W u wu) : RunT K F W (tOr t u) (wOr wt wu) := fun S ρ σ H Q kq kx rr hw hk hx => by
  refine ht S ρ σ H _ _ kx rr hw (fun S1 ρ1 H1 b g1 k1 => ?_) hx
  cases b with
  | true => exact iteT (hk S1 ρ1 H1 true g1 (by simpa using k1))
  | false => exact iteF (hu S1 ρ1 σ H1 Q kq kx g1.r (by simpa using k1) (fun S2 ρ2 H2 b g2 k2 => hk S2 ρ2 H2 b (g1.trans g2) k2) (hx.mono g1.ex))
theorem dw_or1 {t : WT} {a : Expr} (h : DT X F W a t) : DW X F W (.BoolOp .Or [a] pos) t := by
  obtain ⟨x, p, q⟩ := h.ex
  exact ⟨x, pw_or1 p, q⟩
theorem dw_or {t u : WT} {rest : List Expr} (ha : DT X F W a t) (hb : DW X F W (.BoolOp .Or (b :: rest) pos) u) : DW X F W (.BoolOp .Or (a :: b :: rest) pos) (wOr t u) := by
  obtain ⟨x, p, q⟩ := ha.ex
  obtain ⟨y, p2, q2⟩ := hb.ex
  exact ⟨_, pw_or p p2, run_or q q2⟩
theorem dt_w {t : WT} (h : DW X F W e t) : DT X F W e t := by
  obtain ⟨x, p, q⟩ := h.ex
  exact ⟨x, p.pt, q⟩
theorem dt_not {t : WT} (h : DT X F W a t) : DT X F W (.UnaryOp .Not a pos) (wNot t) := by
  obtain ⟨x, p, q⟩ := h.ex
  exact ⟨_, pt_not p, fun S ρ σ H Q kq kx rr hw hk hx => q S ρ σ H _ _ kx rr hw (fun S1 ρ1 H1 b g1 k1 => hk S1 ρ1 H1 _ g1 k1) hx⟩
theorem d_one {op : BoolOp} (h : DE X F W a w) : DE X F W (.BoolOp op [a] pos) w := by
  obtain ⟨x, p, q⟩ := h.ex
  exact ⟨x, pe_one p, q⟩
theorem d_and {rest : List Expr} (ha : DE X F W a wa) (hb : DE X F W (.BoolOp .And (b :: rest) pos) wb) : DE X F W (.BoolOp .And (a :: b :: rest) pos) (wAndV wa wb) := by
  obtain ⟨x, p, q⟩ := ha.ex
  obtain ⟨y, p2, q2⟩ := hb.ex
  refine ⟨_, pe_and p p2, fun S ρ σ H Q kq kx rr hw hk hx => q S ρ σ H _ _ kx rr hw (fun S1 ρ1 H1 d v g1 p1 k1 => ?_) hx⟩
  split at k1
  · rename_i b
    cases p1
    cases b with
    | true => exact ⟨true, rfl, iteT (q2 S1 ρ1 σ H1 Q kq kx g1.r (by simpa using k1) (fun S2 ρ2 H2 d v g2 p2 k2 => hk S2 ρ2 H2 d v (g1.trans g2) p2 k2) (hx.mono g1.ex))⟩
    | false => exact ⟨false, rfl, iteF (hk S1 ρ1 H1 _ _ g1 (.bl _) (by simpa using k1))⟩
  · exact k1.elim
theorem d_if {t : WT} (hc : DT X F W c t) (ha : DE X F W a wa) (hb : DE X F W b wb) : DE X F W (.IfExp c a b pos) (wIf t wa wb) := by
  obtain ⟨x, p, q⟩ := hc.ex
  obtain ⟨y, p2, q2⟩ := ha.ex
  obtain ⟨z, p3, q3⟩ := hb.ex
  refine ⟨_, pe_ifExp p p2 p3, fun S ρ σ H Q kq kx rr hw hk hx => q S ρ σ H _ _ kx rr hw (fun S1 ρ1 H1 b g1 k1 => ?_) hx⟩
  cases b with
  | true => exact iteT (q2 S1 ρ1 σ H1 Q kq kx g1.r (by simpa using k1) (fun S2 ρ2 H2 d v g2 p2 k2 => hk S2 ρ2 H2 d v (g1.trans g2) p2 k2) (hx.mono g1.ex))
  | false => exact iteF (q3 S1 ρ1 σ H1 Q kq kx g1.r (by simpa using k1) (fun S2 ρ2 H2 d v g2 p2 k2 => hk S2 ρ2 H2 d v (g1.trans g2) p2 k2) (hx.mono g1.ex))
def wNil : WA := fun ρ kq _ => kq [] ρ
def wCons (w : WE) (u : WA) : WA := fun ρ kq kx => w ρ (fun d ρ1 => u ρ1 (fun ds ρ2 => kq (d :: ds) ρ2) kx) kx
theorem da_nil : DA X F W [] wNil := ⟨_, pa_nil, fun S ρ σ H Q kq kx rr hw hk hx => hk S ρ H [] [] (Go.refl rr) Reps.nil hw⟩
theorem da_cons {es : List Expr} {u : WA} (h : DE X F W e w) (hr : DA X F W es u) (hs : starEach (e :: es) X.env = (false, eval e X.env) :: starEach es X.env := by rfl) : DA X F W (e :: es) (wCons w u) := by
  obtain ⟨x, p, q⟩ := h.ex
  obtain ⟨y, p2, q2⟩ := hr.ex
  refine ⟨_, pa_cons p p2 hs, fun S ρ σ H Q kq kx rr hw hk hx => q S ρ σ H _ _ kx rr hw (fun S1 ρ1 H1 d v g1 p1 k1 => ?_) hx⟩
  exact q2 S1 ρ1 σ H1 _ _ kx g1.r k1 (fun S2 ρ2 H2 ds vs g2 p3 k2 => hk S2 ρ2 H2 _ _ (g1.trans g2) (Reps.cons (p1.mono g2.ex) p3) k2) (hx.mono g1.ex)
def wTup (w : WA) : WE := fun ρ kq kx => w ρ (fun ds ρ' => ds.length ≤ sizeLine ∧ kq (.tup ds) ρ') kx
def wLst (w : WA) : WA := fun ρ kq kx => w ρ (fun ds ρ' => ds.length ≤ sizeLine ∧ kq ds ρ') kx
theorem d_tup {es : List Expr} {x1} {u : WA} (h : DA X F W es u) : DE X F W (.Tuple es x1 pos) (wTup u) := by
  obtain ⟨x, p, q⟩ := h.ex
  refine ⟨_, pe_tup p, fun S ρ σ H Q kq kx rr hw hk hx => q S ρ σ H _ _ kx rr hw (fun S1 ρ1 H1 ds vs g1 p1 k1 => ⟨by rw [p1.1]; exact k1.1, fun p hp => ?_⟩) hx⟩
  have eS : Ex S1 (upd S1 p (.tup vs)) := Ex.new (g1.r.fz.free hp)
  exact hk _ ρ1 _ _ _ (g1.trans (Go.laid g1.r hp)) (.tup (SqT.of upd_same) (p1.mono eS).1 (p1.mono eS).2) k1.2
theorem dl_lst {es : List Expr} {u : WA} (h : DA X F W es u) : DL X F W (.List es pos) (wLst u) := by
  obtain ⟨x, p, q⟩ := h.ex
  refine ⟨_, pe_lst p, fun S ρ σ H Q kq kx rr hw hk hx => q S ρ σ H _ _ kx rr hw (fun S1 ρ1 H1 ds vs g1 p1 k1 => ⟨by rw [p1.1]; exact k1.1, fun p hp => ?_⟩) hx⟩
  exact hk S1 ρ1 _ ds p vs (g1.trans (Go.temp g1.r hp)) (free_of g1 hp) (g1.r.loose hp) upd_same p1 k1.2
end
end PD
namespace PD
open PySem PySem.Spec PyProof.Rows L2
section
variable {K : PySem.W.Frag} {S H : Hp} {d e : D} {v u : V}
theorem Pk.int {i : Int} (p : Pk K S H (.int i) v) : v = .int i := by
  rcases p with r | ⟨_, _, _, q, _⟩ | ⟨_, _, _, q, _⟩ | ⟨_, _, _, _, _, q, _⟩ | ⟨_, _, _, q, _⟩
  · cases r; rfl
  · cases q
  · cases q
  · cases q
  · cases q
theorem Pk.bl {i : Bool} (p : Pk K S H (.bl i) v) : v = .bl i := by
  rcases p with r | ⟨_, _, _, q, _⟩ | ⟨_, _, _, q, _⟩ | ⟨_, _, _, _, _, q, _⟩ | ⟨_, _, _, q, _⟩
  · cases r; rfl
  · cases q
  · cases q
  · cases q
  · cases q
theorem Pk.non (p : Pk K S H .non v) : v = .non := by
  rcases p with r | ⟨_, _, _, q, _⟩ | ⟨_, _, _, q, _⟩ | ⟨_, _, _, _, _, q, _⟩ | ⟨_, _, _, q, _⟩
  · cases r; rfl
  · cases q
  · cases q
  · cases q
  · cases q
theorem Pk.ty {n : String} (p : Pk K S H (.ty n) v) : v = .ty n := by
  rcases p with r | ⟨_, _, _, q, _⟩ | ⟨_, _, _, q, _⟩ | ⟨_, _, _, _, _, q, _⟩ | ⟨_, _, _, q, _⟩
  · cases r; rfl
  · cases q
  · cases q
  · cases q
  · cases q
theorem Pk.ref {n : Addr} (p : Pk K S H (.ref n) v) : v = .ref n := by
  rcases p with r | ⟨_, _, _, q, _⟩ | ⟨_, _, _, q, _⟩ | ⟨_, _, _, _, _, q, _⟩ | ⟨_, _, _, q, _⟩
  · cases r; rfl
  · cases q
  · cases q
  · cases q
  · cases q
end
def oI (g : Int → Int → D) : O2 := fun d e k => match d, e with
  | .int i, .int j => k (g i j)
  | _, _ => False
def oIC (C : Int → Int → Prop) (g : Int → Int → D) : O2 := fun d e k => match d, e with
  | .int i, .int j => C i j ∧ k (g i j)
  | _, _ => False
theorem op2_I {K : PySem.W.Frag} {g : Int → Int → D} {f : Int → Int → V} (hg : ∀ i j S, Rep K S (g i j) (f i j)) : Op2 K (rI0 f) (oI g) := fun F S ρ σ H d v e u Q k r p q h hk => by
  unfold oI at h
  split at h
  · rw [p.int, q.int]
    exact ⟨_, _, rfl, rfl, hk S H _ _ (Go.refl r) (hg _ _ _) h⟩
  · exact h.elim
theorem op2_IC {K : PySem.W.Frag} {C : Int → Int → Prop} {g : Int → Int → D} {f : Int → Int → V} (hg : ∀ i j S, Rep K S (g i j) (f i j)) : Op2 K (rI C f) (oIC C g) := fun F S ρ σ H d v e u Q k r p q h hk => by
  unfold oIC at h
  split at h
  · rw [p.int, q.int]
    exact ⟨_, _, rfl, rfl, h.1, hk S H _ _ (Go.refl r) (hg _ _ _) h.2⟩
  · exact h.elim
abbrev oPow : O2 := oIC CPow fun i j => .int (i ^ j.toNat)
abbrev oLt : O2 := oI fun i j => .bl (decide (i < j))
abbrev oGt : O2 := oI fun i j => .bl (decide (j < i))
def oCat : O2L := fun d e k => match d, e with
  | .lst xs, .lst ys => xs.length + ys.length ≤ sizeLine ∧ k (xs ++ ys)
  | _, _ => False
theorem op2_cat {K : PySem.W.Frag} : Op2L K rCat oCat := fun F S ρ σ H d v e u Q k r p q h hk => by
  unfold oCat at h
  split at h
  · obtain ⟨a, vs, rfl, ha, ra⟩ := p.l r.fz
    obtain ⟨b, us, rfl, hb, rb⟩ := q.l r.fz
    exact ⟨a, b, vs, us, rfl, rfl, ha, hb, by rw [ra.1, rb.1]; exact h.1, fun p' hp => hk S _ _ p' _ (Go.temp r hp) hp (r.loose hp) upd_same (ra.append rb) h.2⟩
  · exact h.elim
def oRep : O2L := fun d e k => match d, e with
  | .lst xs, .int n => (-(2 ^ 63) ≤ n ∧ n < 2 ^ 63 ∧ xs.length * n.toNat ≤ sizeLine) ∧ k (List.replicate n.toNat xs).flatten
  | _, _ => False
theorem Reps.rep {K : PySem.W.Frag} {S : Hp} {ds : List D} {xs : List V} (r : Reps K S ds xs) : ∀ n : Nat, Reps K S (List.replicate n ds).flatten (List.replicate n xs).flatten
  | 0 => Reps.nil
  | n + 1 => by
    rw [List.replicate_succ, List.replicate_succ, List.flatten_cons, List.flatten_cons]
    exact r.append (Reps.rep r n)
theorem op2_rep {K : PySem.W.Frag} : Op2L K rRep oRep := fun F S ρ σ H d v e u Q k r p q h hk => by
  unfold oRep at h
  split at h
  · obtain ⟨a, vs, rfl, ha, ra⟩ := p.l r.fz
    rw [q.int]
    exact ⟨a, _, vs, rfl, rfl, ha, h.1.1, h.1.2.1, by rw [ra.1]; exact h.1.2.2, fun p' hp => hk S _ _ p' _ (Go.temp r hp) hp (r.loose hp) upd_same (ra.rep _) h.2⟩
  · exact h.elim
def oIx : O2 := fun d e k => match d, e with
  | .lst xs, .int i => match atI xs i with
    | some x => k x
    | none => False
  | .tup xs, .int i => match atI xs i with
    | some x => k x
    | none => False
  | .str s, .int i => s.length ≤ sizeLine ∧ match atI s.cps.toList i with
    | some c => k (.str ⟨#[c]⟩)
    | none => False
  | _, _ => False
theorem Reps.atI {K : PySem.W.Frag} {S : Hp} {ds : List D} {xs : List V} (r : Reps K S ds xs) {i : Int} {d : D} (h : L2.atI ds i = some d) : ∃ v, L2.atI xs i = some v ∧ Rep K S d v := by
  unfold L2.atI at h ⊢
  rw [r.1]
  cases e : ixN ds.length i with
  | none =>
    rw [e] at h
    cases h
  | some j =>
    rw [e] at h
    exact r.get h
theorem op2_ix {K : PySem.W.Frag} : Op2 K (rIx K) oIx := fun F S ρ σ H d v e u Q k r p q h hk => by
  unfold oIx at h
  split at h
  · split at h
    · rename_i x hx
      obtain ⟨a, vs, rfl, ha, ra⟩ := p.l r.fz
      obtain ⟨y, hy, ry⟩ := ra.atI hx
      rw [q.int]
      exact .inl ⟨a, vs, _, y, rfl, rfl, SqL.of ha, hy, hk S H _ _ (Go.refl r) ry h⟩
    · exact h.elim
  · split at h
    · rename_i x hx
      obtain ⟨a, vs, rfl, ha, ra⟩ := p.t r.fz
      obtain ⟨y, hy, ry⟩ := ra.atI hx
      rw [q.int]
      exact .inr (.inl ⟨a, vs, _, y, rfl, rfl, ha, hy, hk S H _ _ (Go.refl r) ry h⟩)
    · exact h.elim
  · obtain ⟨h1, h2⟩ := h
    split at h2
    · rename_i c hc
      rw [p.str, q.int]
      exact .inr (.inr ⟨_, _, c, rfl, rfl, h1, hc, hk S H _ _ (Go.refl r) (.str _) h2⟩)
    · exact h2.elim
  · exact h.elim
mutual
def toP : D → Option PyData
  | .non => some .none
  | .bl b => some (.bool b)
  | .int i => some (.int i)
  | .str s => some (.str s)
  | .tup xs => match toPs xs with
    | some ps => some (.tuple ps)
    | none => none
  | .lst xs => match toPs xs with
    | some ps => some (.list ps)
    | none => none
  | .ty _ => none
  | .ref _ => none
  | .dic _ => none
  | .obj _ _ => none
  | .ext _ => none
def toPs : List D → Option (List PyData)
  | [] => some []
  | x :: xs => match toP x, toPs xs with
    | some p, some ps => some (p :: ps)
    | _, _ => none
end
mutual
theorem toP_plain : ∀ (d : D) (p : PyData), toP d = some p → p.plain = true
  | .non, p, h => by cases h; rfl
  | .bl b, p, h => by cases h; rfl
  | .int i, p, h => by cases h; rfl
  | .str s, p, h => by cases h; rfl
  | .tup xs, p, h => by
    unfold toP at h
    cases e : toPs xs with
    | none => rw [e] at h; cases h
    | some ps => rw [e] at h; cases h; exact toPs_plain xs ps e
  | .lst xs, p, h => by
    unfold toP at h
    cases e : toPs xs with
    | none => rw [e] at h; cases h
    | some ps => rw [e] at h; cases h; exact toPs_plain xs ps e
  | .ty _, p, h => by cases h
  | .ref _, p, h => by cases h
  | .dic _, p, h => by cases h
  | .obj _ _, p, h => by cases h
  | .ext _, p, h => by cases h
theorem toPs_plain : ∀ (ds : List D) (ps : List PyData), toPs ds = some ps → PyData.plainAll ps = true
  | [], ps, h => by cases h; rfl
  | x :: xs, ps, h => by
    unfold toPs at h
    cases e1 : toP x with
    | none => rw [e1] at h; cases h
    | some p =>
      cases e2 : toPs xs with
      | none => rw [e1, e2] at h; cases h
      | some qs =>
        rw [e1, e2] at h
        cases h
        have h1 := toP_plain x p e1
        have h2 := toPs_plain xs qs e2
        show (PyData.plain p && PyData.plainAll qs) = true
        rw [h1, h2]
        rfl
end
theorem dpAll_of {K : PySem.W.Frag} {H : Hp} : ∀ (ds : List D) (xs : List V) (ps : List PyData), xs.length = ds.length → (∀ (i : Nat) d v, ds[i]? = some d → xs[i]? = some v → ∀ p, toP d = some p → Dp K H v p) → toPs ds = some ps → DpAll K H xs ps
  | [], xs, ps, hl, ih, h => by
    cases h
    cases xs with
    | nil => exact .nil
    | cons x y => cases hl
  | d :: ds, xs, ps, hl, ih, h => by
    cases xs with
    | nil => cases hl
    | cons x xs =>
      unfold toPs at h
      cases e1 : toP d with
      | none => rw [e1] at h; cases h
      | some p =>
        cases e2 : toPs ds with
        | none => rw [e1, e2] at h; cases h
        | some qs =>
          rw [e1, e2] at h
          cases h
          exact .cons (ih 0 d x rfl rfl p e1) (dpAll_of ds xs qs (by simpa using hl) (fun i d v a b => ih (i + 1) d v (by simpa using a) (by simpa using b)) e2)
theorem Rep.dp {K : PySem.W.Frag} {S : Hp} {d : D} {v : V} (r : Rep K S d v) : ∀ p, toP d = some p → Dp K S v p := by
  induction r with
  | non => intro p h; cases h; exact .non
  | bl b => intro p h; cases h; exact .bl b
  | int i => intro p h; cases h; exact .int i
  | str s => intro p h; cases h; exact .str s
  | ty n => intro p h; cases h
  | ref a => intro p h; cases h
  | @tup a xs ds h hl r ih =>
    intro p hp
    unfold toP at hp
    cases e : toPs ds with
    | none => rw [e] at hp; cases hp
    | some ps => rw [e] at hp; cases hp; exact .tup h (dpAll_of ds xs ps hl ih e)
  | @lst a xs ds h hl r ih =>
    intro p hp
    unfold toP at hp
    cases e : toPs ds with
    | none => rw [e] at hp; cases hp
    | some ps => rw [e] at hp; cases hp; exact .lst (SqL.of h) (dpAll_of ds xs ps hl ih e)
  | dic h hl r ih => intro p h; cases h
  | obj h hl r ih => intro p h; cases h
  | ext h => intro p h; cases h
mutual
theorem Dp.ex {K : PySem.W.Frag} {H H' : Hp} (e : Ex H H') : ∀ (p : PyData) (v : V), Dp K H v p → Dp K H' v p
  | .none, _, h => by cases h; exact .non
  | .bool b, _, h => by cases h; exact .bl b
  | .int i, _, h => by cases h; exact .int i
  | .str s, _, h => by cases h; exact .str s
  | .list ps, _, h => by
    cases h with
    | lst h1 h2 => exact .lst (e.l h1) (DpAll.ex e ps _ h2)
  | .tuple ps, _, h => by
    cases h with
    | tup h1 h2 => exact .tup (e.t h1) (DpAll.ex e ps _ h2)
  | .dict _, _, h => by cases h
theorem DpAll.ex {K : PySem.W.Frag} {H H' : Hp} (e : Ex H H') : ∀ (ps : List PyData) (vs : List V), DpAll K H vs ps → DpAll K H' vs ps
  | [], _, h => by cases h; exact .nil
  | p :: ps, _, h => by
    cases h with
    | cons h1 h2 => exact .cons (Dp.ex e p _ h1) (DpAll.ex e ps _ h2)
end
theorem Pk.dp {K : PySem.W.Frag} {S H : Hp} {d : D} {v : V} (p : Pk K S H d v) (e : Ex S H) {q : PyData} (h : toP d = some q) : Dp K H v q := by
  rcases p with r | ⟨ds, a, xs, rfl, rfl, h1, r⟩ | ⟨ds, a, xs, rfl, rfl, h1, r⟩ | ⟨C, fs, a, dx, gs, rfl, rfl, h1, r⟩ | ⟨_, _, _, q, _⟩
  · exact Dp.ex e _ _ (r.dp q h)
  · unfold toP at h
    cases e2 : toPs ds with
    | none => rw [e2] at h; cases h
    | some ps =>
      rw [e2] at h
      cases h
      exact .lst (SqL.of h1) (dpAll_of ds xs ps r.1 (fun i d v a b p hp => Dp.ex e _ _ ((r.2 i d v a b).dp p hp)) e2)
  · cases h
  · cases h
  · subst q
    cases h
def rEqP (K : PySem.W.Frag) : R2 := fun x y H Q => ∃ d e, Dp K H x d ∧ Dp K H y e ∧ d.plain = true ∧ e.plain = true ∧ min d.depth e.depth ≤ 64 ∧ Q (.bl (PyData.eqv d e)) H
def rNeP (K : PySem.W.Frag) : R2 := fun x y H Q => ∃ d e, Dp K H x d ∧ Dp K H y e ∧ d.plain = true ∧ e.plain = true ∧ min d.depth e.depth ≤ 64 ∧ Q (.bl (!PyData.eqv d e)) H
theorem op_eqP {X : Cx} (hu : X.A.units + 64 < cLine) : OpR X (compareOp .Eq) (rEqP X.K) := by
  intro pins s σ H x y v u Q I rx ry h
  obtain ⟨d, e, hd, he, sd, se, hm, q⟩ := h
  obtain ⟨as, r1⟩ := Dp.reads I d x v hd rx
  obtain ⟨bs, r2⟩ := Dp.reads I e y u he ry
  exact SeqAt.eq_plain r1 r2 sd se (by omega) ⟨.bl _, H, I, rfl, q⟩
theorem op_neP {X : Cx} (hu : X.A.units + 64 < cLine) : OpR X (compareOp .NotEq) (rNeP X.K) := by
  intro pins s σ H x y v u Q I rx ry h
  obtain ⟨d, e, hd, he, sd, se, hm, q⟩ := h
  obtain ⟨as, r1⟩ := Dp.reads I d x v hd rx
  obtain ⟨bs, r2⟩ := Dp.reads I e y u he ry
  exact SeqAt.ne_plain r1 r2 sd se (by omega) ⟨.bl _, H, I, rfl, q⟩
def oEq : O2 := fun d e k => match toP d, toP e with
  | some p, some q => min p.depth q.depth ≤ 64 ∧ k (.bl (PyData.eqv p q))
  | _, _ => False
def oNe : O2 := fun d e k => match toP d, toP e with
  | some p, some q => min p.depth q.depth ≤ 64 ∧ k (.bl (!PyData.eqv p q))
  | _, _ => False
theorem op2_eq {K : PySem.W.Frag} : Op2 K (rEqP K) oEq := fun F S ρ σ H d v e u Q k r p q h hk => by
  unfold oEq at h
  split at h
  · rename_i a b ha hb
    exact ⟨a, b, p.dp r.fz ha, q.dp r.fz hb, toP_plain _ _ ha, toP_plain _ _ hb, h.1, hk S H _ _ (Go.refl r) (.bl _) h.2⟩
  · exact h.elim
theorem op2_ne {K : PySem.W.Frag} : Op2 K (rNeP K) oNe := fun F S ρ σ H d v e u Q k r p q h hk => by
  unfold oNe at h
  split at h
  · rename_i a b ha hb
    exact ⟨a, b, p.dp r.fz ha, q.dp r.fz hb, toP_plain _ _ ha, toP_plain _ _ hb, h.1, hk S H _ _ (Go.refl r) (.bl _) h.2⟩
  · exact h.elim
def inS (a b : Str) : Bool := if a.cps.size = 1 then decide (a.cps.getD 0 0 ∈ b.cps.toList) else !(Builtin.Str.occurrences b a 0 b.length 1).isEmpty
def rInP (K : PySem.W.Frag) (neg : Bool) : R2 := fun x y H Q => (∃ d ds, Dp K H x d ∧ (Dp K H y (.list ds) ∨ Dp K H y (.tuple ds)) ∧ d.plain = true ∧ PyData.plainAll ds = true ∧ min (PyData.depthAll ds) d.depth ≤ 62 ∧ Q (.bl (if neg = true then !ds.any fun z => PyData.eqv z d else ds.any fun z => PyData.eqv z d)) H) ∨
  ∃ a b, x = .str a ∧ y = .str b ∧ Q (.bl (if neg = true then !inS a b else inS a b)) H
theorem str_one {a : Str} (h : a.cps.size = 1) : a = ⟨#[a.cps.getD 0 0]⟩ := by
  obtain ⟨⟨l⟩⟩ := a
  cases l with
  | nil => cases h
  | cons x r =>
    cases r with
    | nil => rfl
    | cons y z => cases h
theorem op_inP {X : Cx} (hu : X.A.units + 64 < cLine) : OpR X (compareOp .In) (rInP X.K false) := by
  intro pins s σ H x y v u Q I rx ry h
  rcases h with ⟨d, ds, hd, he, sd, se, hm, q⟩ | ⟨a, b, rfl, rfl, q⟩
  · obtain ⟨as, r1⟩ := Dp.reads I d x v hd rx
    rcases he with he | he
    · obtain ⟨bs, r2⟩ := Dp.reads I _ y u he ry
      exact SeqAt.in_list_data r2 r1 se sd (by omega) ⟨.bl _, H, I, rfl, q⟩
    · obtain ⟨bs, r2⟩ := Dp.reads I _ y u he ry
      exact SeqAt.in_tuple_data r2 r1 se sd (by omega) ⟨.bl _, H, I, rfl, q⟩
  · unfold inS at q
    by_cases hs : a.cps.size = 1
    · rw [if_pos hs] at q
      exact op_in_sign pins s σ H _ _ v u Q I rx ry ⟨a.cps.getD 0 0, b, by rw [← str_one hs], rfl, q⟩
    · rw [if_neg hs] at q
      exact op_in_str pins s σ H _ _ v u Q I rx ry ⟨a, b, rfl, rfl, q⟩
def oInG (neg : Bool) : O2 := fun d e k => match d, e with
  | .str a, .str b => k (.bl (if neg = true then !inS a b else inS a b))
  | d, .lst xs => match toP d, toPs xs with
    | some p, some ps => min (PyData.depthAll ps) p.depth ≤ 62 ∧ k (.bl (if neg = true then !ps.any fun z => PyData.eqv z p else ps.any fun z => PyData.eqv z p))
    | _, _ => False
  | d, .tup xs => match toP d, toPs xs with
    | some p, some ps => min (PyData.depthAll ps) p.depth ≤ 62 ∧ k (.bl (if neg = true then !ps.any fun z => PyData.eqv z p else ps.any fun z => PyData.eqv z p))
    | _, _ => False
  | _, _ => False
theorem op2_in {K : PySem.W.Frag} {neg : Bool} : Op2 K (rInP K neg) (oInG neg) := fun F S ρ σ H d v e u Q k r p q h hk => by
  unfold oInG at h
  split at h
  · rw [p.str, q.str]
    exact .inr ⟨_, _, rfl, rfl, hk S H _ _ (Go.refl r) (.bl _) h⟩
  · rename_i xs
    split at h
    · rename_i a b ha hb
      have hl : toP (.lst xs) = some (.list b) := by unfold toP; rw [hb]
      exact .inl ⟨a, b, p.dp r.fz ha, .inl (q.dp r.fz hl), toP_plain _ _ ha, toPs_plain _ _ hb, h.1, hk S H _ _ (Go.refl r) (.bl _) h.2⟩
    · exact h.elim
  · rename_i xs
    split at h
    · rename_i a b ha hb
      have hl : toP (.tup xs) = some (.tuple b) := by unfold toP; rw [hb]
      exact .inl ⟨a, b, p.dp r.fz ha, .inr (q.dp r.fz hl), toP_plain _ _ ha, toPs_plain _ _ hb, h.1, hk S H _ _ (Go.refl r) (.bl _) h.2⟩
    · exact h.elim
  · exact h.elim
abbrev rIsN1 : R2 := fun x y H Q => y = .non ∧ Q (.bl (decide (x = .non))) H
def oIsN (neg : Bool) : O2 := fun d e k => match e with
  | .non => match d with
    | .non => k (.bl (!neg))
    | _ => k (.bl neg)
  | _ => False
theorem Pk.nonV {K : PySem.W.Frag} {S H : Hp} {d : D} {v : V} (p : Pk K S H d v) : decide (v = .non) = (match d with | .non => true | _ => false) := by
  rcases p with r | ⟨ds, a, xs, rfl, rfl, h1, r⟩ | ⟨ds, a, xs, rfl, rfl, h1, r⟩ | ⟨C, fs, a, dx, gs, rfl, rfl, h1, r⟩ | ⟨_, _, _, q, _⟩
  · cases r <;> rfl
  · rfl
  · rfl
  · rfl
  · subst q
    rename_i h2
    obtain ⟨h2, _⟩ := h2
    subst h2
    rfl
theorem op2_is {K : PySem.W.Frag} : Op2 K rIsN1 (oIsN false) := fun F S ρ σ H d v e u Q k r p q h hk => by
  unfold oIsN at h
  split at h
  · rw [q.non]
    refine ⟨rfl, ?_⟩
    rw [p.nonV]
    split at h
    · exact hk S H _ _ (Go.refl r) (.bl _) h
    · rename_i hn
      cases d <;> first | exact absurd rfl hn | exact hk S H _ _ (Go.refl r) (.bl _) h
  · exact h.elim
end PD
namespace PD
open PySem PySem.Spec PyProof.Rows L2
section
variable {X : Cx} {F : Fm} {W : WX} {e a b c : Expr} {w wa wb wc : WE} {pos p : Pos}
theorem d_ix {u : WP2} (h : DQ X F W a b u) (hs : PlainIx b := by exact fun _ _ => rfl) : DE X F W (.Subscript a b pos) (wOp oIx u) := by
  obtain ⟨ta, tb, pa, pb, q⟩ := h.ex
  exact ⟨_, pe_ix ix_seq pa pb hs, run_op q op2_ix⟩
abbrev WO := DSt → (Option Int → DSt → Prop) → KX → Prop
def RunO (K : PySem.W.Frag) (F : Fm) (W : WX) (t : TO) (w : WO) : Prop := ∀ S ρ σ H (Q : Option Int → Hp → Prop) (kq : Option Int → DSt → Prop) (kx : KX), R K F S ρ σ H → w ρ kq kx →
  (∀ S' ρ' H' o, Go K F σ S ρ H S' ρ' H' → kq o ρ' → Q o H') → XL K F W σ S kx → t σ H Q
structure DO (X : Cx) (F : Fm) (W : WX) (o : Option Expr) (w : WO) : Prop where
  ex : ∃ t, PO X o t ∧ RunO X.K F W t w
def cutL {α : Type} (xs : List α) (lo hi : Option Int) : List α := (xs.drop (HT.sIx xs.length 0 lo)).take (HT.sIx xs.length xs.length hi - HT.sIx xs.length 0 lo)
def RunQ3 (K : PySem.W.Frag) (F : Fm) (W : WX) (te : TE) (tl th : TO) (w : DSt → (D → Option Int → Option Int → DSt → Prop) → KX → Prop) : Prop := ∀ S ρ σ H (Q : V → Option Int → Option Int → Hp → Prop) (kq : D → Option Int → Option Int → DSt → Prop) (kx : KX), R K F S ρ σ H → w ρ kq kx →
  (∀ S' ρ' H' d v lo hi, Go K F σ S ρ H S' ρ' H' → Pk K S' H' d v → kq d lo hi ρ' → Q v lo hi H') → XL K F W σ S kx → te σ H fun x H1 => tl σ H1 fun l H2 => th σ H2 fun u H3 => Q x l u H3
structure DQ3 (X : Cx) (F : Fm) (W : WX) (e : Expr) (lo hi : Option Expr) (w : DSt → (D → Option Int → Option Int → DSt → Prop) → KX → Prop) : Prop where
  ex : ∃ te tl th, PE X e te ∧ PO X lo tl ∧ PO X hi th ∧ RunQ3 X.K F W te tl th w
theorem run_cb1 {K : PySem.W.Frag} {r : List V → Hp → VK → Prop} {o : O1} {t : TE} (h : RunP K F W t w) (h2 : Op1 K (fun v => r [v]) o) : RunE K F W (tCB r (tCons t tNil)) (w1 o w) := fun S ρ σ H Q kq kx rr hw hk hx =>
  h S ρ σ H _ _ kx rr hw (fun S1 ρ1 H1 d v g1 p1 k1 => h2 F S1 ρ1 σ H1 d v Q _ g1.r p1 k1 fun S2 H2 c z g2 p3 k2 => hk S2 ρ1 H2 c z (g1.trans g2) p3 k2) hx
theorem d_cb {x : Str} {id : String} {r : List V → Hp → VK → Prop} {o : O1} (hc : CallR X (.builtin id) r) (h2 : Op1 X.K (fun v => r [v]) o) (hm : X.mg x = none) (h : DP X F W e w) (hv : bootBuiltins x = some (.builtin id) := by decide +kernel) (hg : Gl X x := by rfl) (hn : x ≠ "__name__" := by decide) (hdb : (x == ("__debug__" : Str)) = false := by decide)
    (hs : starEach [e] X.env = (false, eval e X.env) :: starEach [] X.env := by rfl) : DE X F W (.Call (.Name x p) [e] [] pos) (w1 o w) := by
  obtain ⟨t, q1, q⟩ := h.ex
  exact ⟨_, pe_callB hc hg hm hv (pa_cons q1 pa_nil hs) hn hdb hs rfl, run_cb1 q h2⟩
def oLen : O1 := fun d k => match d with
  | .str s => s.length ≤ sizeLine ∧ k (.int s.length)
  | .lst xs => k (.int xs.length)
  | .tup xs => k (.int xs.length)
  | .dic xs => k (.int xs.length)
  | _ => False
def rLenA (K : PySem.W.Frag) : List V → Hp → VK → Prop := fun xs H Q => (∃ x n, xs = [x] ∧ LenV K x H n ∧ Q (.int n) H) ∨ (∃ a kvs, xs = [V.ref a] ∧ Rd H a (.dK kvs) ∧ Q (.int kvs.length) H)
theorem call_lenRd : CallR X (.builtin "len") (fun xs H Q => ∃ a kvs, xs = [V.ref a] ∧ Rd H a (.dK kvs) ∧ Q (.int kvs.length) H) := by
  intro pins s σ H xs us Q I r h
  obtain ⟨a, kvs, rfl, ha, q⟩ := h
  obtain ⟨u, rfl, ru⟩ := vals1 r
  cases ru
  exact d_len I ha fun t s' I' => ⟨.int kvs.length, H, I', ⟨t, rfl⟩, q⟩
theorem call_lenA : CallR X (.builtin "len") (rLenA X.K) := CallR.or call_len call_lenRd
theorem op1_len {K : PySem.W.Frag} : Op1 K (fun v => rLenA K [v]) oLen := fun F S ρ σ H d v Q k r p h hk => by
  unfold oLen at h
  split at h
  · rw [p.str]
    exact .inl ⟨_, _, rfl, ⟨h.1, rfl⟩, hk S H _ _ (Go.refl r) (.int _) h.2⟩
  · obtain ⟨a, vs, rfl, ha, ra⟩ := p.l r.fz
    exact .inl ⟨_, _, rfl, .inl ⟨vs, SqL.of ha, rfl⟩, hk S H _ _ (Go.refl r) (.int _) (by rw [ra.1]; exact h)⟩
  · obtain ⟨a, vs, rfl, ha, ra⟩ := p.t r.fz
    exact .inl ⟨_, _, rfl, .inr ⟨vs, ha, rfl⟩, hk S H _ _ (Go.refl r) (.int _) (by rw [ra.1]; exact h)⟩
  · obtain ⟨a, vs, rfl, ha, ra⟩ := p.k r.fz
    have hl : ∀ {xs : List (Key × D)}, RepK K S xs vs → vs.length = xs.length := fun q => by
      have := congrArg List.length q.1
      simpa using this
    exact .inr ⟨a, vs, rfl, ha, hk S H _ _ (Go.refl r) (.int _) (by rw [hl ra]; exact h)⟩
  · exact h.elim
theorem d_len {x : Str} (hx : x = "len") (hm : X.mg x = none) (h : DP X F W e w) (hv : bootBuiltins x = some (.builtin "len") := by decide +kernel) (hg : Gl X x := by rfl) (hn : x ≠ "__name__" := by decide) (hdb : (x == ("__debug__" : Str)) = false := by decide)
    (hs : starEach [e] X.env = (false, eval e X.env) :: starEach [] X.env := by rfl) : DE X F W (.Call (.Name x p) [e] [] pos) (w1 oLen w) := d_cb call_lenA op1_len hm h hv hg hn hdb hs
def bls : List D → Option (List Bool)
  | [] => some []
  | d :: r => match d, bls r with
    | .bl b, some bs => some (b :: bs)
    | _, _ => none
theorem bls_eq : ∀ {ds : List D} {bs : List Bool}, bls ds = some bs → ds = bs.map D.bl
  | [], bs, h => by cases h; rfl
  | d :: r, bs, h => by
    unfold bls at h
    split at h
    · rename_i b cs hr
      cases h
      rw [bls_eq hr]
      rfl
    · cases h
theorem Reps.bls {K : PySem.W.Frag} {S : Hp} : ∀ {bs : List Bool} {xs : List V}, Reps K S (bs.map D.bl) xs → xs = bs.map V.bl
  | [], xs, r => r.inv_nil
  | b :: bs, xs, r => by
    obtain ⟨v, ys, rfl, h1, h2⟩ := r.inv_cons
    cases h1
    rw [Reps.bls h2]
    rfl
def oAll : O1 := fun d k => match d with
  | .lst ds => match bls ds with
    | some bs => k (.bl (bs.all id))
    | none => False
  | _ => False
theorem op1_all {K : PySem.W.Frag} : Op1 K (fun v => rAll K [v]) oAll := fun F S ρ σ H d v Q k r p h hk => by
  unfold oAll at h
  split at h
  · split at h
    · rename_i bs hb
      obtain ⟨a, vs, rfl, ha, ra⟩ := p.l r.fz
      rw [bls_eq hb] at ra
      rw [ra.bls] at ha
      exact ⟨a, bs, rfl, SqL.of ha, hk S H _ _ (Go.refl r) (.bl _) h⟩
    · exact h.elim
  · exact h.elim
def rInt1 : List V → Hp → VK → Prop := fun xs H Q => ((∃ i, xs = [.int i] ∧ Q (.int i) H) ∨ ∃ k, xs = [.bl k] ∧ Q (.int (if k then 1 else 0)) H) ∨ ∃ a n, xs = [.str a] ∧ PySem.intText? a = some n ∧ a.length ≤ 640 ∧ Q (.int n) H
theorem call_intA : CallR X (.type "int") rInt1 := CallR.or call_int1 call_int_str
def tyD : D → Option String
  | .non => some "NoneType"
  | .bl _ => some "bool"
  | .int _ => some "int"
  | .str _ => some "str"
  | .tup _ => some "tuple"
  | .lst _ => some "list"
  | .dic _ => some "dict"
  | _ => none
theorem Pk.tyX {K : PySem.W.Frag} {S H : Hp} {d : D} {v : V} {n : String} (p : Pk K S H d v) (e : Ex S H) (h : tyD d = some n) : TyX K H v (.type n) := by
  cases d with
  | non => cases h; rw [p.non]; exact .base .non
  | bl b => cases h; rw [p.bl]; exact .base (.bl b)
  | int i => cases h; rw [p.int]; exact .base (.int i)
  | str s => cases h; rw [p.str]; exact .base (.str s)
  | ty n => cases h
  | ref a => cases h
  | tup xs =>
    cases h
    obtain ⟨a, vs, rfl, ha, ra⟩ := p.t e
    rcases ha with (ha | ⟨o, ha⟩) | ⟨o, its, n, h1, h2, _⟩
    · exact .base (.tup ha)
    · exact .fTuple ha
    · exact .kTuple h1 h2
  | lst xs =>
    cases h
    obtain ⟨a, vs, rfl, ha, ra⟩ := p.l e
    exact .base (.lst ha)
  | dic kvs =>
    cases h
    obtain ⟨a, vs, rfl, ha, ra⟩ := p.k e
    rcases ha with ha | ⟨o, ha⟩
    · exact .base (.dK ha)
    · exact .fDict ha
  | obj C fs => cases h
  | ext x => cases h
def isB (a b : String) : Bool := a == b || (a == "bool" && b == "int")
def oIsi (T : String) : O1 := fun d k => match tyD d with
  | some a => kitB a T = some (isB a T) ∧ k (.bl (isB a T))
  | none => False
def tyNames : List String := ["NoneType", "bool", "int", "str", "tuple", "list", "dict"]
theorem run_isi {K : PySem.W.Frag} (T : String) {t : TE} (h : RunP K F W t w) : RunE K F W (tCB (rIsi K) (tCons t (tCons (tC (.ty T)) tNil))) (w1 (oIsi T) w) := fun S ρ σ H Q kq kx rr hw hk hx =>
  h S ρ σ H _ _ kx rr hw (fun S1 ρ1 H1 d v g1 p1 k1 => by
    unfold oIsi at k1
    split at k1
    · rename_i a ha
      exact ⟨v, .ty T, .type a, .type T, isB a T, rfl, .ty T, p1.tyX g1.r.fz ha, kit_ty k1.1, hk S1 ρ1 H1 _ _ g1 (.bl _) k1.2⟩
    · exact k1.elim) hx
theorem d_isi {x y : Str} (T : String) {p2 : Pos} (hm : X.mg x = none) (hm2 : X.mg y = none) (h : DP X F W e w) (hv : bootBuiltins x = some (.builtin "isinstance") := by decide +kernel) (hv2 : bootBuiltins y = some (.type T) := by decide +kernel) (hg : Gl X x := by rfl) (hg2 : Gl X y := by rfl)
    (hn : x ≠ "__name__" := by decide) (hdb : (x == ("__debug__" : Str)) = false := by decide) (hn2 : y ≠ "__name__" := by decide) (hdb2 : (y == ("__debug__" : Str)) = false := by decide)
    (hs : starEach [e, .Name y p2] X.env = (false, eval e X.env) :: starEach [.Name y p2] X.env := by rfl) : DE X F W (.Call (.Name x p) [e, .Name y p2] [] pos) (w1 (oIsi T) w) := by
  obtain ⟨t, q1, q⟩ := h.ex
  exact ⟨_, pe_callB call_isi hg hm hv (pa_cons q1 (pa_cons (pe_bltn hg2 hm2 hv2 (v := .ty T) rfl hn2 hdb2) pa_nil rfl) hs) hn hdb hs rfl, run_isi T q⟩
def oIsi2 (T U : String) : O1 := fun d k => match tyD d with
  | some a => (kitB a T = some (isB a T) ∧ kitB a U = some (isB a U)) ∧ k (.bl (isB a T || isB a U))
  | none => False
theorem run_isi2 {K : PySem.W.Frag} (T U : String) {t : TE} (h : RunP K F W t w) : RunE K F W (tCB (rIsiT K) (tCons t (tCons (tTup (tCons (tC (.ty T)) (tCons (tC (.ty U)) tNil))) tNil))) (w1 (oIsi2 T U) w) := fun S ρ σ H Q kq kx rr hw hk hx =>
  h S ρ σ H _ _ kx rr hw (fun S1 ρ1 H1 d v g1 p1 k1 => by
    unfold oIsi2 at k1
    split at k1
    · rename_i a ha
      refine ⟨by show 2 ≤ sizeLine; decide, fun tp hp => ?_⟩
      have r2 := g1.r.temp (o := .tup [.ty T, .ty U]) hp
      refine ⟨v, tp, [.ty T, .ty U], .type a, [.type T, .type U], isB a T || isB a U, rfl, upd_same, .cons (.ty T) (.cons (.ty U) .nil), ?_, ?_, hk S1 ρ1 _ _ _ (g1.trans (Go.temp g1.r hp)) (.bl _) k1.2⟩
      · have h3 : TyX K H1 v (.type a) := p1.tyX g1.r.fz ha
        have e2 : Ex H1 (upd H1 tp (.tup [.ty T, .ty U])) := Ex.new hp
        cases h3 with
        | base b =>
          cases b with
          | non => exact .base .non
          | bl y => exact .base (.bl y)
          | int i => exact .base (.int i)
          | str y => exact .base (.str y)
          | flt y => exact .base (.flt y)
          | lst ea => exact .base (.lst (e2 _ _ ea))
          | frz ea => exact .base (.frz (e2 _ _ ea))
          | tup ea => exact .base (.tup (e2 _ _ ea))
          | dK ea => exact .base (.dK (e2 _ _ ea))
          | dT ea => exact .base (.dT (e2 _ _ ea))
        | byt y => exact .byt y
        | set ea => exact .set (e2 _ _ ea)
        | kList ea c => exact .kList ea c
        | kTuple ea c => exact .kTuple ea c
        | kDict ea c => exact .kDict ea c
        | fTuple ea => exact .fTuple (e2 _ _ ea)
        | fDict ea => exact .fDict (e2 _ _ ea)
      · refine kitAny_cons (kit_ty k1.1.1) (fun hb => kitAny_cons (kit_ty k1.1.2) (fun hb2 => by rw [hb, hb2]; exact kitAny_nil) (fun hb2 => by rw [hb, hb2]; rfl)) (fun hb => by rw [hb]; rfl)
    · exact k1.elim) hx
theorem d_isi2 {x y z : Str} (T U : String) {p2 p3 p4 : Pos} {kk : Nat} (hm : X.mg x = none) (hm2 : X.mg y = none) (hm3 : X.mg z = none) (h : DP X F W e w) (hv : bootBuiltins x = some (.builtin "isinstance") := by decide +kernel) (hv2 : bootBuiltins y = some (.type T) := by decide +kernel) (hv3 : bootBuiltins z = some (.type U) := by decide +kernel)
    (hg : Gl X x := by rfl) (hg2 : Gl X y := by rfl) (hg3 : Gl X z := by rfl)
    (hn : x ≠ "__name__" := by decide) (hdb : (x == ("__debug__" : Str)) = false := by decide) (hn2 : y ≠ "__name__" := by decide) (hdb2 : (y == ("__debug__" : Str)) = false := by decide) (hn3 : z ≠ "__name__" := by decide) (hdb3 : (z == ("__debug__" : Str)) = false := by decide)
    (hs : starEach [e, .Tuple [.Name y p2, .Name z p3] kk p4] X.env = (false, eval e X.env) :: starEach [.Tuple [.Name y p2, .Name z p3] kk p4] X.env := by rfl) : DE X F W (.Call (.Name x p) [e, .Tuple [.Name y p2, .Name z p3] kk p4] [] pos) (w1 (oIsi2 T U) w) := by
  obtain ⟨t, q1, q⟩ := h.ex
  exact ⟨_, pe_callB call_isiT hg hm hv (pa_cons q1 (pa_cons (pe_tup (pa_cons (pe_bltn hg2 hm2 hv2 (v := .ty T) rfl hn2 hdb2) (pa_cons (pe_bltn hg3 hm3 hv3 (v := .ty U) rfl hn3 hdb3) pa_nil rfl) rfl)) pa_nil rfl) hs) hn hdb hs rfl, run_isi2 T U q⟩
def sts : List D → Option (List Str)
  | [] => some []
  | d :: r => match d, sts r with
    | .str b, some bs => some (b :: bs)
    | _, _ => none
theorem Reps.sts {K : PySem.W.Frag} {S : Hp} : ∀ {bs : List Str} {xs : List V}, Reps K S (bs.map D.str) xs → xs = bs.map V.str
  | [], xs, r => r.inv_nil
  | b :: bs, xs, r => by
    obtain ⟨v, ys, rfl, h1, h2⟩ := r.inv_cons
    cases h1
    rw [Reps.sts h2]
    rfl
end
end PD
namespace PD
open PySem PySem.Spec PyProof.Rows L2
def SVok (K : PySem.W.Frag) (F : Fm) (S : Hp) (ρ : DSt) (σ : L2.St) (H : Hp) (y : SV) (v : V) : Prop := match y with
  | .val d => Rep K S d v
  | .own ds => ∃ p xs, v = .ref p ∧ Loose F S ρ σ p ∧ H p = some (.lst xs) ∧ Reps K S ds xs
  | .ownK kvs => ∃ p es, v = .ref p ∧ Loose F S ρ σ p ∧ H p = some (.dK es) ∧ RepK K S kvs es
  | .ownO C fs => ∃ p dx gs, v = .ref p ∧ Loose F S ρ σ p ∧ H p = some (.ins C dx gs) ∧ RepF K S fs gs
  | .slf _ _ => False
  | .ownX y => ∃ p o, v = .ref p ∧ Loose F S ρ σ p ∧ H p = some o ∧ y.at_ K S o
section
variable {K : PySem.W.Frag} {F : Fm} {S S' H H' : Hp} {ρ ρ' : DSt} {σ σ' : L2.St}
theorem R.setSV {j : Nat} {y : SV} {v : V} (r : R K F S ρ σ H) (h : SVok K F S ρ σ H y v) : R K F S (ρ.set j (some y)) (σ.set j (some v)) H := by
  cases y with
  | val d => exact r.setV h
  | own ds =>
    obtain ⟨p, xs, rfl, l, hp, q⟩ := h
    exact r.setL l hp q
  | ownK kvs =>
    obtain ⟨p, es, rfl, l, hp, q⟩ := h
    exact r.setK l hp q
  | ownO C fs =>
    obtain ⟨p, dx, gs, rfl, l, hp, q⟩ := h
    exact r.setOwn l hp ⟨rfl, q⟩ trivial
  | slf C fs => exact h.elim
  | ownX y =>
    obtain ⟨p, o, rfl, l, hp, q⟩ := h
    exact r.setOwn (y := .ownX y) l hp q trivial
theorem SVok.go {y : SV} {v : V} (g : Go K F σ S ρ H S' ρ' H') (h : SVok K F S ρ σ H y v) : SVok K F S' ρ' σ H' y v := by
  cases y with
  | val d => exact Rep.mono h g.ex
  | own ds =>
    obtain ⟨p, xs, rfl, l, hp, q⟩ := h
    obtain ⟨l2, hp2⟩ := g.kp p _ l hp
    exact ⟨p, xs, rfl, l2, hp2, q.mono g.ex⟩
  | ownK kvs =>
    obtain ⟨p, es, rfl, l, hp, q⟩ := h
    obtain ⟨l2, hp2⟩ := g.kp p _ l hp
    exact ⟨p, es, rfl, l2, hp2, q.mono g.ex⟩
  | ownO C fs =>
    obtain ⟨p, dx, gs, rfl, l, hp, q⟩ := h
    obtain ⟨l2, hp2⟩ := g.kp p _ l hp
    exact ⟨p, dx, gs, rfl, l2, hp2, q.mono g.ex⟩
  | slf C fs => exact h.elim
  | ownX y =>
    obtain ⟨p, o, rfl, l, hp, q⟩ := h
    obtain ⟨l2, hp2⟩ := g.kp p _ l hp
    exact ⟨p, o, rfl, l2, hp2, y.mono _ _ _ _ g.ex q⟩
end
def RunV (K : PySem.W.Frag) (F : Fm) (W : WX) (t : TE) (w : DSt → (SV → DSt → Prop) → KX → Prop) : Prop := ∀ S ρ σ H (Q : VK) (kq : SV → DSt → Prop) (kx : KX), R K F S ρ σ H → w ρ kq kx →
  (∀ S' ρ' H' y v, Go K F σ S ρ H S' ρ' H' → SVok K F S' ρ' σ H' y v → (∀ p, v = .ref p → (∀ d, y ≠ .val d) → H p = none) → kq y ρ' → Q v H') → XL K F W σ S kx → t σ H Q
abbrev WV := DSt → (SV → DSt → Prop) → KX → Prop
structure DV (X : Cx) (F : Fm) (W : WX) (e : Expr) (w : WV) : Prop where
  ex : ∃ t, PE X e t ∧ RunV X.K F W t w
def tE (K : PySem.W.Frag) (F : Fm) (W : WX) (w : WE) : TE := fun σ H Q => ∃ S ρ kq kx, R K F S ρ σ H ∧ w ρ kq kx ∧ (∀ S' ρ' H' d v, Go K F σ S ρ H S' ρ' H' → Rep K S' d v → kq d ρ' → Q v H') ∧ XL K F W σ S kx
def tT (K : PySem.W.Frag) (F : Fm) (W : WX) (w : WT) : TT := fun σ H Q => ∃ S ρ kq kx, R K F S ρ σ H ∧ w ρ kq kx ∧ (∀ S' ρ' H' b, Go K F σ S ρ H S' ρ' H' → kq b ρ' → Q b H') ∧ XL K F W σ S kx
section
variable {X : Cx} {F : Fm} {W : WX} {e : Expr}
theorem DE.pe {w : WE} (h : DE X F W e w) : PE X e (tE X.K F W w) := by
  obtain ⟨t, p, q⟩ := h.ex
  refine ⟨fun pins s σ H Q I hq => p.run pins s σ H Q I ?_⟩
  obtain ⟨S, ρ, kq, kx, r, hw, hk, hx⟩ := hq
  exact q S ρ σ H Q kq kx r hw hk hx
theorem DT.pt {w : WT} (h : DT X F W e w) : PT X e (tT X.K F W w) := by
  obtain ⟨t, p, q⟩ := h.ex
  refine ⟨fun pins s σ H Q I hq => p.run pins s σ H Q I ?_⟩
  obtain ⟨S, ρ, kq, kx, r, hw, hk, hx⟩ := hq
  exact q S ρ σ H Q kq kx r hw hk hx
theorem run_tE {K : PySem.W.Frag} {w : WE} : RunE K F W (tE K F W w) w := fun S ρ σ H Q kq kx r hw hk hx => ⟨S, ρ, kq, kx, r, hw, hk, hx⟩
theorem run_tT {K : PySem.W.Frag} {w : WT} : RunT K F W (tT K F W w) w := fun S ρ σ H Q kq kx r hw hk hx => ⟨S, ρ, kq, kx, r, hw, hk, hx⟩
def wVE (w : WE) : WV := fun ρ kq kx => w ρ (fun d ρ' => kq (.val d) ρ') kx
def wVL (w : WA) : WV := fun ρ kq kx => w ρ (fun ds ρ' => kq (.own ds) ρ') kx
theorem dv_e {w : WE} (h : DE X F W e w) : DV X F W e (wVE w) := by
  obtain ⟨t, p, q⟩ := h.ex
  exact ⟨t, p, fun S ρ σ H Q kq kx r hw hk hx => q S ρ σ H Q _ kx r hw (fun S' ρ' H' d v g rp k => hk S' ρ' H' (.val d) v g rp (fun _ _ z => absurd rfl (z d)) k) hx⟩
end
structure DEnds where
  nx : DSt → Prop
  rt : SV → Prop
  bk : DSt → Prop := fun _ => False
  ct : DSt → Prop := fun _ => False
  ex : DX → DSt → Prop
abbrev WS := DEnds → DSt → Prop
def SVret (K : PySem.W.Frag) (F : Fm) (S H : Hp) (y : SV) (v : V) : Prop := match y with
  | .val d => Rep K S d v
  | .own ds => ∃ p xs, v = .ref p ∧ F.H0 p = none ∧ S p = none ∧ H p = some (.lst xs) ∧ Reps K S ds xs
  | .ownK kvs => ∃ p es, v = .ref p ∧ F.H0 p = none ∧ S p = none ∧ H p = some (.dK es) ∧ RepK K S kvs es
  | .ownO C fs => ∃ p dx gs, v = .ref p ∧ F.H0 p = none ∧ S p = none ∧ H p = some (.ins C dx gs) ∧ RepF K S fs gs
  | .slf _ _ => False
  | .ownX y => ∃ p o, v = .ref p ∧ F.H0 p = none ∧ S p = none ∧ H p = some o ∧ y.at_ K S o
theorem SVok.ret {K : PySem.W.Frag} {F : Fm} {S H : Hp} {ρ : DSt} {σ : L2.St} {y : SV} {v : V} (h : SVok K F S ρ σ H y v) : SVret K F S H y v := by
  cases y with
  | val d => exact h
  | own ds =>
    obtain ⟨p, xs, e, l, hp, q⟩ := h
    exact ⟨p, xs, e, l.h0, l.s, hp, q⟩
  | ownK ds =>
    obtain ⟨p, xs, e, l, hp, q⟩ := h
    exact ⟨p, xs, e, l.h0, l.s, hp, q⟩
  | ownO C fs =>
    obtain ⟨p, dx, gs, e, l, hp, q⟩ := h
    exact ⟨p, dx, gs, e, l.h0, l.s, hp, q⟩
  | slf C fs => exact h.elim
  | ownX y =>
    obtain ⟨p, o, e, l, hp, q⟩ := h
    exact ⟨p, o, e, l.h0, l.s, hp, q⟩
structure Lk (K : PySem.W.Frag) (F : Fm) (W : WX) (S : Hp) (D : Ends) (E : DEnds) : Prop where
  nx : ∀ S' ρ σ H, Ex S S' → R K F S' ρ σ H → E.nx ρ → D.nx σ H
  rt : ∀ S' H y v, Ex S S' → R0 F S' H → SVret K F S' H y v → E.rt y → D.rt v H
  bk : ∀ S' ρ σ H, Ex S S' → R K F S' ρ σ H → E.bk ρ → D.bk σ H
  ct : ∀ S' ρ σ H, Ex S S' → R K F S' ρ σ H → E.ct ρ → D.ct σ H
  ex : ∀ σ, XL K F W σ S E.ex
theorem Lk.mono {K : PySem.W.Frag} {F : Fm} {W : WX} {S S' : Hp} {D : Ends} {E : DEnds} (l : Lk K F W S D E) (e : Ex S S') : Lk K F W S' D E :=
  ⟨fun _ _ _ _ e2 => l.nx _ _ _ _ (e.trans e2), fun _ _ _ _ e2 => l.rt _ _ _ _ (e.trans e2), fun _ _ _ _ e2 => l.bk _ _ _ _ (e.trans e2), fun _ _ _ _ e2 => l.ct _ _ _ _ (e.trans e2), fun σ => (l.ex σ).mono e⟩
def RunS (K : PySem.W.Frag) (F : Fm) (W : WX) (t : TS) (w : WS) : Prop := ∀ S ρ σ H (D : Ends) (E : DEnds), R K F S ρ σ H → w E ρ → Lk K F W S D E → t D σ H
structure DS (X : Cx) (F : Fm) (W : WX) (st : Stmt) (w : WS) : Prop where
  ex : ∃ t, PS X st t ∧ RunS X.K F W t w
structure DSs (X : Cx) (F : Fm) (W : WX) (st : List Stmt) (w : WS) : Prop where
  ex : ∃ t, PSs X st t ∧ RunS X.K F W t w
def wSeq (t u : WS) : WS := fun E ρ => t { E with nx := fun ρ' => u E ρ' } ρ
def wIfS (c : WT) (t u : WS) : WS := fun E ρ => c ρ (fun b ρ' => if b = true then t E ρ' else u E ρ') E.ex
def wRetV (w : WV) : WS := fun E ρ => w ρ (fun y _ => E.rt y) E.ex
def wAsg (i : Nat) (w : WV) : WS := fun E ρ => w ρ (fun y ρ' => E.nx (ρ'.set i (some y))) E.ex
section
variable {X : Cx} {F : Fm} {W : WX} {e : Expr} {pos : Pos} {st : Stmt} {rest body : List Stmt} {t u : WS}
theorem dss_cons (h1 : DS X F W st t) (h2 : DSs X F W rest u) : DSs X F W (st :: rest) (wSeq t u) := by
  obtain ⟨a, p, q⟩ := h1.ex
  obtain ⟨b, p2, q2⟩ := h2.ex
  refine ⟨_, pss_cons p p2, fun S ρ σ H D E r hw l => ?_⟩
  exact q S ρ σ H { D with nx := b D } { E with nx := fun ρ' => u E ρ' } r hw ⟨fun S' ρ' σ' H' e r' k => q2 S' ρ' σ' H' D E r' k (l.mono e), l.rt, l.bk, l.ct, l.ex⟩
theorem ds_if {c : Expr} {a b : List Stmt} {w : WT} (hc : DT X F W c w) (ha : DSs X F W a t) (hb : DSs X F W b u) : DS X F W (.If c a b pos) (wIfS w t u) := by
  obtain ⟨x, p, q⟩ := hc.ex
  obtain ⟨y, p2, q2⟩ := ha.ex
  obtain ⟨z, p3, q3⟩ := hb.ex
  refine ⟨_, ps_if p p2 p3, fun S ρ σ H D E r hw l => q S ρ σ H _ _ E.ex r hw (fun S1 ρ1 H1 b g k => ?_) (l.ex σ)⟩
  cases b with
  | true => exact iteT (q2 S1 ρ1 σ H1 D E g.r (by simpa using k) (l.mono g.ex))
  | false => exact iteF (q3 S1 ρ1 σ H1 D E g.r (by simpa using k) (l.mono g.ex))
theorem ds_retV {w : WV} (h : DV X F W e w) : DS X F W (.Return (some e) pos) (wRetV w) := by
  obtain ⟨x, p, q⟩ := h.ex
  exact ⟨_, ps_ret p, fun S ρ σ H D E r hw l => q S ρ σ H D.rt _ E.ex r hw (fun S1 ρ1 H1 y v g sv hn k => l.rt S1 H1 y v g.ex g.r.toR0 sv.ret k) (l.ex σ)⟩
theorem ds_set {i : Nat} {x : Str} {pos' : Pos} {w : WV} (hN : X.N.Nodup) (h : DV X F W e w) (hi : X.N[i]? = some x := by rfl) (hx : Loc X.env.scope x := by first | exact Or.inl rfl | exact Or.inr rfl) (hs : swapsWith e (some (.Name x pos')) pos.line X.env = pure false := by rfl)
    (hf : X.fn x = true ∨ X.env.scope.names.lookup x = some .local := by first | exact .inl rfl | exact .inr rfl | assumption) : DS X F W (.Assign [.Name x pos'] e pos) (wAsg i w) := by
  obtain ⟨t, p, q⟩ := h.ex
  refine ⟨_, ps_set hN hi hx p hs hf, fun S ρ σ H D E r hw l => q S ρ σ H _ _ E.ex r hw (fun S1 ρ1 H1 y v g sv hn k => ?_) (l.ex σ)⟩
  exact l.nx S1 _ _ H1 g.ex (g.r.setSV sv) k
def wPar (i j : Nat) (w u : WV) : WS := fun E ρ => w ρ (fun y ρ1 => u ρ1 (fun z ρ2 => E.nx ((ρ2.set i (some y)).set j (some z))) E.ex) E.ex
theorem SVok.set {K : PySem.W.Frag} {F : Fm} {S H : Hp} {ρ : DSt} {σ : L2.St} {i : Nat} {y z : SV} {v u : V} (h : SVok K F S ρ σ H z u) (hne : ∀ p, u = .ref p → (∀ d, z ≠ .val d) → v = .ref p → (∀ d, y ≠ .val d) → False) : SVok K F S (ρ.set i (some y)) (σ.set i (some v)) H z u := by
  have key : ∀ p, Loose F S ρ σ p → (v = .ref p → (∀ d, y ≠ .val d) → False) → Loose F S (ρ.set i (some y)) (σ.set i (some v)) p := fun p l hv => ⟨l.h0, l.s, fun k hk => by
    by_cases e : k = i
    · subst e
      obtain ⟨h1, h2⟩ := hk
      rw [List.getElem?_set] at h2
      split at h2
      · split at h2
        · rename_i hlt
          cases h2
          refine hv rfl fun d z => ?_
          subst z
          obtain ⟨y', h1, h3⟩ := h1
          rw [List.getElem?_set] at h1
          split at h1
          · split at h1
            · cases h1
              exact h3
            · cases h1
          · rename_i c
            exact c rfl
        · cases h2
      · rename_i c
        exact c rfl
    · exact l.ap k (hk.set_ne e)⟩
  cases z with
  | val d => exact h
  | own ds =>
    obtain ⟨p, xs, rfl, l, hp, q⟩ := h
    exact ⟨p, xs, rfl, key p l (hne p rfl (fun _ z => nomatch z)), hp, q⟩
  | ownK ds =>
    obtain ⟨p, xs, rfl, l, hp, q⟩ := h
    exact ⟨p, xs, rfl, key p l (hne p rfl (fun _ z => nomatch z)), hp, q⟩
  | ownO C fs =>
    obtain ⟨p, dx, gs, rfl, l, hp, q⟩ := h
    exact ⟨p, dx, gs, rfl, key p l (hne p rfl (fun _ z => nomatch z)), hp, q⟩
  | slf C fs => exact h.elim
  | ownX y =>
    obtain ⟨p, o, rfl, l, hp, q⟩ := h
    exact ⟨p, o, rfl, key p l (hne p rfl (fun _ z => nomatch z)), hp, q⟩
theorem SVok.at_ {K : PySem.W.Frag} {F : Fm} {S H : Hp} {ρ : DSt} {σ : L2.St} {y : SV} {v : V} {p : Addr} (h : SVok K F S ρ σ H y v) (hv : v = .ref p) (hy : ∀ d, y ≠ .val d) : H p ≠ none := by
  cases y with
  | val d => exact absurd rfl (hy d)
  | own ds =>
    obtain ⟨q, xs, rfl, l, hp, _⟩ := h
    cases hv
    rw [hp]
    exact fun z => nomatch z
  | ownK ds =>
    obtain ⟨q, xs, rfl, l, hp, _⟩ := h
    cases hv
    rw [hp]
    exact fun z => nomatch z
  | ownO C fs =>
    obtain ⟨q, dx, gs, rfl, l, hp, _⟩ := h
    cases hv
    rw [hp]
    exact fun z => nomatch z
  | slf C fs => exact h.elim
  | ownX y =>
    obtain ⟨q, o, rfl, l, hp, _⟩ := h
    cases hv
    rw [hp]
    exact fun z => nomatch z
theorem ds_par {i j : Nat} {x y : Str} {a b : Expr} {wa wb : WV} {px py pt : Pos} {kt k2 pt2} (hc : X.calm = true) (hN : X.N.Nodup) (ha : DV X F W a wa) (hb : DV X F W b wb) (hi : X.N[i]? = some x := by rfl) (hj : X.N[j]? = some y := by rfl) (hij : i ≠ j := by decide)
    (hx : X.env.scope.names.lookup x = some .local := by rfl) (hy : X.env.scope.names.lookup y = some .local := by rfl)
    (hw : swappedStores [.Tuple [.Name x px, .Name y py] kt pt] (.Tuple [a, b] k2 pt2) X.env = pure (some [x, y]) := by rfl)
    (hs : swapsWithSole [.Tuple [.Name x px, .Name y py] kt pt] (.Tuple [a, b] k2 pt2) pos.line X.env = pure false := by rfl)
    (hs1 : starEach [a, b] X.env = (false, eval a X.env) :: starEach [b] X.env := by rfl) (hs2 : starEach [b] X.env = (false, eval b X.env) :: starEach [] X.env := by rfl) :
    DS X F W (.Assign [.Tuple [.Name x px, .Name y py] kt pt] (.Tuple [a, b] k2 pt2) pos) (wPar i j wa wb) := by
  obtain ⟨t1, p1, q1⟩ := ha.ex
  obtain ⟨t2, p2, q2⟩ := hb.ex
  refine ⟨_, ps_par hc hN hi hj hij hx hy (pa_cons p1 (pa_cons p2 pa_nil hs2) hs1) hw hs, fun S ρ σ H D E r hw l => ?_⟩
  refine q1 S ρ σ H _ _ E.ex r hw (fun S1 ρ1 H1 y1 v1 g1 s1 n1 k1 => ?_) (l.ex σ)
  refine q2 S1 ρ1 σ H1 _ _ E.ex g1.r k1 (fun S2 ρ2 H2 y2 v2 g2 s2 n2 k2 => ?_) ((l.ex σ).mono g1.ex)
  refine ⟨v1, v2, rfl, l.nx S2 _ _ H2 (g1.ex.trans g2.ex) ((g2.r.setSV (s1.go g2)).setSV (s2.set ?_)) k2⟩
  intro p h1 h2 h3 h4
  exact (s1.at_ h3 h4) (n2 p h1 h2)
end
abbrev WG := D → DSt → (DSt → Prop) → Prop
abbrev WGs := List D → DSt → (DSt → Prop) → Prop
structure Tgt (ρ : DSt) (σ : L2.St) (ρ' : DSt) (σ' : L2.St) (ts : List Nat) : Prop where
  ne : ∀ j : Nat, j ∉ ts → σ'[j]? = σ[j]? ∧ ρ'[j]? = ρ[j]?
  own : ∀ (j : Nat) y, ρ'[j]? = some (some y) → (∃ d, y = .val d) ∨ (ρ[j]? = some (some y) ∧ σ'[j]? = σ[j]?)
  ls : σ'.length = σ.length
  lr : ρ'.length = ρ.length
theorem Tgt.refl {ρ : DSt} {σ : L2.St} : Tgt ρ σ ρ σ [] := ⟨fun _ _ => ⟨rfl, rfl⟩, fun _ _ h => .inr ⟨h, rfl⟩, rfl, rfl⟩
theorem Tgt.trans {ρ ρ1 ρ2 : DSt} {σ σ1 σ2 : L2.St} {ts us : List Nat} (a : Tgt ρ σ ρ1 σ1 ts) (b : Tgt ρ1 σ1 ρ2 σ2 us) : Tgt ρ σ ρ2 σ2 (ts ++ us) :=
  ⟨fun j hj => by
    have x := a.ne j fun z => hj (List.mem_append_left _ z)
    have y := b.ne j fun z => hj (List.mem_append_right _ z)
    exact ⟨y.1.trans x.1, y.2.trans x.2⟩, fun j y h => by
    rcases b.own j y h with e | ⟨e1, e2⟩
    · exact .inl e
    · rcases a.own j y e1 with e | ⟨e3, e4⟩
      · exact .inl e
      · exact .inr ⟨e3, e2.trans e4⟩, b.ls.trans a.ls, b.lr.trans a.lr⟩
theorem Tgt.name {ρ : DSt} {σ : L2.St} {i : Nat} {d : D} {v : V} : Tgt ρ σ (ρ.set i (some (.val d))) (σ.set i (some v)) [i] :=
  ⟨fun j hj => by
    have n : i ≠ j := fun e => hj (e ▸ List.mem_singleton_self i)
    exact ⟨List.getElem?_set_ne n, List.getElem?_set_ne n⟩, fun j y h => by
    by_cases e : i = j
    · subst e
      rw [List.getElem?_set] at h
      split at h
      · split at h
        · cases h
          exact .inl ⟨_, rfl⟩
        · cases h
      · rename_i c
        exact absurd rfl c
    · rw [List.getElem?_set_ne e] at h
      exact .inr ⟨h, List.getElem?_set_ne e⟩, List.length_set .., List.length_set ..⟩
def RunG (K : PySem.W.Frag) (F : Fm) (g : TG) (w : WG) (ts : List Nat) : Prop := ∀ S ρ σ H d v (Q : L2.St → Hp → Prop) (k : DSt → Prop), R K F S ρ σ H → Rep K S d v → w d ρ k →
  (∀ ρ' σ', R K F S ρ' σ' H → Tgt ρ σ ρ' σ' ts → k ρ' → Q σ' H) → g v σ H Q
def RunGs (K : PySem.W.Frag) (F : Fm) (g : TGs) (w : WGs) (ts : List Nat) : Prop := ∀ S ρ σ H ds vs (Q : L2.St → Hp → Prop) (k : DSt → Prop), R K F S ρ σ H → Reps K S ds vs → w ds ρ k →
  (∀ ρ' σ', R K F S ρ' σ' H → Tgt ρ σ ρ' σ' ts → k ρ' → Q σ' H) → g vs σ H Q
def wName (i : Nat) : WG := fun d ρ k => k (ρ.set i (some (.val d)))
def wGNil : WGs := fun ds ρ k => match ds with
  | [] => k ρ
  | _ => False
def wGCons (w : WG) (u : WGs) : WGs := fun ds ρ k => match ds with
  | d :: r => w d ρ fun ρ' => u r ρ' k
  | [] => False
def wGTup (n : Nat) (u : WGs) : WG := fun d ρ k => match d with
  | .tup ds => ds.length = n ∧ u ds ρ k
  | _ => False
structure DG (X : Cx) (F : Fm) (e : Expr) (w : WG) (ts : List Nat) (g : TG) : Prop where
  pg : PG X e g
  run : RunG X.K F g w ts
structure DGs (X : Cx) (F : Fm) (es : List Expr) (w : WGs) (ts : List Nat) (g : TGs) : Prop where
  pg : PGs X es g
  run : RunGs X.K F g w ts
section
variable {X : Cx} {F : Fm} {W : WX} {e : Expr} {pos : Pos}
theorem run_name {K : PySem.W.Frag} (i : Nat) : RunG K F (gName i) (wName i) [i] := fun S ρ σ H d v Q k r rp hw hk =>
  hk _ _ (r.setV rp) Tgt.name hw
theorem dg (i : Nat) {x : Str} (hN : X.N.Nodup) (hi : X.N[i]? = some x := by rfl) (hx : Loc X.env.scope x := by first | exact Or.inl rfl | exact Or.inr rfl) (hf : X.fn x = true ∨ X.env.scope.names.lookup x = some .local := by first | exact .inl rfl | exact .inr rfl | assumption) : DG X F (.Name x pos) (wName i) [i] (gName i) :=
  ⟨pg_name hN hi hx hf, run_name i⟩
theorem dgs_nil : DGs X F [] wGNil [] gNil := ⟨pgs_nil, fun S ρ σ H ds vs Q k r rp hw hk => by
  unfold wGNil at hw
  split at hw
  · exact ⟨rp.inv_nil, hk ρ σ r Tgt.refl hw⟩
  · exact hw.elim⟩
theorem dgs_cons {es : List Expr} {w : WG} {u : WGs} {ts us : List Nat} {g : TG} {gs : TGs} (h : DG X F e w ts g) (hs : DGs X F es u us gs) (hh : (assignEach (e :: es) X.env).map (·.2) = assign e X.env :: (assignEach es X.env).map (·.2) := by rfl) : DGs X F (e :: es) (wGCons w u) (ts ++ us) (gCons g gs) := by
  refine ⟨pgs_cons h.pg hs.pg hh, fun S ρ σ H ds vs Q k r rp hw hk => ?_⟩
  unfold wGCons at hw
  split at hw
  · obtain ⟨v, ys, rfl, r1, r2⟩ := rp.inv_cons
    exact ⟨v, ys, rfl, h.run S ρ σ H _ v _ _ r r1 hw fun ρ1 σ1 R1 t1 hu => hs.run S ρ1 σ1 H _ ys _ _ R1 r2 hu fun ρ2 σ2 R2 t2 kk => hk ρ2 σ2 R2 (t1.trans t2) kk⟩
  · exact hw.elim
theorem dg_tup (K : PySem.W.Frag) (n : Nat) {es : List Expr} {kk : Nat} {u : WGs} {us : List Nat} {gs : TGs} (hc : X.calm = true) (h : DGs X F es u us gs) (hK : X.K = K := by rfl) (hn : (assignEach es X.env).length = n := by rfl) (hst : (assignEach es X.env).findIdx? (·.1) = none := by rfl) : DG X F (.Tuple es kk pos) (wGTup n u) us (gTup K n gs) := by
  subst hK
  refine ⟨pg_tup hc h.pg hn hst, fun S ρ σ H d v Q k r rp hw hk => ?_⟩
  unfold wGTup at hw
  split at hw
  · obtain ⟨a, vs, rfl, ha, ra⟩ := (Pk.t (.inl rp) r.fz)
    exact ⟨a, vs, rfl, ha, by rw [ra.1]; exact hw.1, h.run S ρ σ H _ vs Q k r ra hw.2 hk⟩
  · exact hw.elim
end
def SrcOk (K : PySem.W.Frag) (S : Hp) (J : It) (items : List D) : Prop := ∃ (n : Nat) (G : Hp → Prop) (Y : Nat → Hp → V → Hp → Prop), Walk J n G Y ∧ n = items.length ∧ (∀ H, Ex S H → G H) ∧
  ∀ S2 H2 (i : Nat) d x H3, Ex S S2 → Ex S2 H2 → items[i]? = some d → Y i H2 x H3 → (H3 = H2 ∧ Rep K S2 d x) ∨ ∃ T vs ds, x = .ref T ∧ H2 T = none ∧ H3 = upd H2 T (.tup vs) ∧ d = .tup ds ∧ Reps K S2 ds vs
def RunI (K : PySem.W.Frag) (F : Fm) (W : WX) (wi : TI) (w : WA) : Prop := ∀ S ρ σ H (Q : It → Hp → Prop) (kq : List D → DSt → Prop) (kx : KX), R K F S ρ σ H → w ρ kq kx →
  (∀ S' ρ' H' items J, Go K F σ S ρ H S' ρ' H' → SrcOk K S' J items → kq items ρ' → Q J H') → XL K F W σ S kx → wi σ H Q
structure DI (X : Cx) (F : Fm) (W : WX) (tg e : Expr) (w : WA) : Prop where
  ex : ∃ wi, PI X tg e wi ∧ RunI X.K F W wi w
def tups : D → (List D → Prop) → Prop := fun d k => match d with
  | .tup xs => k xs
  | _ => False
section
variable {X : Cx} {F : Fm} {W : WX} {e tg a b : Expr} {pos p : Pos}
def signs (s : Str) : List D := s.cps.toList.map fun c => .str ⟨#[c]⟩
def rangeD (n : Int) : List D := (List.range n.toNat).map fun i => .int (i : Nat)
def wRange (w : WE) : WA := fun ρ kq kx => w ρ (fun d ρ' => match d with | .int n => (-(2 ^ 62) ≤ n ∧ n < 2 ^ 62) ∧ kq (rangeD n) ρ' | _ => False) kx
theorem di_range {w : WE} (hm : X.mg "range" = none) (h : DE X F W e w) (hg : Gl X "range" := by rfl) (hs : starEach [e] X.env = [(false, eval e X.env)] := by rfl) : DI X F W tg (.Call (.Name "range" p) [e] [] pos) (wRange w) := by
  obtain ⟨t, p, q⟩ := h.ex
  refine ⟨_, pi_range1 hg hm (pa_cons p pa_nil hs) hs, fun S ρ σ H Q kq kx r hw hk hx => q S ρ σ H _ _ kx r hw (fun S1 ρ1 H1 d v g rp k => ?_) hx⟩
  split at k
  · rename_i n
    cases rp
    refine ⟨n, rfl, k.1.1, k.1.2, hk S1 ρ1 H1 _ _ g ⟨n.toNat, _, _, walk_range, by simp [rangeD], fun _ _ => trivial, fun S2 H2 i d x H3 e1 e2 hd y => ?_⟩ k.2⟩
    obtain ⟨rfl, rfl⟩ := y
    unfold rangeD at hd
    rw [List.getElem?_map] at hd
    cases hr : (List.range n.toNat)[i]? with
    | none => rw [hr] at hd; cases hd
    | some j =>
      rw [hr] at hd
      have : j = i := by
        have := (List.getElem?_eq_some_iff.mp hr)
        obtain ⟨h1, h2⟩ := this
        rw [List.getElem_range] at h2
        exact h2.symm
      cases hd
      subst this
      have e0 : (0 : Int) + (j : Int) = (j : Int) := Int.zero_add _
      exact .inl ⟨rfl, by show Rep X.K S2 (.int (j : Nat)) (.int ((0 : Int) + (j : Int))); rw [e0]; exact .int _⟩
  · exact k.elim
def pairs (xs ys : List D) : List D := (xs.zip ys).map fun q => .tup [q.1, q.2]
theorem getElem?_pairs {xs ys : List D} {i : Nat} {d : D} (h : (pairs xs ys)[i]? = some d) : ∃ x y, xs[i]? = some x ∧ ys[i]? = some y ∧ d = .tup [x, y] := by
  unfold pairs at h
  rw [List.getElem?_map] at h
  cases e : (xs.zip ys)[i]? with
  | none => rw [e] at h; cases h
  | some q =>
    rw [e] at h
    cases h
    obtain ⟨h1, h2⟩ := List.getElem?_zip_eq_some.mp e
    exact ⟨q.1, q.2, h1, h2, rfl⟩
end
def forGo (g : WG) (body : WS) (E : DEnds) : List D → DSt → Prop
  | [], ρ => E.nx ρ
  | d :: ds, ρ => g d ρ fun ρ' => body { E with nx := forGo g body E ds, ct := forGo g body E ds, bk := E.nx } ρ'
def wFor (w : WA) (g : WG) (body : WS) : WS := fun E ρ => w ρ (fun items ρ' => forGo g body E items ρ') E.ex
theorem SrcOk.turn {K : PySem.W.Frag} {F : Fm} {σ : L2.St} {S1 S2 H2 H3 : Hp} {ρ : DSt} {d : D} {x : V} (r : R K F S2 ρ σ H2) (y : (H3 = H2 ∧ Rep K S2 d x) ∨ ∃ T vs ds, x = .ref T ∧ H2 T = none ∧ H3 = upd H2 T (.tup vs) ∧ d = .tup ds ∧ Reps K S2 ds vs) :
    ∃ S3, Go K F σ S2 ρ H2 S3 ρ H3 ∧ Rep K S3 d x := by
  rcases y with ⟨rfl, h⟩ | ⟨T, vs, ds, rfl, hT, rfl, rfl, h⟩
  · exact ⟨S2, Go.refl r, h⟩
  · have eS : Ex S2 (upd S2 T (.tup vs)) := Ex.new (r.fz.free hT)
    have g := h.mono eS
    exact ⟨_, Go.laid r hT, .tup (SqT.of upd_same) g.1 g.2⟩
section
variable {X : Cx} {F : Fm} {W : WX} {e tg iter c : Expr} {pos p : Pos} {body : List Stmt}
theorem run_for {K : PySem.W.Frag} {wi : TI} {w : WA} {g : TG} {wg : WG} {ts : List Nat} {tb : TS} {wb : WS} (hi : RunI K F W wi w) (hg : RunG K F g wg ts) (hb : RunS K F W tb wb) : RunS K F W (tFor wi g tb) (wFor w wg wb) := fun S ρ σ H D E r hw l => by
  refine hi S ρ σ H _ _ E.ex r hw (fun S1 ρ1 H1 items J g1 src k => ?_) (l.ex σ)
  obtain ⟨n, G, Y, wk, hn, hG, hY⟩ := src
  refine for_it wk (fun i σ' H' => ∃ S' ρ', Ex S1 S' ∧ R K F S' ρ' σ' H' ∧ forGo wg wb E (items.drop i) ρ') ⟨S1, ρ1, Ex.refl S1, g1.r, by rw [List.drop_zero]; exact k⟩ ?_ ?_ ?_
  · rintro i σ' H' hi ⟨S', ρ', e1, r1, _⟩
    exact hG H' (e1.trans r1.fz)
  · rintro i x σ' H' H2 hi ⟨S', ρ', e1, r1, k1⟩ y
    rw [hn] at hi
    have hd : items[i]? = some items[i] := List.getElem?_eq_getElem hi
    obtain ⟨S3, g3, r3⟩ := SrcOk.turn (S1 := S1) r1 (hY S' H' i _ x H2 e1 r1.fz hd y)
    rw [List.drop_eq_getElem_cons hi] at k1
    refine hg S3 ρ' σ' H2 _ x _ _ g3.r r3 k1 fun ρ4 σ4 r4 _ k4 => ?_
    have e3 : Ex S1 S3 := e1.trans g3.ex
    refine hb S3 ρ4 σ4 H2 _ _ r4 k4 ⟨fun S5 ρ5 σ5 H5 e5 r5 k5 => ⟨S5, ρ5, e3.trans e5, r5, k5⟩, fun S5 H5 d v e5 => l.rt S5 H5 d v ((g1.ex.trans e3).trans e5), fun S5 ρ5 σ5 H5 e5 r5 k5 => l.nx S5 ρ5 σ5 H5 ((g1.ex.trans e3).trans e5) r5 k5,
      fun S5 ρ5 σ5 H5 e5 r5 k5 => ⟨S5, ρ5, e3.trans e5, r5, k5⟩, fun σ5 => (l.ex σ5).mono (g1.ex.trans e3)⟩
  · rintro σ' H' ⟨S', ρ', e1, r1, k1⟩
    rw [hn, List.drop_length] at k1
    exact l.nx S' ρ' σ' H' (g1.ex.trans e1) r1 k1
theorem ds_for {w : WA} {wg : WG} {ts : List Nat} {g : TG} {wb : WS} (hp : PassesOwn (model X.prog X.w) X.A X.env X.xe) (hc : X.calm = true) (hi : DI X F W tg iter w) (hg : DG X F tg wg ts g) (hb : DSs X F W body wb)
    (hsw : ∀ x, foldedSetIterable iter X.env x = pure x := by intro _; rfl) : DS X F W (.For tg iter body [] pos) (wFor w wg wb) := by
  obtain ⟨wi, p1, q1⟩ := hi.ex
  obtain ⟨tb, p2, q2⟩ := hb.ex
  exact ⟨_, ps_for hp hc p1 hg.pg p2 (hs := hsw), run_for q1 hg.run q2⟩
end
end PD
namespace PD
open PySem PySem.Spec PyProof.Rows L2
def wipeD (ρ : DSt) : List Nat → DSt
  | [] => ρ
  | v :: vs => (wipeD ρ vs).set v none
theorem wipeD_length (ρ : DSt) : ∀ vs : List Nat, (wipeD ρ vs).length = ρ.length
  | [] => rfl
  | v :: vs => by unfold wipeD; rw [List.length_set, wipeD_length ρ vs]
theorem wipeD_ne {ρ : DSt} {j : Nat} : ∀ {vs : List Nat}, j ∉ vs → (wipeD ρ vs)[j]? = ρ[j]?
  | [], _ => rfl
  | v :: vs, h => by
    unfold wipeD
    have n : v ≠ j := fun e => h (e ▸ List.mem_cons_self)
    rw [List.getElem?_set_ne n]
    exact wipeD_ne fun z => h (List.mem_cons_of_mem _ z)
theorem wipeD_mem {ρ : DSt} {j : Nat} : ∀ {vs : List Nat}, j ∈ vs → (wipeD ρ vs)[j]? = some none ∨ (wipeD ρ vs)[j]? = none
  | v :: vs, h => by
    unfold wipeD
    by_cases e : v = j
    · subst e
      by_cases hl : v < (wipeD ρ vs).length
      · exact .inl (List.getElem?_set_self hl)
      · exact .inr (List.getElem?_eq_none (by rw [List.length_set]; omega))
    · rw [List.getElem?_set_ne e]
      rcases List.mem_cons.mp h with h | h
      · exact absurd h.symm e
      · exact wipeD_mem h
theorem wipe_ne {σ : L2.St} {j : Nat} : ∀ {vs : List Nat}, j ∉ vs → (wipe σ vs)[j]? = σ[j]?
  | [], _ => rfl
  | v :: vs, h => by
    unfold wipe
    have n : v ≠ j := fun e => h (e ▸ List.mem_cons_self)
    rw [List.getElem?_set_ne n]
    exact wipe_ne fun z => h (List.mem_cons_of_mem _ z)
theorem wipe_mem {σ : L2.St} {j : Nat} : ∀ {vs : List Nat}, j ∈ vs → (wipe σ vs)[j]? = (if j < σ.length then some none else none)
  | v :: vs, h => by
    unfold wipe
    by_cases e : v = j
    · subst e
      by_cases hl : v < σ.length
      · rw [if_pos hl, List.getElem?_set_self (by rw [wipe_length]; exact hl)]
      · rw [if_neg hl, List.getElem?_eq_none (by rw [List.length_set, wipe_length]; omega)]
    · rw [List.getElem?_set_ne e]
      rcases List.mem_cons.mp h with h | h
      · exact absurd h.symm e
      · exact wipe_mem h
theorem wipe_eq {σ σ' : L2.St} {vs : List Nat} (hl : σ'.length = σ.length) (h : ∀ j, j ∉ vs → σ'[j]? = σ[j]?) : wipe σ' vs = wipe σ vs := by
  apply List.ext_getElem?
  intro j
  by_cases hj : j ∈ vs
  · rw [wipe_mem hj, wipe_mem hj, hl]
  · rw [wipe_ne hj, wipe_ne hj, h j hj]
section
variable {K : PySem.W.Frag} {F : Fm} {S H : Hp} {ρ ρ' : DSt} {σ σ' : L2.St}
theorem R.sub (r : R K F S ρ σ H) (hl : ρ'.length = ρ.length) (hs : σ'.length = σ.length) (h : ∀ (j : Nat) y, ρ'[j]? = some (some y) → ρ[j]? = some (some y) ∧ σ'[j]? = σ[j]?) : R K F S ρ' σ' H := by
  refine ⟨r.toR0, by rw [hl, hs]; exact r.len, fun i => ?_, fun i j a h1 h2 => ?_⟩
  · cases e : ρ'[i]? with
    | none => exact trivial
    | some o =>
      cases o with
      | none => exact trivial
      | some y =>
        obtain ⟨q1, q2⟩ := h i y e
        have q := r.slot i
        rw [q1] at q
        rw [q2]
        exact q
  · have up : ∀ i, OwnAt ρ' σ' i a → OwnAt ρ σ i a := fun i q => by
      obtain ⟨⟨y, q1, hy⟩, q2⟩ := q
      obtain ⟨z1, z2⟩ := h i _ q1
      exact ⟨⟨y, z1, hy⟩, by rw [← z2]; exact q2⟩
    exact r.apart i j a (up i h1) (up j h2)
theorem Loose.sub {p : Addr} (l : Loose F S ρ σ p) (h : ∀ (j : Nat) y, ρ'[j]? = some (some y) → ρ[j]? = some (some y) ∧ σ'[j]? = σ[j]?) : Loose F S ρ' σ' p :=
  ⟨l.h0, l.s, fun i q => by
    obtain ⟨⟨y, q1, hy⟩, q2⟩ := q
    obtain ⟨z1, z2⟩ := h i _ q1
    exact l.ap i ⟨⟨y, z1, hy⟩, by rw [← z2]; exact q2⟩⟩
theorem wipeD_known {vs : List Nat} {j : Nat} {y : SV} (h : (wipeD ρ vs)[j]? = some (some y)) : j ∉ vs ∧ ρ[j]? = some (some y) := by
  by_cases hj : j ∈ vs
  · rcases wipeD_mem hj with e | e
    · rw [e] at h
      cases h
    · rw [e] at h
      cases h
  · rw [wipeD_ne hj] at h
    exact ⟨hj, h⟩
end
def lcGo (g : WG) (wt : WT) (we : WE) (ρ : DSt) (kx : KX) : List D → List D → (List D → Prop) → Prop
  | [], acc, k => k acc
  | d :: ds, acc, k => g d ρ fun ρi => wt ρi (fun b ρ1 => ρ1 = ρi ∧ if b = true then we ρi (fun c ρ2 => ρ2 = ρi ∧ acc.length < 10000000 ∧ lcGo g wt we ρ kx ds (acc ++ [c]) k) (fun _ _ => False) else lcGo g wt we ρ kx ds acc k) (fun _ _ => False)
def wLc (w : WA) (g : WG) (wt : WT) (we : WE) (vs : List Nat) : WA := fun ρ kq kx => w ρ (fun items ρ1 => lcGo g wt we (wipeD ρ1 vs) kx items [] fun acc => kq acc (wipeD ρ1 vs)) kx
def wYes : WT := fun ρ kq _ => kq true ρ
abbrev W0 : WX := fun _ _ _ _ => False
theorem xl0 {K : PySem.W.Frag} {F : Fm} {σ : L2.St} {S : Hp} : XL K F W0 σ S (fun _ _ => False) := fun _ _ _ _ _ _ _ _ _ h => h.elim
theorem run_yes {K : PySem.W.Frag} {F : Fm} {W : WX} : RunT K F W tYes wYes := fun S ρ σ H Q kq kx r hw hk hx => hk S ρ H true (Go.refl r) hw
theorem run_lc {K : PySem.W.Frag} {F : Fm} {W : WX} {wi : TI} {w : WA} {g : TG} {wg : WG} {ts vs : List Nat} {tt : TT} {wt : WT} {te : TE} {we : WE} (hi : RunI K F W wi w) (hg : RunG K F g wg ts) (ht : RunT K F W0 tt wt) (he : RunE K F W0 te we) (hts : ∀ j ∈ ts, j ∈ vs) :
    RunL K F W (tLc wi g tt te vs) (wLc w wg wt we vs) := fun S ρ σ H Q kq kx r hw hk hx => by
  refine hi S ρ σ H _ _ kx r hw (fun S1 ρ1 H1 items J g1 src k => ?_) hx
  obtain ⟨n, G, Y, wk, hn, hG, hY⟩ := src
  intro D hD
  -- the state within: the comprehension's slots unknown
  have kn : ∀ (j : Nat) y, (wipeD ρ1 vs)[j]? = some (some y) → ρ1[j]? = some (some y) ∧ σ[j]? = σ[j]? := fun j y h => ⟨(wipeD_known h).2, rfl⟩
  have r1 : R K F S1 (wipeD ρ1 vs) σ H1 := g1.r.sub (wipeD_length _ _) rfl kn
  have l1 : Loose F S1 (wipeD ρ1 vs) σ D := r1.loose hD
  have gw : Go K F σ S ρ H S1 (wipeD ρ1 vs) H1 := ⟨g1.ex, r1, fun p o l h => by
    obtain ⟨l2, h2⟩ := g1.kp p o l h
    exact ⟨l2.sub kn, h2⟩, g1.up⟩
  refine lc_it wk (fun i H' => ∃ S' acc xs, Go K F σ S1 (wipeD ρ1 vs) H1 S' (wipeD ρ1 vs) H' ∧ Loose F S' (wipeD ρ1 vs) σ D ∧ H' D = some (.lst xs) ∧ Reps K S' acc xs ∧ lcGo wg wt we (wipeD ρ1 vs) kx (items.drop i) acc fun acc => kq acc (wipeD ρ1 vs))
    ⟨S1, [], [], Go.temp r1 hD, l1, upd_same, Reps.nil, by rw [List.drop_zero]; exact k⟩ ?_ ?_ ?_
  · rintro i H' hi ⟨S', acc, xs, g2, _⟩
    exact hG H' (g2.ex.trans g2.r.fz)
  · rintro i x H' H2 hi ⟨S', acc, xs, g2, l2, hD2, ra, k2⟩ y
    rw [hn] at hi
    have hd : items[i]? = some items[i] := List.getElem?_eq_getElem hi
    -- the state over the wiped slots
    have wk2 : ∀ (j : Nat) y, (wipeD ρ1 vs)[j]? = some (some y) → (wipeD ρ1 vs)[j]? = some (some y) ∧ (wipe σ vs)[j]? = σ[j]? := fun j y h => ⟨h, wipe_ne (wipeD_known h).1⟩
    have wk3 : ∀ (j : Nat) y, (wipeD ρ1 vs)[j]? = some (some y) → (wipeD ρ1 vs)[j]? = some (some y) ∧ σ[j]? = (wipe σ vs)[j]? := fun j y h => ⟨h, (wipe_ne (wipeD_known h).1).symm⟩
    have r2 : R K F S' (wipeD ρ1 vs) (wipe σ vs) H' := g2.r.sub rfl (wipe_length _ _) wk2
    obtain ⟨S3, g3, r3⟩ := SrcOk.turn (S1 := S1) r2 (hY S' H' i _ x H2 g2.ex g2.r.fz hd y)
    rw [List.drop_eq_getElem_cons hi] at k2
    refine hg S3 (wipeD ρ1 vs) (wipe σ vs) H2 _ x _ _ g3.r r3 k2 fun ρ4 σ4 r4 tg k4 => ?_
    have hne2 : ∀ j, j ∉ vs → σ4[j]? = (wipe σ vs)[j]? ∧ ρ4[j]? = (wipeD ρ1 vs)[j]? := fun j hj => tg.ne j fun z => hj (hts j z)
    refine ⟨?_, ?_⟩
    · rw [wipe_eq (σ' := σ4) (σ := wipe σ vs) tg.ls fun j hj => (hne2 j hj).1]
      exact wipe_eq (wipe_length _ _) fun j hj => wipe_ne hj
    -- back from within
    have bk : ∀ (j : Nat) y, (wipeD ρ1 vs)[j]? = some (some y) → ρ4[j]? = some (some y) ∧ σ[j]? = σ4[j]? := fun j y h => by
      have hj := (wipeD_known h).1
      exact ⟨by rw [(hne2 j hj).2]; exact h, by rw [(hne2 j hj).1, wipe_ne hj]⟩
    have inn : ∀ p, Loose F S3 (wipeD ρ1 vs) (wipe σ vs) p → Loose F S3 ρ4 σ4 p := fun p l => ⟨l.h0, l.s, fun j q => by
      obtain ⟨⟨y, q1, hy⟩, q2⟩ := q
      rcases tg.own j _ q1 with ⟨d, z⟩ | ⟨z1, z2⟩
      · subst z
        exact hy
      · exact l.ap j ⟨⟨y, z1, hy⟩, by rw [← z2]; exact q2⟩⟩
    have mid : ∀ S4 H4, Go K F σ4 S3 ρ4 H2 S4 ρ4 H4 → Go K F σ S1 (wipeD ρ1 vs) H1 S4 (wipeD ρ1 vs) H4 ∧ Loose F S4 (wipeD ρ1 vs) σ D ∧ H4 D = some (.lst xs) := fun S4 H4 g4 => by
      have hl : (wipeD ρ1 vs).length = ρ4.length := tg.lr.symm
      have hs : σ.length = σ4.length := by rw [tg.ls, wipe_length]
      have thr : ∀ p o, Loose F S' (wipeD ρ1 vs) σ p → H' p = some o → Loose F S4 (wipeD ρ1 vs) σ p ∧ H4 p = some o := fun p o l h => by
        obtain ⟨l3, h3⟩ := g3.kp p o (l.sub wk2) h
        obtain ⟨l4, h4⟩ := g4.kp p o (inn p l3) h3
        exact ⟨l4.sub bk, h4⟩
      refine ⟨⟨(g2.ex.trans g3.ex).trans g4.ex, g4.r.sub hl hs bk, fun p o l h => ?_, fun p h => g2.up p (g3.up p (g4.up p h))⟩, thr D _ l2 hD2⟩
      obtain ⟨l3, h3⟩ := g2.kp p o l h
      exact thr p o l3 h3
    have e3 : Ex S' S3 := g3.ex
    refine ht S3 ρ4 σ4 H2 _ _ _ r4 k4 (fun S4 ρ5 H4 b g4 k5 => ?_) xl0
    obtain ⟨rfl, k5⟩ := k5
    cases b with
    | true =>
      refine iteT (he S4 ρ5 σ4 H4 _ _ _ g4.r (by simpa using k5) (fun S5 ρ6 H5 c v g5 rc k6 => ?_) xl0)
      obtain ⟨rfl, k7, k6⟩ := k6
      obtain ⟨g6, l6, hD6⟩ := mid S5 H5 (g4.trans g5)
      have ra5 : Reps K S5 acc xs := ra.mono ((g3.ex.trans g4.ex).trans g5.ex)
      refine ⟨xs, hD6, ?_, S5, acc ++ [c], xs ++ [v], g6.chg l6 hD, l6, upd_same, ra5.append (Reps.one rc), k6⟩
      rw [ra.1]
      exact Nat.lt_of_lt_of_le k7 (by decide)
    | false =>
      obtain ⟨g6, l6, hD6⟩ := mid S4 H4 g4
      exact iteF ⟨S4, acc, xs, g6, l6, hD6, ra.mono (g3.ex.trans g4.ex), by simpa using k5⟩
  · rintro H' ⟨S', acc, xs, g2, l2, hD2, ra, k2⟩
    rw [hn, List.drop_length] at k2
    exact hk S' _ H' acc D xs (gw.trans g2) (g1.up D hD) l2 hD2 ra k2
section
variable {X : Cx} {F : Fm} {W : WX} {elt tg iter : Expr} {ifs : List Expr} {scope : Scope} {pos : Pos}
structure DTs (X : Cx) (F : Fm) (W : WX) (ifs : List Expr) (w : WT) : Prop where
  ex : ∃ t, PTs X ifs t ∧ RunT X.K F W t w
theorem dts_nil : DTs X F W [] wYes := ⟨_, pts_nil, run_yes⟩
theorem DTs.pt {w : WT} (h : DTs X F W ifs w) : PTs X ifs (tT X.K F W w) := by
  obtain ⟨t, p, q⟩ := h.ex
  refine ⟨fun pins s σ H Q I hq => p.run pins s σ H Q I ?_⟩
  obtain ⟨S, ρ, kq, kx, r, hw, hk, hx⟩ := hq
  exact q S ρ σ H Q kq kx r hw hk hx
theorem dl_lc {own : List (Str × Nat)} {w : WA} {wg : WG} {ts : List Nat} {g : TG} {wt : WT} {we : WE} (hc : X.calm = true) (hN : X.N.Nodup) (hi : DI X F W tg iter w) (ok : BlkOk X.N X.env.scope scope own)
    (hg : ∀ (s : Shared) (H : Hp) (C : Addr) (cl : List (Str × Addr)) (fp : List Addr), DG (X.blk s H scope (compEnvC scope cl C X.env) fp) F tg wg ts g) (ht : ∀ (s : Shared) (H : Hp) (C : Addr) (cl : List (Str × Addr)) (fp : List Addr), DTs (X.blk s H scope (compEnvC scope cl C X.env) fp) F W0 ifs wt)
    (he : ∀ (s : Shared) (H : Hp) (C : Addr) (cl : List (Str × Addr)) (fp : List Addr), DE (X.blk s H scope (compEnvC scope cl C X.env) fp) F W0 elt we) (hts : ∀ j ∈ ts, j ∈ own.map (·.2) := by decide) (hs : ∀ x, foldedSetIterable iter X.env x = pure x := by intro _; rfl) :
    DL X F W (.ListComp elt [⟨tg, iter, ifs, 0⟩] scope pos) (wLc w wg wt we (own.map (·.2))) := by
  obtain ⟨wi, p1, q1⟩ := hi.ex
  have g0 : RunG X.K F g wg ts := (hg X.s_0 X.H_0 0 [] []).run
  exact ⟨_, pe_lc (te := tE X.K F W0 we) (tt := tT X.K F W0 wt) hc hN p1 ok (fun s H C cl fp => (hg s H C cl fp).pg) (fun s H C cl fp => (ht s H C cl fp).pt) (fun s H C cl fp => (he s H C cl fp).pe) hs, run_lc q1 g0 run_tT run_tE hts⟩
theorem ds_setLc {i : Nat} {y : Str} {py spos : Pos} {own : List (Str × Nat)} {w : WA} {wg : WG} {ts : List Nat} {g : TG} {wt : WT} {we : WE} (hc : X.calm = true) (hN : X.N.Nodup) (hi : DI X F W tg iter w) (ok : BlkOk X.N X.env.scope scope own)
    (hg : ∀ (s : Shared) (H : Hp) (C : Addr) (cl : List (Str × Addr)) (fp : List Addr), DG (X.blk s H scope (compEnvC scope cl C X.env) fp) F tg wg ts g) (ht : ∀ (s : Shared) (H : Hp) (C : Addr) (cl : List (Str × Addr)) (fp : List Addr), DTs (X.blk s H scope (compEnvC scope cl C X.env) fp) F W0 ifs wt)
    (he : ∀ (s : Shared) (H : Hp) (C : Addr) (cl : List (Str × Addr)) (fp : List Addr), DE (X.blk s H scope (compEnvC scope cl C X.env) fp) F W0 elt we) (hy : X.N[i]? = some y := by rfl) (hyl : X.env.scope.names.lookup y = some .local := by rfl)
    (hsw : swapsWith (.ListComp elt [⟨tg, iter, ifs, 0⟩] scope pos) (some (.Name y py)) spos.line X.env = pure true := by exact sw_true rfl rfl rfl (by decide +kernel)) (hts : ∀ j ∈ ts, j ∈ own.map (·.2) := by decide) (hs : ∀ x, foldedSetIterable iter X.env x = pure x := by intro _; rfl) :
    DS X F W (.Assign [.Name y py] (.ListComp elt [⟨tg, iter, ifs, 0⟩] scope pos) spos) (wAsg i (wVL (wLc w wg wt we (own.map (·.2))))) := by
  obtain ⟨wi, p1, q1⟩ := hi.ex
  have g0 : RunG X.K F g wg ts := (hg X.s_0 X.H_0 0 [] []).run
  refine ⟨_, ps_setLc (te := tE X.K F W0 we) (tt := tT X.K F W0 wt) hc hN hy hyl hsw p1 ok (fun s H C cl fp => (hg s H C cl fp).pg) (fun s H C cl fp => (ht s H C cl fp).pt) (fun s H C cl fp => (he s H C cl fp).pe) hs, fun S ρ σ H D E r hw l => ?_⟩
  refine run_lc q1 g0 run_tT run_tE hts S ρ σ H _ _ E.ex r hw (fun S' ρ' H' ds a xs g hn lo ha rp k => ?_) (l.ex σ)
  exact l.nx S' _ _ H' g.ex (g.r.setL lo ha rp) k
end
end PD
namespace PD
open PySem PySem.Spec PyProof.Rows L2
def CtxIs (c : Value) (o : Obj) : Prop := ∀ vs : Array Value, o.data = .fields vs → vs[2]? = some c
theorem CtxIs.steady {c : Value} : PXN.Steady1 (CtxIs c) := fun o v h => by
  obtain ⟨c1, d1, dt, sl⟩ := o
  cases dt with
  | fields ws =>
    intro vs e
    have e2 : ws.setIfInBounds 1 v = vs := Data.fields.inj e
    rw [← e2, Array.getElem?_setIfInBounds_ne (by decide)]
    exact h ws rfl
  | _ =>
    intro vs e
    first
    | exact Data.noConfusion e
    | cases e
def Zq (cls : Value) (d : Option Addr) (c : Value) : Obj → Prop := fun o => Zc cls d o ∧ CtxIs c o
theorem Zq.steady {cls : Value} {d : Option Addr} {c : Value} : PXN.Steady1 (Zq cls d c) := fun o v h => ⟨⟨PXN.steady_cls o v h.1.1, PXN.steady_dict o v h.1.2⟩, CtxIs.steady o v h.2⟩
inductive Chain (B : Heap) (H : Hp) : Value → Prop where
  | non : Chain B H .none
  | exc {a : Addr} {o : Obj} {vs : Array Value} {c : Value} (h : B.get? a = some o) (n : H a = none) (d : o.data = .fields vs) (x : vs[2]? = some c) (r : Chain B H c) : Chain B H (.ref a)
theorem Chain.mono {B B' : Heap} {H H' : Hp} {c : Value} (r : Chain B H c) (k : ∀ a o, B.get? a = some o → H a = none → B'.get? a = some o ∧ H' a = none) : Chain B' H' c := by
  induction r with
  | non => exact .non
  | exc h n d x _ ih => exact .exc (k _ _ h n).1 (k _ _ h n).2 d x ih
theorem heldZ_imp {h B : Heap} {l : List Env} {a L : Addr} {Z Z' : Obj → Prop} (z : ∀ o, Z o → Z' o) (x : HandSPX.HeldZ B l a Z L h) : HandSPX.HeldZ B l a Z' L h := ⟨x.1, x.2.1, x.2.2.1, L2H.tracedZ_imp z x.2.2.2⟩
theorem sky_imp {h B : Heap} {l : List Env} {a L : Addr} {Z Z' : Obj → Prop} (z : ∀ o, Z o → Z' o) (x : Sky B l a Z L h) : Sky B l a Z' L h := by
  rcases x with ⟨h1, h2, h3, oe, vs, he, hz, hd, h4⟩ | fl | hh
  · exact .inl ⟨h1, h2, h3, oe, vs, he, z _ hz, hd, h4⟩
  · exact .inr (.inl (L2H.flyingZ_imp z fl))
  · exact .inr (.inr (heldZ_imp z hh))
def XEq (X : Cx) (W : WX) (u : Value) (s' : Shared) : Prop :=
  ∃ (a : Addr) (B : Heap) (sI : Shared) (pins : List (Addr × Obj)) (σ : L2.St) (H : Hp) (cls : Value) (d : Option Addr), u = .ref a ∧ Inv X pins σ H sI ∧ (∀ b o, sI.heap.get? b = some o → b ∉ frs X.stack → B.get? b = some o) ∧
    sI.heap.UpToSlots s'.heap ∧ (∃ c, Sky B X.stack a (Zq cls d c) X.env.locals s'.heap ∧ Chain B H c) ∧ H a = none ∧ s'.os = sI.os ∧ AllBare s'.gens ∧ W cls d σ H
def TkQ (X : Cx) (W : WX) : Prop := ∀ u s', XEq X W u s' → X.xe u s'
theorem XEq.xe {X : Cx} {W : WX} {u : Value} {s' : Shared} (x : XEq X W u s') : L2.XE X W u s' := by
  obtain ⟨a, B, sI, pins, σ, H, cls, d, h1, h2, h3, h4, ⟨c, h5, _⟩, h6⟩ := x
  exact ⟨a, B, sI, pins, σ, H, cls, d, h1, h2, h3, h4, sky_imp (fun _ z => z.1) h5, h6⟩
theorem TkQ.of {X : Cx} {W : WX} (t : Takes X W) : TkQ X W := fun u s' x => t u s' x.xe
def CXq (P : Program) (w : World) (outer : List Env) (H : Hp) (s : Shared) (E : XK) (u : Value) (s' : Shared) : Prop :=
  ∃ (a : Addr) (B : Heap) (H' : Hp) (cls : Value) (d : Option Addr), u = .ref a ∧ (∃ c, HandSPX.FlyingZ B outer a (Zq cls d c) s'.heap ∧ Chain B H' c) ∧ HOk P w H' B ∧ UB (frs outer) H H' s.heap B s'.heap ∧ H' a = none ∧ s'.os = s.os ∧ AllBare s'.gens ∧ E cls d H'
section
variable {X : Cx} {pins : List (Addr × Obj)} {σ : L2.St} {H : Hp} {sI s s' : Shared} {W : WX} {E : XK}
theorem XEq.of_call (I : Inv X pins σ H s) (hW : ∀ cls d H', E cls d H' → W cls d σ H') {u : Value} (x : CXq X.prog X.w X.stack H s E u s') : XEq X W u s' := by
  obtain ⟨a, B, H', cls, d, rfl, ⟨c, fl, ch⟩, hok, ub, na, os, ag, hE⟩ := x
  obtain ⟨G, g1, g2⟩ := restrict s'.heap fun b => (B.get? b).isSome || decide (b ∈ frs X.stack)
  have gB : ∀ b o, B.get? b = some o → G.get? b = some o := fun b o e => (g1 b (by simp [e])).trans (fl.1 b o e)
  have gF : ∀ b, b ∈ frs X.stack → G.get? b = s'.heap.get? b := fun b hb => g1 b (by simp [hb])
  have og : ∀ b o, G.get? b = some o → s'.heap.get? b = some o ∧ (B.get? b = some o ∨ b ∈ frs X.stack) := fun b o e => by
    cases q : ((B.get? b).isSome || decide (b ∈ frs X.stack)) with
    | false =>
      rw [g2 b q] at e
      cases e
    | true =>
      have e' := e
      rw [g1 b q] at e'
      refine ⟨e', ?_⟩
      rcases Bool.or_eq_true _ _ ▸ q with z | z
      · obtain ⟨o', ho'⟩ := Option.isSome_iff_exists.mp z
        rw [gB b o' ho'] at e
        cases e
        exact .inl ho'
      · exact .inr (of_decide_eq_true z)
  refine ⟨a, B, { s with heap := G, gens := s'.gens, drawn := s'.drawn, toks := s'.toks }, pins, σ, H', cls, d, rfl, ?_, fun b o e hb => ((og b o e).2).resolve_right hb, Heap.UpToSlots.of_keeps fun b o e => (og b o e).1, ⟨c, .inr (.inl fl), ch⟩, na, os, ag, hW _ _ _ hE⟩
  refine I.call (ch := []) ⟨fun b o e n hb _ => gB b o (ub.keep b o e n hb), fun b o e n hb _ => ?_, fun b o e n _ => ub.free b o e n, fun b o e _ => ?_, ub.tups, ub.frzs, ub.tbls⟩ (hok.kept gB) ag (fun _ z => nomatch z)
  · obtain ⟨sl, q⟩ := ub.slot b o e hb
    exact ⟨sl, (gF b hb).trans q⟩
  · by_cases hb : b ∈ frs X.stack
    · obtain ⟨sl, q⟩ := ub.slot b o e hb
      exact ⟨_, (gF b hb).trans q⟩
    · obtain ⟨o', q⟩ := ub.there b o e hb
      exact ⟨o', gB b o' q⟩
theorem XEq.new {a : Addr} {oe : Obj} {vs : Array Value} {cls c : Value} {d : Option Addr} (I : Inv X pins σ H sI) (k : ∀ b o, sI.heap.get? b = some o → s'.heap.get? b = some o) (hne : sI.heap.get? a = none) (he : s'.heap.get? a = some oe)
    (hz : Zq cls d c oe) (hd : oe.data = .fields vs) (h1 : vs[1]? = some .none) (ch : ∀ B : Heap, (∀ b o, sI.heap.get? b = some o → b ∉ frs X.stack → B.get? b = some o) → Chain B H c) (na : H a = none) (os : s'.os = sI.os) (ag : AllBare s'.gens) (w : W cls d σ H) : XEq X W (.ref a) s' := by
  have hB : ∀ b o, sI.heap.get? b = some o → b ∉ frs X.stack → (PySem.W.hideAll sI.heap (frs X.stack)).get? b = some o := fun b o e hb => PySem.W.hideAll_get _ e hb
  refine ⟨a, PySem.W.hideAll sI.heap (frs X.stack), sI, pins, σ, H, cls, d, rfl, I, hB, Heap.UpToSlots.of_keeps k, ⟨c, .inl ⟨fun b o e => k b o (PySem.W.of_hideAll _ e), ?_, ?_, oe, vs, he, hz, hd, h1⟩, ch _ hB⟩, na, os, ag, w⟩
  · cases q : (PySem.W.hideAll sI.heap (frs X.stack)).get? a with
    | none => rfl
    | some o =>
      have z := PySem.W.of_hideAll _ q
      rw [hne] at z
      cases z
  · exact Heap.FunFrames.of_keeps (fun b o e _ => ⟨o, k b o e, rfl⟩) (funFrames_none I.stack fun b hb => PySem.W.hideAll_none _ hb)
theorem XEq.leave (hs : X.stack = X.env :: X.outer) (hf : X.env.frame = some X.env.locals) (hex : X.ex = []) {E₁ : Value → Shared → Prop} (hW : ∀ cls d σ H, W cls d σ H → E cls d H) {u : Value} (x : XEq X W u s') :
    wpAny (model X.prog X.w) X.A (leaving X.env u) (fun _ s'' => CXq X.prog X.w X.outer X.H_0 X.s_0 E u s'') E₁ s' := by
  obtain ⟨a, B, sI, pins, σ, H, cls, d, rfl, I, nb, up, ⟨c, sky, ch⟩, na, os, ag, w⟩ := x
  have hfr : X.A.frames = some (X.env :: X.outer) := by
    rw [I.ok.frames, hs]
  have nst : ∀ b o, X.s_0.heap.get? b = some o → b ∉ X.fs → b ∉ frs X.stack := fun b o e hb hm => by
    rcases List.mem_cons.mp (I.stkSub b hm) with z | z
    · have h1 := Heap.lt_size e
      rw [z] at h1
      exact absurd (Nat.lt_of_lt_of_le h1 I.ok.above) (Nat.lt_irrefl _)
    · exact hb z
  have nx : ∀ b, b ∉ X.ex := fun b hb => by
    rw [hex] at hb
    cases hb
  have hokB := I.inGround nb
  have fin : ∀ h', HandSPX.FlyingZ B X.outer a (Zq cls d c) h' → s'.heap.UpToSlots h' → CXq X.prog X.w X.outer X.H_0 X.s_0 E (.ref a) { s' with heap := h' } := fun h' fl up' => by
    have ubq : UB (frs X.outer) X.H_0 H X.s_0.heap B h' := by
      refine ⟨fun b o e n hb => nb b o (I.base.keep b o e n hb (nx b)) (nst b o e hb), fun b o e hb => ?_, fun b o e n => I.base.free b o e n (nx b), fun b o e hb => ?_, I.base.tups, I.base.frzs, I.base.tbls⟩
      · obtain ⟨_, o₀, e₀, hnf⟩ := I.ok.funs.mem hb
        rw [e] at e₀
        cases e₀
        obtain ⟨sl, e1⟩ := I.base.slot b o e (I.ok.frf b hb) hb (nx b)
        obtain ⟨sl2, e2⟩ := up b _ e1 hnf
        obtain ⟨sl3, e3⟩ := up' b _ e2 hnf
        exact ⟨sl3, e3⟩
      · obtain ⟨o', e1⟩ := I.base.there b o e (nx b)
        exact ⟨o', nb b o' e1 (nst b o e hb)⟩
    exact ⟨a, B, H, cls, d, rfl, ⟨c, fl, ch⟩, hokB, ubq, na, os.trans I.os, ag, hW _ _ _ _ w⟩
  rw [hs] at sky
  rcases sky with ⟨hB, hn, hl, oe, vs, he, hz, hd, h1⟩ | fl | hd
  · exact PXN.leaving_firstZ Zq.steady hfr hl hf he hB hn hd h1 hz fin
  · exact PXN.leaves_onZ Zq.steady hfr hf fl fin
  · exact HandSPX.leaves_heldZ hf hd fin
theorem tkQ_of (hs : X.stack = X.env :: X.outer) (hf : X.env.frame = some X.env.locals) (hex : X.ex = []) {E₁ : Value → Shared → Prop}
    (hx : X.xe = fun e s' => wpAny (model X.prog X.w) X.A (leaving X.env e) (fun _ s'' => CXq X.prog X.w X.outer X.H_0 X.s_0 E e s'') E₁ s') : TkQ X (fun cls d _ H => E cls d H) := fun u s' x => by
  rw [hx]
  exact XEq.leave (W := fun cls d _ H => E cls d H) (E := E) hs hf hex (fun _ _ _ _ h => h) x
theorem passAtQ (tk : TkQ X W) (σ : L2.St) : PassesAt (CXq X.prog X.w) X σ (fun cls od H => W cls od σ H) := fun _ _ _ e s' I c => tk e s' (XEq.of_call I (fun _ _ _ h => h) c)
end
theorem _root_.L2.Fun.okQ {P : Program} {w : World} {K : PySem.W.Frag} {mg : Str → Option Value} {base : Heap} {x qual : Str} {st : Stmt} {f : Addr} {fd : FuncData} {N ps : List Str} {k : Nat} {sp : Sp} (F : Fun K x qual st f fd) (S : FnScope N ps (defScope st)) (len : ∀ vs H Q E, sp vs H Q E → vs.length = ps.length)
    (hbody : ∀ (cdv : Value) (A : Around) (outer : List Env) (s : Shared) (H : Hp) (vs : List V) (Q : VK) (E : XK), Room k (A.deeper (envOfC qual (defScope st) s.heap.objs.size f cdv)) → sp vs H Q E →
      ∃ t, PSs (cxOf (CXq P w) P w K mg base N qual (defScope st) f cdv A outer s H E) (defBody st) t ∧ t { nx := fun _ H' => Q .non H', rt := Q } (L2.start N vs) H) : FnOk P w K mg base (CXq P w) (k + 1) f fd ps sp := by
  obtain ⟨oc, od, kV, doc, pm, an, cdv, ct, osl, rfl, lk, hcd⟩ := F.ex
  exact fn_of lk hcd S len fun A outer s H vs Q E hr hsp => hbody cdv A outer s H vs Q E hr hsp
end PD
namespace PD
open PySem PySem.Spec PyProof.Rows L2
end PD
namespace PD
open PySem PySem.Spec PyProof.Rows L2
abbrev SpD := Option Addr → List D → (SV → Prop) → (DX → Prop) → Prop
def spD (K : PySem.W.Frag) (sp : SpD) : Sp := fun vs H Q E => ∃ (S : Hp) (β : Option Addr) (ds : List D) (kq : SV → Prop) (kx : DX → Prop), Ex S H ∧ (∀ b, β = some b → BagAt S H b) ∧ Reps K S ds vs ∧ sp β ds kq kx ∧
  (∀ S' H' y v, R0 ⟨H, S, β, none, []⟩ S' H' → SVret K ⟨H, S, β, none, []⟩ S' H' y v → kq y → Q v H') ∧ (∀ S' H' dx cls od, R0 ⟨H, S, β, none, []⟩ S' H' → RepX K S' dx cls od → kx dx → E cls od H')
def startD (N : List Str) (ds : List D) : DSt := ds.map (fun d => some (.val d)) ++ List.replicate (N.length - ds.length) none
theorem BagAt.some {S H : Hp} {b : Addr} (h : BagAt S H b) : H b ≠ none := by
  obtain ⟨_, c, cells, i1, i2, i3, i4, h2, _⟩ := h
  rw [h2]
  exact fun z => nomatch z
theorem R0.start {S H : Hp} {β : Option Addr} (e : Ex S H) (hb : ∀ b, β = some b → BagAt S H b) : R0 ⟨H, S, β, none, []⟩ S H :=
  ⟨e, Ex.refl S, fun _ _ h _ _ => h, fun _ _ h => .inl h, fun b h => ⟨hb b h, (hb b h).some⟩, fun p hp => nomatch hp⟩
theorem startD_get {N : List Str} {ds : List D} {vs : List V} {K : PySem.W.Frag} {S : Hp} (r : Reps K S ds vs) (i : Nat) : (∃ d v, (startD N ds)[i]? = some (some (.val d)) ∧ (L2.start N vs)[i]? = some (some v) ∧ Rep K S d v) ∨ (startD N ds)[i]? = some none ∨ (startD N ds)[i]? = none := by
  unfold startD L2.start
  by_cases h : i < ds.length
  · left
    have hv : i < vs.length := by rw [r.1]; exact h
    refine ⟨ds[i], vs[i], ?_, ?_, r.2 i _ _ (List.getElem?_eq_getElem h) (List.getElem?_eq_getElem hv)⟩
    · rw [List.getElem?_append_left (by simpa using h), List.getElem?_map, List.getElem?_eq_getElem h]
      rfl
    · rw [List.getElem?_append_left (by simpa using hv), List.getElem?_map, List.getElem?_eq_getElem hv]
      rfl
  · right
    rw [List.getElem?_append_right (by simpa using h), List.getElem?_replicate]
    split
    · exact .inl rfl
    · exact .inr rfl
theorem R.start {K : PySem.W.Frag} {S H : Hp} {β : Option Addr} {N : List Str} {ds : List D} {vs : List V} (e : Ex S H) (hb : ∀ b, β = some b → BagAt S H b) (r : Reps K S ds vs) : R K ⟨H, S, β, none, []⟩ S (startD N ds) (L2.start N vs) H := by
  refine ⟨R0.start e hb, ?_, fun i => ?_, fun i j a h1 h2 => ?_⟩
  · unfold startD L2.start
    simp [r.1]
  · rcases startD_get (N := N) r i with ⟨d, v, h1, h2, h3⟩ | h | h
    · rw [h1, h2]
      exact ⟨v, rfl, h3⟩
    · rw [h]
      trivial
    · rw [h]
      trivial
  · obtain ⟨⟨y, h, hy⟩, _⟩ := h1
    rcases startD_get (N := N) r i with ⟨d, v, h1, h2, h3⟩ | q | q
    · rw [h] at h1
      cases h1
      exact hy.elim
    · rw [h] at q
      cases q
    · rw [h] at q
      cases q
section
variable {P : Program} {w : World} {K : PySem.W.Frag} {mg : Str → Option Value} {base : Heap}
def endsOf (kq : SV → Prop) (kx : DX → Prop) : DEnds := { nx := fun _ => kq (.val .non), rt := kq, ex := fun dx _ => kx dx }
abbrev cxD (P : Program) (w : World) (K : PySem.W.Frag) (mg : Str → Option Value) (base : Heap) (N : List Str) (qual : Str) (scope : Scope) (f : Addr) (cdv : Value) (A : Around) (outer : List Env) (s : Shared) (H : Hp) (E : XK) : Cx := cxOf (CXq P w) P w K mg base N qual scope f cdv A outer s H E
abbrev wxD (E : XK) : WX := fun cls od _ H => E cls od H
theorem takesD {N : List Str} {qual : Str} {scope : Scope} {f : Addr} {cdv : Value} {A : Around} {outer : List Env} {s : Shared} {H : Hp} {E : XK} : TkQ (cxD P w K mg base N qual scope f cdv A outer s H E) (wxD E) := tkQ_of rfl rfl rfl rfl
theorem ownD {N : List Str} {qual : Str} {scope : Scope} {f : Addr} {cdv : Value} {A : Around} {outer : List Env} {s : Shared} {H : Hp} {E : XK} : PassesOwn (model P w) (cxD P w K mg base N qual scope f cdv A outer s H E).A (cxD P w K mg base N qual scope f cdv A outer s H E).env (cxD P w K mg base N qual scope f cdv A outer s H E).xe := passes_of (X := cxD P w K mg base N qual scope f cdv A outer s H E) rfl
theorem okD {x qual : Str} {st : Stmt} {f : Addr} {fd : FuncData} {N ps : List Str} {k : Nat} {sp : SpD} (F : Fun K x qual st f fd) (S : FnScope N ps (defScope st)) (len : ∀ β ds kq kx, sp β ds kq kx → ds.length = ps.length)
    (hbody : ∀ (cdv : Value) (A : Around) (outer : List Env) (s : Shared) (H : Hp) (E : XK) (Fm : Fm), Room k (cxD P w K mg base N qual (defScope st) f cdv A outer s H E).A →
      ∃ wb, DSs (cxD P w K mg base N qual (defScope st) f cdv A outer s H E) Fm (wxD E) (defBody st) wb ∧ ∀ ds kq kx, sp Fm.bag ds kq kx → wb (endsOf kq kx) (startD N ds)) : FnOk P w K mg base (CXq P w) (k + 1) f fd ps (spD K sp) := by
  refine F.okQ S (fun vs H Q E h => ?_) (fun cdv A outer s H vs Q E hr h => ?_)
  · obtain ⟨S', β, ds, kq, kx, _, _, r, h, _⟩ := h
    rw [r.1]
    exact len β ds kq kx h
  · obtain ⟨S', β, ds, kq, kx, e, hb, r, h, q1, q2⟩ := h
    obtain ⟨wb, hd, hw⟩ := hbody cdv A outer s H E ⟨H, S', β, none, []⟩ hr
    obtain ⟨t, p, q⟩ := hd.ex
    refine ⟨t, p, q S' (startD N ds) (L2.start N vs) H _ (endsOf kq kx) (R.start e hb r) (hw ds kq kx h) ⟨fun S2 ρ σ H2 e2 r2 k2 => ?_, fun S2 H2 y v e2 r2 sv k2 => ?_, fun S2 ρ σ H2 e2 r2 k2 => k2.elim, fun S2 ρ σ H2 e2 r2 k2 => k2.elim, fun σ dx ρ S2 H2 cls od e2 r2 rx k2 => ?_⟩⟩
    · exact q1 S2 H2 (.val .non) .non r2.toR0 .non k2
    · exact q1 S2 H2 y v r2 sv k2
    · exact q2 S2 H2 dx cls od r2.toR0 rx k2
end
theorem R0.called {K : PySem.W.Frag} {F : Fm} {S S' H H' : Hp} (r : R0 F S H) (q : R0 ⟨H, S, F.bag, none, []⟩ S' H') : R0 F S' H' := by
  refine ⟨q.fz, r.s0.trans q.s0, fun a o h n n2 => q.keep a o (r.keep a o h n n2) n (fun _ z => nomatch z), fun a o h => ?_, fun b hb => ⟨(q.bag b hb).1, (r.bag b hb).2⟩, fun p hp => ⟨?_, (r.tab p hp).2⟩⟩
  · rcases q.new a o h with h1 | h1
    · exact r.new a o h1
    · exact .inr (R.h0_none r h1)
  · obtain ⟨x1, ps, x2, x3⟩ := (r.tab p hp).1
    have nb : F.bag ≠ some p.1 := fun z => by
      obtain ⟨_, _, _, _, _, _, _, y2, _⟩ := (r.bag p.1 z).1
      rw [x2] at y2
      cases y2
    have k := q.keep p.1 _ x2 nb fun _ z => nomatch z
    refine TabAt.mono ⟨x1, ps, x2, x3⟩ q.s0 ?_ (k.trans x2.symm)
    cases z : S' p.1 with
    | none => rfl
    | some u =>
      rcases q.new p.1 u z with h1 | h1
      · have h1 : S p.1 = some u := h1
        rw [x1] at h1
        cases h1
      · have h1 : H p.1 = none := h1
        rw [x2] at h1
        cases h1
theorem Go.call {K : PySem.W.Frag} {F : Fm} {σ : L2.St} {S S' H H' : Hp} {ρ : DSt} (r : R K F S ρ σ H) (q : R0 ⟨H, S, F.bag, none, []⟩ S' H') : Go K F σ S ρ H S' ρ H' := by
  have un : ∀ p o, F.H0 p = none → S p = none → H p = some o → S' p = none ∧ H' p = some o := fun p o h0 hs h => by
    have nb : F.bag ≠ some p := fun hb => (r.toR0.bagNe hb (.inl h0)) rfl
    refine ⟨?_, q.keep p o h nb fun _ z => nomatch z⟩
    cases z : S' p with
    | none => rfl
    | some u =>
      rcases q.new p u z with h1 | h1
      · have h1 : S p = some u := h1
        rw [hs] at h1
        cases h1
      · have h1 : H p = none := h1
        rw [h] at h1
        cases h1
  refine ⟨q.s0, r.grow (R0.called (K := K) r.toR0 q) q.s0 fun i a h => ?_, fun p o l h => ?_, fun p h => ?_⟩
  · obtain ⟨h0, hs, o, ho⟩ := r.ownAt h
    obtain ⟨z1, z2⟩ := un a o h0 hs ho
    exact ⟨z1, by rw [z2, ho]⟩
  · obtain ⟨z1, z2⟩ := un p o l.h0 l.s h
    exact ⟨⟨l.h0, z1, l.ap⟩, z2⟩
  · cases z : H p with
    | none => rfl
    | some o =>
      by_cases hb : F.bag = some p
      · exact absurd h (q.bag p hb).1.some
      · rw [q.keep p o z hb fun _ z => nomatch z] at h
        cases h
theorem SVret.ok {K : PySem.W.Frag} {F : Fm} {σ : L2.St} {S S' H H' : Hp} {ρ : DSt} {y : SV} {v : V} (r : R K F S ρ σ H) (h : SVret K ⟨H, S, F.bag, none, []⟩ S' H' y v) : SVok K F S' ρ σ H' y v ∧ ∀ p, v = .ref p → (∀ d, y ≠ .val d) → H p = none := by
  have lo : ∀ p, H p = none → S' p = none → Loose F S' ρ σ p := fun p h1 h2 => ⟨R.h0_none r.toR0 h1, h2, fun i q => by
    obtain ⟨_, _, o, ho⟩ := r.ownAt q
    rw [h1] at ho
    cases ho⟩
  cases y with
  | val d => exact ⟨h, fun _ _ z => absurd rfl (z d)⟩
  | own ds =>
    obtain ⟨p, xs, rfl, h1, h2, h3, h4⟩ := h
    exact ⟨⟨p, xs, rfl, lo p h1 h2, h3, h4⟩, fun q e _ => by cases e; exact h1⟩
  | ownK ds =>
    obtain ⟨p, xs, rfl, h1, h2, h3, h4⟩ := h
    exact ⟨⟨p, xs, rfl, lo p h1 h2, h3, h4⟩, fun q e _ => by cases e; exact h1⟩
  | ownO C fs =>
    obtain ⟨p, dx, gs, rfl, h1, h2, h3, h4⟩ := h
    exact ⟨⟨p, dx, gs, rfl, lo p h1 h2, h3, h4⟩, fun q e _ => by cases e; exact h1⟩
  | slf C fs => exact h.elim
  | ownX y =>
    obtain ⟨p, u, rfl, h1, h2, h3, h4⟩ := h
    exact ⟨⟨p, u, rfl, lo p h1 h2, h3, h4⟩, fun q e _ => by cases e; exact h1⟩
section
variable {X : Cx} {F : Fm} {W : WX} {k : Nat} {f : Addr} {fd : FuncData} {ps : List Str} {sp : SpD} {dvs : List V} {dds : List D} {us : List Value} {x : Str} {p pos : Pos} {e : Expr} {es : List Expr}
abbrev Snk (X : Cx) (W : WX) : Prop := ∀ σ, PassesAt (CXq X.prog X.w) X σ (fun cls od H => W cls od σ H)
theorem snk_of (tk : TkQ X W) : Snk X W := fun σ => passAtQ tk σ
theorem snk0 : Snk X W0 := fun σ pins H s e s' I h => by
  obtain ⟨_, _, _, _, _, _, _, _, _, _, _, _, z⟩ := h
  exact z.elim
theorem d_v {w : WV} (h : DV X F W e w) : DE X F W e (fun ρ kq kx => w ρ (fun y ρ' => match y with | .val d => kq d ρ' | .own ds => kq (.lst ds) ρ' | .ownK kvs => kq (.dic kvs) ρ' | .ownO C fs => kq (.obj C fs) ρ' | .slf C fs => kq (.obj C fs) ρ' | .ownX y => kq (.ext y.x) ρ') kx) := by
  obtain ⟨t, p, q⟩ := h.ex
  refine ⟨t, p, fun S ρ σ H Q kq kx r hw hk hx => q S ρ σ H Q _ kx r hw (fun S' ρ' H' y v g sv hn k => ?_) hx⟩
  cases y with
  | val d => exact hk S' ρ' H' d v g sv k
  | own ds =>
    obtain ⟨a, xs, rfl, l, ha, rp⟩ := sv
    have eS : Ex S' (upd S' a (.lst xs)) := Ex.new l.s
    exact hk _ ρ' H' (.lst ds) (.ref a) (g.rest l ha (hn a rfl (fun _ z => nomatch z))) (.lst upd_same (rp.mono eS).1 (rp.mono eS).2) k
  | ownK kvs =>
    obtain ⟨a, xs, rfl, l, ha, rp⟩ := sv
    have eS : Ex S' (upd S' a (.dK xs)) := Ex.new l.s
    exact hk _ ρ' H' (.dic kvs) (.ref a) (g.rest l ha (hn a rfl (fun _ z => nomatch z))) (.dic (.inl upd_same) (rp.mono eS).1 (rp.mono eS).2) k
  | ownO C fs =>
    obtain ⟨a, dx, gs, rfl, l, ha, rp⟩ := sv
    have eS : Ex S' (upd S' a (.ins C dx gs)) := Ex.new l.s
    exact hk _ ρ' H' (.obj C fs) (.ref a) (g.rest l ha (hn a rfl (fun _ z => nomatch z))) (.obj upd_same (rp.mono eS).1 (rp.mono eS).2) k
  | slf C fs => exact sv.elim
  | ownX y =>
    obtain ⟨a, o, rfl, l, ha, rp⟩ := sv
    have eS : Ex S' (upd S' a o) := Ex.new l.s
    exact hk _ ρ' H' (.ext y.x) (.ref a) (g.rest l ha (hn a rfl (fun _ z => nomatch z))) (.ext (y.rest _ _ _ _ (y.mono _ _ _ _ eS rp) upd_same)) k
end
end PD
namespace PD
open PySem PySem.Spec PyProof.Rows L2
section
variable {X : Cx} {F : Fm} {W : WX} {e : Expr} {pos : Pos}
end
section
variable {P : Program} {w : World} {K : PySem.W.Frag} {mg : Str → Option Value} {base : Heap}
def spBag (K : PySem.W.Frag) : Sp := fun vs H Q _ => ∃ (a : Addr) (ns : List Int), vs = [.ref a] ∧ SqL K H a (ns.map V.int) ∧ ∀ (c b : Addr) (cells : List Int) (H' : Hp), cells.length ≤ 63 → Same H H' → c ≠ b → H' c = some (.lst (cells.map V.int)) →
  H' b = some (.lst [.ref c, .int 0, .int 0, .int 10043, .int 0]) → Q (.ref b) H'
theorem cutV_ints (ns : List Int) (lo hi : Option Int) : cutV (ns.map V.int) lo hi = (cutL ns lo hi).map V.int := by
  unfold cutV cutL
  rw [List.length_map, List.map_take, List.map_drop]
def spDraw : SpD := fun β ds kq _ => ∃ b m, β = some b ∧ ds = [.ref b, .int m] ∧ 0 < m ∧ m < 1073741824 ∧ ∀ i, 0 ≤ i → i < m → kq (.val (.int i))
def tSx (K : PySem.W.Frag) (W : WX) (w : Fm → WS) : TS := fun D σ H => ∃ F S ρ E, R K F S ρ σ H ∧ w F E ρ ∧ Lk K F W S D E
theorem pss_x {X : Cx} {W : WX} {st : List Stmt} {w : Fm → WS} (h : ∀ F, DSs X F W st (w F)) : PSs X st (tSx X.K W w) := by
  refine ⟨fun pins s σ H D I hq => ?_⟩
  obtain ⟨F, S, ρ, E, r, hw, l⟩ := hq
  obtain ⟨t, p, q⟩ := (h F).ex
  exact p.run pins s σ H D I (q S ρ σ H D E r hw l)
def spLaw (K : PySem.W.Frag) : Sp := fun vs H Q _ => ∃ (a : Addr) (ns : List Int), vs = [.ref a] ∧ SqL K H a (ns.map V.int) ∧ ns.length ≤ 63 ∧ ∀ H', Q (.bl true) H'
theorem ok_bag {x : Str} {st : Stmt} {f : Addr} {fd : FuncData} {p1 p2 p3 p4 p5 p6 p7 p8 p9 p10 p11 p12 : Pos} {j1 j2 j3 j4 j5 : Nat} {sn : Str} (F : Fun K x x st f fd) (S : FnScope [sn] [sn] (defScope st)) (hl : mg "list" = none) (hv : Vis (defScope st) sn) (hgl : (defScope st).names.lookup ("list" : Str) = some .globalImplicit)
    (hd : (sn == ("__debug__" : Str)) = false) (hcd : (sn == ("__classdict__" : Str)) = false)
    (hb : defBody st = [.Return (some (.List [.Call (.Name "list" p1) [.Subscript (.Name sn p2) (.Slice none (some (.Constant (.int 63) j1 p3)) none p4) p5] [] p6, .Constant (.int 0) j2 p7, .Constant (.int 0) j3 p8, .Constant (.int 10043) j4 p9, .Constant (.int 0) j5 p10] p11)) p12]) :
    FnOk P w K mg base (CXq P w) 1 f fd [sn] (spBag K) := by
  refine F.okQ S (fun vs H Q E h => ?_) (fun cdv A outer s H vs Q E hr h => ?_)
  · obtain ⟨a, ns, rfl, _⟩ := h
    rfl
  · obtain ⟨a, ns, rfl, hS, k⟩ := h
    rw [hb]
    refine ⟨_, pss_one (ps_ret (pe_lst (pa_cons (pe_callTy call_list_of hgl hl (by decide +kernel) (pa_cons (pe_slice sl_list (pe_var (i := 0) rfl hv hd hcd) po_none (po_some pe_int)) pa_nil)) (pa_cons pe_int (pa_cons pe_int (pa_cons pe_int (pa_cons pe_int pa_nil))))))), ?_⟩
    refine ⟨.ref a, rfl, 63, rfl, a, _, rfl, hS, fun q hq => ?_⟩
    have s1 : Same H (upd H q (.lst (cutV (ns.map V.int) none (some 63)))) := Ex.new hq
    refine ⟨q, _, rfl, .inl (SqL.of upd_same), fun c hc => ?_⟩
    have s2 := s1.trans (Ex.new (o := .lst (cutV (ns.map V.int) none (some 63))) hc)
    refine ⟨by show 5 ≤ sizeLine; decide, fun b hb => ?_⟩
    refine k c b (cutL ns none (some 63)) _ ?_ (s2.trans (Ex.new hb)) (fun e => ?_) ?_ upd_same
    · unfold cutL
      rw [List.length_take, HT.sIx_none]
      have : HT.sIx ns.length ns.length (some 63) = min 63 ns.length := HT.sIx_nat ns.length ns.length 63
      rw [this]
      omega
    · subst e
      rw [upd_same] at hb
      cases hb
    · rw [upd_ne, upd_same, cutV_ints]
      intro e
      subst e
      rw [upd_same] at hb
      cases hb
end
end PD
namespace PD
open PySem PySem.Spec PyProof.Rows L2
abbrev tI (n : Int) : TE := tC (.int n)
abbrev bAt (K : PySem.W.Frag) (n : Int) : TE := tOp (rIxL K) (tVar 0) (tI n)
abbrev gAt (n : Int) : TG := gSub (tVar 0) (tI n) rSetL
abbrev oA : TE → TE → TE := tOp (rI0 fun i j => .int (i + j))
abbrev oM : TE → TE → TE := tOp (rI CMul fun i j => .int (i * j))
abbrev oR : TE → TE → TE := tOp (rI (fun _ j => 0 < j) fun i j => .int (i % j))
abbrev oF : TE → TE → TE := tOp (rI CDiv fun i j => .int (i / j))
abbrev oP : TE → TE → TE := tOp (rI CPow fun i j => .int (i ^ j.toNat))
abbrev tInt1 (t : TE) : TE := tCB rInt1 (tCons t tNil)
def tDrawA (K : PySem.W.Frag) : TS :=
  tSeq (tAsg (tOp (rIxL K) (bAt K 0) (bAt K 1)) (gName 2)) (tSeq (tAsg (oA (bAt K 1) (tI 1)) (gAt 1)) (tSeq (tIfS (tB (tGe (tVar 2) (oP (tI 10) (tI 18)))) (tSeq (tAsg (tVar 2) (gAt 2)) tNext) tNext)
    (tSeq (tAsg (oR (tInt1 (oA (oA (oM (bAt K 3) (tI 44089)) (oM (oR (tInt1 (tVar 2)) (tI 2147480197)) (tI 613))) (tI 29))) (tI 2147483579)) (gAt 3)) tNext)))
def tDrawB (K : PySem.W.Frag) : TS :=
  tSeq (tAsg (oR (tInt1 (bAt K 2)) (tVar 1)) (gName 3)) (tSeq (tAsg (oF (tInt1 (bAt K 2)) (tVar 1)) (gAt 2)) (tSeq (tRet (tVar 3)) tNext))
def tDrawC (K : PySem.W.Frag) : TS :=
  tSeq (tAsg (bAt K 3) (gName 4)) (tSeq (tAsg (oR (tInt1 (oA (oA (oA (oP (tVar 4) (tI 3)) (oM (tVar 4) (tI 40127))) (oM (bAt K 4) (tI 1299647))) (tI 61043))) (tI 2147483579)) (gAt 3))
    (tSeq (tRet (oR (tInt1 (oA (oF (bAt K 3) (tI 83)) (oM (oR (tInt1 (bAt K 3)) (tI 7907)) (tI 59)))) (tVar 1))) tNext))
def tDraw (K : PySem.W.Frag) : TS :=
  tSeq (tAsg (oA (bAt K 4) (tI 1)) (gAt 4)) (tSeq (tIfS (tAnd (tB (tEqI (bAt K 2) (tI 0))) (tB (tLt (bAt K 1) (tCB (rLen K) (tCons (bAt K 0) tNil))))) (tDrawA K) tNext)
    (tSeq (tIfS (tB (tGt (bAt K 2) (tI 0))) (tDrawB K) tNext) (tDrawC K)))
section
variable {K : PySem.W.Frag}
def bagL (c : Addr) (i1 i2 i3 i4 : Int) : HO := .lst [.ref c, .int i1, .int i2, .int i3, .int i4]
def updB (H : Hp) (b c : Addr) (i1 i2 i3 i4 : Int) : Hp := upd H b (bagL c i1 i2 i3 i4)
theorem updB_upd {H : Hp} {b c : Addr} {i1 i2 i3 i4 : Int} {o : HO} : upd (updB H b c i1 i2 i3 i4) b o = upd H b o := by
  funext a
  unfold updB
  by_cases e : a = b
  · subst e
    rw [upd_same, upd_same]
  · rw [upd_ne e, upd_ne e, upd_ne e]
theorem updB_self {H : Hp} {b c : Addr} {i1 i2 i3 i4 : Int} (h : H b = some (.lst [.ref c, .int i1, .int i2, .int i3, .int i4])) : updB H b c i1 i2 i3 i4 = H := by
  funext a
  unfold updB bagL
  by_cases e : a = b
  · subst e
    rw [upd_same, h]
  · rw [upd_ne e]
variable {H : Hp} {b c : Addr} {i1 i2 i3 i4 : Int} {σ : L2.St} {Q : VK}
theorem bag_sq : SqL K (updB H b c i1 i2 i3 i4) b [.ref c, .int i1, .int i2, .int i3, .int i4] := SqL.of upd_same
theorem bAt_run {n : Int} {v : V} (h0 : σ[0]? = some (some (.ref b))) (hn : atI [V.ref c, .int i1, .int i2, .int i3, .int i4] n = some v) (q : Q v (updB H b c i1 i2 i3 i4)) : bAt K n σ (updB H b c i1 i2 i3 i4) Q :=
  ⟨.ref b, h0, b, _, n, v, rfl, rfl, bag_sq, hn, q⟩
theorem gAt_run {n : Int} {j : Nat} {v : V} {R : L2.St → Hp → Prop} {j1 j2 j3 j4 : Int} (h0 : σ[0]? = some (some (.ref b))) (hn : ixN 5 n = some j) (hs : [V.ref c, .int i1, .int i2, .int i3, .int i4].set j v = [.ref c, .int j1, .int j2, .int j3, .int j4]) (q : R σ (updB H b c j1 j2 j3 j4)) : gAt n v σ (updB H b c i1 i2 i3 i4) R := by
  refine ⟨.ref b, h0, b, _, n, j, rfl, rfl, upd_same, hn, ?_⟩
  rw [hs, updB_upd]
  exact q
theorem small_mul {i j : Int} (h1 : -(2 ^ 64) < j) (h2 : j < 2 ^ 64) : CMul i j := .inr ⟨h1, h2⟩
theorem lt1 : (0 : Int) < 2147483579 := by decide
theorem lt2 : (0 : Int) < 7907 := by decide
theorem lt3 : (0 : Int) < 2147480197 := by decide
theorem drawC_run {D : Ends} {m : Int} {x2 x3 x4 : Option V} (hm : 0 < m) (h3 : 0 ≤ i3) (h3' : i3 < 2147483648)
    (q : ∀ i j3, 0 ≤ i → i < m → 0 ≤ j3 → j3 < 2147483648 → D.rt (.int i) (updB H b c i1 i2 j3 i4)) : tDrawC K D [some (.ref b), some (.int m), x2, x3, x4] (updB H b c i1 i2 i3 i4) := by
  refine bAt_run rfl rfl ?_
  -- seed
  refine ⟨_, rfl, ⟨_, _, rfl, rfl, ⟨by decide, by decide, by show i3.natAbs < 2 ^ 64; omega⟩, ?_⟩⟩
  refine ⟨_, rfl, _, _, rfl, rfl, small_mul (by decide) (by decide), _, _, rfl, rfl, ?_⟩
  refine bAt_run rfl rfl ⟨_, _, rfl, rfl, small_mul (by decide) (by decide), _, _, rfl, rfl, _, _, rfl, rfl, ?_⟩
  refine .inl (.inl ⟨_, rfl, _, _, rfl, rfl, lt1, ?_⟩)
  refine gAt_run (j := 3) (v := _) rfl rfl rfl ?_
  generalize hg : (_ : Int) % 2147483579 = g
  have g0 : 0 ≤ g := by rw [← hg]; exact Int.emod_nonneg _ (by decide)
  have g1 : g < 2147483579 := by rw [← hg]; exact Int.emod_lt_of_pos _ (by decide)
  refine bAt_run rfl rfl ⟨_, _, rfl, rfl, ⟨by decide, by decide⟩, ?_⟩
  refine bAt_run rfl rfl ?_
  refine .inl (.inl ⟨_, rfl, _, _, rfl, rfl, lt2, _, _, rfl, rfl, small_mul (by decide) (by decide), _, _, rfl, rfl, .inl (.inl ⟨_, rfl, _, rfl, _, _, rfl, rfl, hm, ?_⟩)⟩)
  exact q _ _ (Int.emod_nonneg _ (by omega)) (Int.emod_lt_of_pos _ hm) g0 (by omega)
theorem drawB_run {D : Ends} {m : Int} {x2 x3 x4 : Option V} (hm : 0 < m) (hm' : m < 1073741824)
    (q : ∀ i j2, 0 ≤ i → i < m → D.rt (.int i) (updB H b c i1 j2 i3 i4)) : tDrawB K D [some (.ref b), some (.int m), x2, x3, x4] (updB H b c i1 i2 i3 i4) := by
  refine bAt_run rfl rfl ?_
  refine .inl (.inl ⟨_, rfl, _, rfl, _, _, rfl, rfl, hm, ?_⟩)
  refine bAt_run rfl rfl ?_
  refine .inl (.inl ⟨_, rfl, _, rfl, _, _, rfl, rfl, ⟨hm, hm'⟩, ?_⟩)
  refine gAt_run (j := 2) (v := _) rfl rfl rfl ?_
  exact ⟨_, rfl, q _ _ (Int.emod_nonneg _ (by omega)) (Int.emod_lt_of_pos _ hm)⟩
theorem drawA_run {D : Ends} {m : Int} {x3 x4 x5 : Option V} {cells : List Int} (hc : H c = some (.lst (cells.map V.int))) (cb : c ≠ b) (h1 : 0 ≤ i1) (h1' : i1 < cells.length)
    (q : ∀ y2 j2 j3, 0 ≤ j3 → j3 < 2147483648 → D.nx [some (.ref b), some (.int m), y2, x4, x5] (updB H b c (i1 + 1) j2 j3 i4)) : tDrawA K D [some (.ref b), some (.int m), x3, x4, x5] (updB H b c i1 i2 i3 i4) := by
  obtain ⟨n, rfl⟩ := Int.eq_ofNat_of_zero_le h1
  have hn : n < cells.length := by omega
  have hcell : atI (cells.map V.int) (n : Int) = some (.int cells[n]) := atI_nat (by rw [List.getElem?_map, List.getElem?_eq_getElem hn]; rfl)
  have hq : ∀ i1' i2' i3' i4', SqL K (updB H b c i1' i2' i3' i4') c (cells.map V.int) := fun _ _ _ _ => SqL.of (by unfold updB; rw [upd_ne cb]; exact hc)
  refine bAt_run rfl rfl (bAt_run rfl rfl ⟨_, _, _, _, rfl, rfl, hq _ _ _ _, hcell, ?_⟩)
  refine bAt_run rfl rfl ⟨_, _, rfl, rfl, ?_⟩
  refine gAt_run (j := 1) (v := _) rfl rfl rfl ?_
  have fin : ∀ j2, (tSeq (tAsg (oR (tInt1 (oA (oA (oM (bAt K 3) (tI 44089)) (oM (oR (tInt1 (tVar 2)) (tI 2147480197)) (tI 613))) (tI 29))) (tI 2147483579)) (gAt 3)) tNext) D [some (.ref b), some (.int m), some (.int cells[n]), x4, x5] (updB H b c (n + 1) j2 i3 i4) := fun j2 => by
    refine bAt_run rfl rfl ⟨_, _, rfl, rfl, small_mul (by decide) (by decide), ?_⟩
    refine ⟨_, rfl, .inl (.inl ⟨_, rfl, _, _, rfl, rfl, lt3, _, _, rfl, rfl, small_mul (by decide) (by decide), _, _, rfl, rfl, _, _, rfl, rfl, .inl (.inl ⟨_, rfl, _, _, rfl, rfl, lt1, ?_⟩)⟩)⟩
    refine gAt_run (j := 3) (v := _) rfl rfl rfl ?_
    exact q _ _ _ (Int.emod_nonneg _ (by decide)) (Int.lt_trans (Int.emod_lt_of_pos _ (by decide)) (by decide))
  refine ⟨_, rfl, _, _, rfl, rfl, ⟨by decide, by decide, by decide⟩, _, _, rfl, rfl, _, rfl, ?_⟩
  refine ite2 (fun _ => ?_) (fun _ => ?_)
  · refine ⟨_, rfl, ?_⟩
    refine gAt_run (j := 2) (v := _) rfl rfl rfl ?_
    exact fin _
  · exact fin _
theorem draw_run {D : Ends} {m : Int} {x2 x3 x4 : Option V} {cells : List Int} (hc : H c = some (.lst (cells.map V.int))) (cb : c ≠ b) (hb : H b = some (bagL c i1 i2 i3 i4)) (h1 : 0 ≤ i1) (h1' : i1 ≤ cells.length) (h3 : 0 ≤ i3) (h3' : i3 < 2147483648) (hm : 0 < m) (hm' : m < 1073741824)
    (q : ∀ (i j1 j2 j3 j4 : Int), 0 ≤ i → i < m → 0 ≤ j1 → j1 ≤ cells.length → 0 ≤ j3 → j3 < 2147483648 → D.rt (.int i) (updB H b c j1 j2 j3 j4)) : tDraw K D [some (.ref b), some (.int m), x2, x3, x4] H := by
  rw [← updB_self hb]
  refine bAt_run rfl rfl ⟨_, _, rfl, rfl, ?_⟩
  refine gAt_run (j := 4) (v := _) rfl rfl rfl ?_
  have fin : ∀ (y2 : Option V) (j1 j2 j3 : Int), 0 ≤ j1 → j1 ≤ cells.length → 0 ≤ j3 → j3 < 2147483648 → (tSeq (tIfS (tB (tGt (bAt K 2) (tI 0))) (tDrawB K) tNext) (tDrawC K)) D [some (.ref b), some (.int m), y2, x3, x4] (updB H b c j1 j2 j3 (i4 + 1)) := fun y2 j1 j2 j3 a1 a2 a3 a4 => by
    refine bAt_run rfl rfl ⟨_, _, rfl, rfl, _, rfl, ?_⟩
    refine ite2 (fun _ => ?_) (fun _ => ?_)
    · exact drawB_run hm hm' fun i k2 z1 z2 => q i _ _ _ _ z1 z2 a1 a2 a3 a4
    · exact drawC_run hm a3 a4 fun i k3 z1 z2 z3 z4 => q i _ _ _ _ z1 z2 a1 a2 z3 z4
  refine bAt_run rfl rfl ⟨_, _, rfl, rfl, _, rfl, ?_⟩
  refine ite2 (fun _ => ?_) (fun _ => ?_)
  · refine bAt_run rfl rfl (bAt_run rfl rfl ⟨_, cells.length, rfl, .inl ⟨_, SqL.of (by unfold updB; rw [upd_ne cb]; exact hc), by rw [List.length_map]⟩, ⟨_, _, rfl, rfl, _, rfl, ?_⟩⟩)
    refine ite2 (fun h => ?_) (fun h => ?_)
    · have h : i1 < cells.length := of_decide_eq_true h
      exact drawA_run hc cb h1 h fun y2 j2 j3 z1 z2 => fin _ _ _ _ (by omega) (by omega) z1 z2
    · exact fin _ _ _ _ h1 h1' h3 h3'
  · exact fin _ _ _ _ h1 h1' h3 h3'
variable {P : Program} {w : World} {mg : Str → Option Value} {base : Heap}
theorem ok_draw {x : Str} {st : Stmt} {f : Addr} {fd : FuncData} {N ps : List Str} (F : Fun K x x st f fd) (S : FnScope N ps (defScope st)) (hN : N.length = 5) (hp : ps.length = 2)
    (hbody : ∀ (cdv : Value) (A : Around) (outer : List Env) (s : Shared) (H : Hp) (E : XK), PSs (cxD P w K mg base N x (defScope st) f cdv A outer s H E) (defBody st) (tDraw K)) : FnOk P w K mg base (CXq P w) 1 f fd ps (spD K spDraw) := by
  refine F.okQ S (fun vs H Q E h => ?_) (fun cdv A outer s H vs Q E hr h => ?_)
  · obtain ⟨S', β, ds, kq, kx, _, _, r, ⟨b, m, _, rfl, _⟩, _⟩ := h
    rw [r.1, hp]
    rfl
  · obtain ⟨S', β, ds, kq, kx, e, hb, r, ⟨b, m, rfl, rfl, hm, hm', k⟩, q1, q2⟩ := h
    refine ⟨_, hbody cdv A outer s H E, ?_⟩
    obtain ⟨z, c, cells, i1, i2, i3, i4, h1, h2, h3, h4, h5, h6, h7⟩ := hb b rfl
    match vs, r with
    | [v1, v2], r =>
    have r1 := r.2 0 _ _ rfl rfl
    have r2 := r.2 1 _ _ rfl rfl
    cases r1
    cases r2
    have hst : L2.start N [V.ref b, V.int m] = [some (.ref b), some (.int m), none, none, none] := by
      unfold L2.start
      rw [hN]
      rfl
    rw [hst]
    have cb : c ≠ b := fun e => by
      subst e
      rw [h2] at z
      cases z
    refine draw_run (e _ _ h2) cb h1 h4 h5 h6 h7 hm hm' fun i j1 j2 j3 j4 a1 a2 a3 a4 a5 a6 => ?_
    refine q1 S' _ (.val (.int i)) (.int i) ?_ (.int _) (k i a1 a2)
    refine ⟨fun a o h => ?_, Ex.refl _, fun a o h n _ => ?_, fun a o h => .inl h, fun b' hb' => ?_, fun _ z => nomatch z⟩
    · unfold updB
      rw [upd_ne]
      · exact e a o h
      · intro e'
        subst e'
        rw [z] at h
        cases h
    · unfold updB
      rw [upd_ne]
      · exact h
      · intro e'
        subst e'
        exact n rfl
    · cases hb'
      refine ⟨⟨z, c, cells, j1, j2, j3, j4, upd_same, h2, h3, a3, a4, a5, a6⟩, ?_⟩
      show H b ≠ none
      rw [h1]
      exact fun z => nomatch z
end
end PD
namespace PD
open PySem PySem.Spec PyProof.Rows L2
def endsL : DEnds := { nx := fun _ => False, rt := fun y => y = .val (.bl true), ex := fun _ _ => False }
theorem snkF {X : Cx} : ∀ σ, PassesAt (CXq X.prog X.w) X σ (fun _ _ _ => False) := fun σ pins H s e s' I h => by
  obtain ⟨_, _, _, _, _, _, _, _, _, _, _, _, z⟩ := h
  exact z.elim
section
variable {P : Program} {w : World} {K : PySem.W.Frag} {mg : Str → Option Value} {base : Heap}
def startL (N : List Str) (b : Addr) : DSt := (List.replicate N.length none).set 1 (some (.val (.ref b)))
theorem R.law {N : List Str} {H : Hp} {a b c : Addr} {cells : List Int} (hl : cells.length ≤ 63) (cb : c ≠ b) (hc : H c = some (.lst (cells.map V.int))) (hb : H b = some (.lst [.ref c, .int 0, .int 0, .int 10043, .int 0])) (hN : 2 ≤ N.length) :
    R K ⟨H, upd (fun _ => none) c (.lst (cells.map V.int)), some b, none, []⟩ (upd (fun _ => none) c (.lst (cells.map V.int))) (startL N b) ((L2.start N [.ref a]).set 1 (some (.ref b))) H := by
  have hs : ∀ a o, upd (fun _ => none) c (.lst (cells.map V.int)) a = some o → H a = some o := fun a o h => by
    by_cases e : a = c
    · subst e
      rw [upd_same] at h
      rw [hc, h]
    · rw [upd_ne e] at h
      cases h
  refine ⟨⟨hs, Ex.refl _, fun a o h _ _ => h, fun a o h => .inl h, fun b' hb' => ?_, fun _ z => nomatch z⟩, ?_, fun i => ?_, fun i j a' h1 h2 => ?_⟩
  · cases hb'
    refine ⟨⟨by rw [upd_ne (fun e => cb e.symm)], c, cells, 0, 0, 10043, 0, hb, upd_same, hl, by decide, by omega, by decide, by decide⟩, ?_⟩
    show H b ≠ none
    rw [hb]
    exact fun z => nomatch z
  · unfold startL L2.start
    simp
    omega
  · unfold startL
    by_cases e : i = 1
    · subst e
      rw [List.getElem?_set_self (by simp; omega), List.getElem?_set_self (by unfold L2.start; simp; omega)]
      exact ⟨.ref b, rfl, .ref b⟩
    · rw [List.getElem?_set_ne (fun z => e z.symm), List.getElem?_replicate]
      split <;> trivial
  · obtain ⟨⟨y, h, hy⟩, _⟩ := h1
    unfold startL at h
    by_cases e : i = 1
    · subst e
      rw [List.getElem?_set_self (by simp; omega)] at h
      cases h
      exact hy.elim
    · rw [List.getElem?_set_ne (fun z => e z.symm), List.getElem?_replicate] at h
      split at h <;> cases h
end
end PD
namespace PD
open PySem PySem.Spec PyProof.Rows L2
def seqs : D → (List D → Prop) → Prop := fun d k => match d with
  | .lst xs => k xs
  | .tup xs => k xs
  | .str s => k (signs s)
  | _ => False
section
variable {X : Cx} {F : Fm} {W : WX} {e tg a b c : Expr} {pos p : Pos}
def iSeq (K : PySem.W.Frag) (tl : TE) : TI := fun σ H R => tl σ H fun x H1 => (∃ a, x = .ref a ∧ (∃ xs, SqL K H1 a xs) ∧ R (Itl K a) H1) ∨ (∃ a, x = .ref a ∧ (∃ xs, SqT K H1 a xs) ∧ R (Itt K a) H1) ∨ (∃ s, x = .str s ∧ R (Its s) H1)
theorem pi_seqA {l : Expr} {tl : TE} (hl : PE X l tl) : PI X tg l (iSeq X.K tl) := by
  refine ⟨fun pins s σ H R I h => ?_⟩
  refine thn (hl.run pins s σ H _ I h) fun v s1 ⟨x, H1, I1, r1, q1⟩ => ?_
  rcases q1 with ⟨a, e, ⟨xs, hq⟩, q⟩ | ⟨a, e, ⟨xs, hq⟩, q⟩ | ⟨z, e, q⟩ <;> subst e
  · cases r1
    obtain ⟨vs, rv, pl, hz⟩ := I1.list hq
    refine wpAny_pyIter_list pl.isList ⟨s1.heap.objs.size, [s1.heap.objs.size], _, _, H1, rfl, I1.kept (t' := s1.toks) fun b o e => Heap.get?_push_of_some _ e, turn_list a _, ⟨_, Heap.get?_push_size _ rfl, rfl, rfl⟩, fun b hb => ?_, q⟩
    cases (List.mem_singleton.mp hb : b = s1.heap.objs.size)
    exact I1.fpOk (Nat.le_refl _) (I1.hok.fresh (Nat.le_refl _))
  · cases r1
    obtain ⟨vs, rv, pl, hz⟩ := I1.tuple hq
    refine wpAny_pyIter_tuple (show s1.heap.IsTuple a vs.toArray from pl) ⟨s1.heap.objs.size, [s1.heap.objs.size], _, _, H1, rfl, I1.kept (t' := s1.toks) fun b o e => Heap.get?_push_of_some _ e, turn_tuple a _, ⟨_, Heap.get?_push_size _ rfl, rfl, rfl⟩, fun b hb => ?_, q⟩
    cases (List.mem_singleton.mp hb : b = s1.heap.objs.size)
    exact I1.fpOk (Nat.le_refl _) (I1.hok.fresh (Nat.le_refl _))
  · obtain ⟨t, rfl⟩ := r1
    cases ha : z.cps.all (· < 128)
    · exact wpAny_pyIter_wide ha (pi_one (tk := s1.toks) I1 _ (turn_str _ z t "str_iterator" (.inr rfl)) ⟨_, Heap.get?_push_size _ rfl, rfl, rfl⟩ q)
    · exact wpAny_pyIter_ascii ha (pi_one (tk := s1.toks) I1 _ (turn_str _ z t "str_ascii_iterator" (.inl rfl)) ⟨_, Heap.get?_push_size _ rfl, rfl, rfl⟩ q)
def wSeqs (w : WE) : WA := fun ρ kq kx => w ρ (fun d ρ' => seqs d fun xs => kq xs ρ') kx
theorem di_seq {w : WE} (h : DE X F W e w) : DI X F W tg e (wSeqs w) := by
  obtain ⟨t, p, q⟩ := h.ex
  refine ⟨_, pi_seqA p, fun S ρ σ H Q kq kx r hw hk hx => q S ρ σ H _ _ kx r hw (fun S1 ρ1 H1 d v g rp k => ?_) hx⟩
  unfold seqs at k
  split at k
  · cases rp with
    | @lst a vs ds ha hl rr =>
      refine .inl ⟨a, rfl, ⟨vs, SqL.of (g.r.fz _ _ ha)⟩, hk S1 ρ1 H1 _ _ g ⟨vs.length, _, _, walk_list, hl, fun H2 e2 => SqL.of (e2 _ _ ha), fun S2 H2 i d x H3 e1 e2 hd y => ?_⟩ k⟩
      obtain ⟨rfl, y⟩ := y
      exact .inl ⟨rfl, (rr i d x hd y).mono e1⟩
  · cases rp with
    | @tup a vs ds ha hl rr =>
      refine .inr (.inl ⟨a, rfl, ⟨vs, g.r.fz.t ha⟩, hk S1 ρ1 H1 _ _ g ⟨vs.length, _, _, walk_tup, hl, fun H2 e2 => e2.t ha, fun S2 H2 i d x H3 e1 e2 hd y => ?_⟩ k⟩)
      obtain ⟨rfl, y⟩ := y
      exact .inl ⟨rfl, (rr i d x hd y).mono e1⟩
  · rename_i s
    cases rp
    refine .inr (.inr ⟨_, rfl, hk S1 ρ1 H1 _ _ g ⟨s.cps.size, _, _, walk_str, by simp [signs], fun _ _ => trivial, fun S2 H2 i d x H3 e1 e2 hd y => ?_⟩ k⟩)
    obtain ⟨rfl, c, hc, rfl⟩ := y
    unfold signs at hd
    rw [List.getElem?_map, Array.getElem?_toList, hc] at hd
    cases hd
    exact .inl ⟨rfl, .str _⟩
  · exact k.elim
theorem walk_zipT {K : PySem.W.Frag} {a b : Addr} {xs ys : List V} {n : Nat} (hn : n = min xs.length ys.length) : Walk (RZ.ItzT K a b) n (fun H => SqT K H a xs ∧ SqT K H b ys) (YPair (fun i => xs[i]?) (fun i => ys[i]?)) := by
  subst hn
  refine ⟨fun i _ hi q => ?_, fun _ q => ⟨xs, ys, q.1, q.2, by omega⟩, fun i H v H' _ q y => ?_⟩
  · have h1 : i < xs.length := by omega
    have h2 : i < ys.length := by omega
    exact ⟨xs, ys, xs[i], ys[i], q.1, q.2, by simp [h1], by simp [h2]⟩
  · obtain ⟨T, x, z, h1, h2, h3, h4, h5⟩ := y
    exact ⟨T, x, z, h1, h2, h3, h4 xs q.1, h5 ys q.2⟩
def wZipA (w u : WE) : WA := fun ρ kq kx => w ρ (fun d ρ1 => u ρ1 (fun e ρ2 => match d, e with | .lst xs, .lst ys => kq (pairs xs ys) ρ2 | .tup xs, .tup ys => kq (pairs xs ys) ρ2 | _, _ => False) kx) kx
theorem di_zipA {w u : WE} {elts : List Expr} {kk : Nat} {tpos : Pos} (hm : X.mg "zip" = none) (ha : DE X F W a w) (hb : DE X F W b u) (hg : Gl X "zip" := by rfl) (hs : starEach [a, b] X.env = (false, eval a X.env) :: starEach [b] X.env := by rfl) (hs2 : starEach [b] X.env = (false, eval b X.env) :: starEach [] X.env := by rfl)
    (hpl : (backTo pos (starEach [b] X.env)).any (·.1) = false := by rfl) : DI X F W (.Tuple elts kk tpos) (.Call (.Name "zip" p) [a, b] [] pos) (wZipA w u) := by
  obtain ⟨t, p, q⟩ := ha.ex
  obtain ⟨t2, p2, q2⟩ := hb.ex
  refine ⟨_, RZ.pi_zipA hg hm (pa_cons p (pa_cons p2 pa_nil hs2) hs) hs hpl, fun S ρ σ H Q kq kx r hw hk hx => q S ρ σ H _ _ kx r hw (fun S1 ρ1 H1 d v g1 r1 k1 => ?_) hx⟩
  refine q2 S1 ρ1 σ H1 _ _ kx g1.r k1 (fun S2 ρ2 H2 e u g2 r2 k => ?_) (hx.mono g1.ex)
  split at k
  · rename_i xs ys
    obtain ⟨A, vs, rfl, ha, ra⟩ := Pk.l (.inl (r1.mono g2.ex)) (Ex.refl S2)
    obtain ⟨B, us, rfl, hb, rb⟩ := Pk.l (.inl r2) (Ex.refl S2)
    refine ⟨A, B, vs, us, rfl, .inl ⟨SqL.of (g2.r.fz _ _ ha), SqL.of (g2.r.fz _ _ hb), hk S2 ρ2 H2 _ _ (g1.trans g2) ⟨_, _, _, walk_zip rfl, ?_, fun H e => ⟨SqL.of (e _ _ ha), SqL.of (e _ _ hb)⟩, fun S3 H3 i d x H4 e1 e2 hd y => ?_⟩ k⟩⟩
    · rw [ra.1, rb.1]
      simp [pairs]
    · obtain ⟨T, x1, y1, rfl, hT, rfl, hx1, hy1⟩ := y
      obtain ⟨dx, dy, h1, h2, rfl⟩ := getElem?_pairs hd
      exact .inr ⟨T, [x1, y1], [dx, dy], rfl, hT, rfl, rfl, Reps.cons ((ra.2 i dx x1 h1 hx1).mono e1) (Reps.cons ((rb.2 i dy y1 h2 hy1).mono e1) Reps.nil)⟩
  · rename_i xs ys
    obtain ⟨A, vs, rfl, ha, ra⟩ := Pk.t (.inl (r1.mono g2.ex)) (Ex.refl S2)
    obtain ⟨B, us, rfl, hb, rb⟩ := Pk.t (.inl r2) (Ex.refl S2)
    refine ⟨A, B, vs, us, rfl, .inr ⟨g2.r.fz.t ha, g2.r.fz.t hb, hk S2 ρ2 H2 _ _ (g1.trans g2) ⟨_, _, _, walk_zipT rfl, ?_, fun H e => ⟨e.t ha, e.t hb⟩, fun S3 H3 i d x H4 e1 e2 hd y => ?_⟩ k⟩⟩
    · rw [ra.1, rb.1]
      simp [pairs]
    · obtain ⟨T, x1, y1, rfl, hT, rfl, hx1, hy1⟩ := y
      obtain ⟨dx, dy, h1, h2, rfl⟩ := getElem?_pairs hd
      exact .inr ⟨T, [x1, y1], [dx, dy], rfl, hT, rfl, rfl, Reps.cons ((ra.2 i dx x1 h1 hx1).mono e1) (Reps.cons ((rb.2 i dy y1 h2 hy1).mono e1) Reps.nil)⟩
  · exact k.elim
end
section
variable {X : Cx} {F : Fm} {W : WX} {e : Expr} {pos : Pos}
end
def pick {α : Type} (idx : List Nat) (xs : List α) : List α := idx.filterMap fun i => xs[i]?
theorem Vals.len {vs : List V} {us : List Value} (r : Vals vs us) : vs.length = us.length := r.length
theorem vals_pick {vs : List V} {us : List Value} (r : Vals vs us) : ∀ idx : List Nat, Vals (pick idx vs) (pick idx us)
  | [] => .nil
  | i :: idx => by
    unfold pick
    cases h : vs[i]? with
    | none =>
      have h2 : us[i]? = none := by
        rw [List.getElem?_eq_none_iff] at h ⊢
        rw [← r.length]
        exact h
      rw [List.filterMap_cons_none h, List.filterMap_cons_none h2]
      exact vals_pick r idx
    | some v =>
      obtain ⟨u, hu, ru⟩ := r.get h
      rw [List.filterMap_cons_some h, List.filterMap_cons_some hu]
      exact .cons ru (vals_pick r idx)
theorem reps_pick {K : PySem.W.Frag} {S : Hp} {ds : List D} {vs : List V} (r : Reps K S ds vs) : ∀ idx : List Nat, Reps K S (pick idx ds) (pick idx vs)
  | [] => Reps.nil
  | i :: idx => by
    unfold pick
    cases h : ds[i]? with
    | none =>
      have h2 : vs[i]? = none := by
        rw [List.getElem?_eq_none_iff] at h ⊢
        rw [r.1]
        exact h
      rw [List.filterMap_cons_none h, List.filterMap_cons_none h2]
      exact reps_pick r idx
    | some d =>
      have hi : i < vs.length := by
        rw [r.1]
        exact (List.getElem?_eq_some_iff.mp h).1
      rw [List.filterMap_cons_some h, List.filterMap_cons_some (List.getElem?_eq_getElem hi)]
      exact Reps.cons (r.2 i d _ h (List.getElem?_eq_getElem hi)) (reps_pick r idx)
def Bd (K : PySem.W.Frag) (fd : FuncData) (ps : List Str) (n : Nat) (ks : List Str) (idx : List Nat) (us : List Value) : Prop := ∀ (s : Shared) (xs ws : List Value), K.In s.heap → xs.length = n → ws.length = ks.length → BindsTo s fd ⟨xs, ks.zip ws⟩ (ps.zip (pick idx (xs ++ ws ++ us)))
theorem Fun.bd {K : PySem.W.Frag} {x qual : Str} {st : Stmt} {f : Addr} {fd : FuncData} {ps ks : List Str} {n : Nat} {idx : List Nat} (F : Fun K x qual st f fd)
    (h : ∀ (kV doc pm : Value) (an : Option Addr) (cdv ct : Value) (xs ws : List Value), xs.length = n → ws.length = ks.length → bindArgs (PySem.W.fnOf x qual (defArgs st) (defBody st) (defScope st) .none kV doc pm an cdv ct) ⟨xs, ks.zip ws⟩ = pure (ps.zip (pick idx (xs ++ ws ++ [])))) : Bd K fd ps n ks idx [] := by
  obtain ⟨oc, od, kV, doc, pm, an, cdv, ct, osl, rfl, lk, hcd⟩ := F.ex
  exact fun s xs ws _ h1 h2 => .of_eq (h kV doc pm an cdv ct xs ws h1 h2)
section
variable {X : Cx} {CX : CXT} {k n : Nat} {f : Addr} {fd : FuncData} {ps ks : List Str} {sp : Sp} {E : L2.St → XK} {x : Str} {p pos : Pos} {e : Expr} {es : List Expr} {kws : List Keyword} {t tk : TA} {idx : List Nat} {dvs : List V} {ds : List Value}
end
structure DK (X : Cx) (F : Fm) (W : WX) (kws : List Keyword) (w : WA) : Prop where
  ex : ∃ t, PK X kws t ∧ RunA X.K F W t w
section
variable {X : Cx} {F : Fm} {W : WX} {k n : Nat} {f : Addr} {fd : FuncData} {ps ks : List Str} {sp : SpD} {dvs : List V} {dds : List D} {us : List Value} {x : Str} {p pos : Pos} {e : Expr} {es : List Expr} {kws : List Keyword} {idx : List Nat}
theorem dk_nil : DK X F W [] wNil := ⟨_, pk_nil, fun S ρ σ H Q kq kx rr hw hk hx => hk S ρ H [] [] (Go.refl rr) Reps.nil hw⟩
theorem dk_cons {nm : Option Str} {kpos : Pos} {w : WE} {u : WA} (h : DE X F W e w) (hr : DK X F W kws u) : DK X F W (⟨nm, e, kpos⟩ :: kws) (wCons w u) := by
  obtain ⟨t, p1, q1⟩ := h.ex
  obtain ⟨t2, p2, q2⟩ := hr.ex
  exact ⟨_, pk_cons p1 p2, fun S ρ σ H Q kq kx rr hw hk hx => q1 S ρ σ H _ _ kx rr hw (fun S1 ρ1 H1 d v g1 r1 k1 => q2 S1 ρ1 σ H1 _ _ kx g1.r k1 (fun S2 ρ2 H2 ds vs g2 r2 k2 => hk S2 ρ2 H2 (d :: ds) (v :: vs) (g1.trans g2) (Reps.cons (r1.mono g2.ex) r2) k2) (hx.mono g1.ex)) hx⟩
end
end PD
namespace PD
open PySem PySem.Spec PyProof.Rows L2
def tx (l : List Nat) : Str := ⟨l.toArray⟩
def cs (s : Str) : List Nat := s.cps.toList
theorem tx_len (l : List Nat) : (tx l).length = l.length := by
  unfold tx Str.length
  simp
theorem tx_app (a b : List Nat) : tx a ++ tx b = tx (a ++ b) := by
  show Str.append (tx a) (tx b) = tx (a ++ b)
  unfold Str.append tx
  simp
theorem tx_inj {a b : List Nat} : tx a = tx b ↔ a = b := ⟨fun h => congrArg cs h, fun h => congrArg tx h⟩
theorem tx_beq (a b : List Nat) : (tx a == tx b) = decide (a = b) := by
  by_cases h : a = b
  · subst h
    simp
  · rw [decide_eq_false h]
    exact beq_eq_false_iff_ne.mpr fun z => h (tx_inj.mp z)
theorem tx_signs (l : List Nat) : signs (tx l) = l.map fun c => .str (tx [c]) := rfl
theorem tx_at (l : List Nat) (i : Int) : atI (tx l).cps.toList i = atI l i := rfl
theorem tx_in (c : Nat) (l : List Nat) : inS (tx [c]) (tx l) = decide (c ∈ l) := rfl
theorem cut_from {α : Type} (xs : List α) (k : Nat) : cutL xs (some (k : Int)) none = xs.drop k := by
  unfold cutL
  rw [HT.sIx_nat, HT.sIx_none]
  by_cases h : k ≤ xs.length
  · rw [Nat.min_eq_left h]
    exact List.take_of_length_le (by simp)
  · rw [Nat.min_eq_right (by omega), List.drop_length, List.drop_of_length_le (by omega), List.take_nil]
theorem cut_neg1 {α : Type} (xs : List α) : cutL xs none (some (-1)) = xs.dropLast := by
  unfold cutL
  rw [HT.sIx_none, List.drop_zero, Nat.sub_zero, List.dropLast_eq_take]
  have e : HT.sIx xs.length xs.length (some (-1)) = xs.length - 1 := by
    show (if (-1 : Int) < 0 then ((-1 : Int) + (xs.length : Int)).toNat else min (-1 : Int).toNat xs.length) = xs.length - 1
    rw [if_pos (by decide)]
    omega
  rw [e]
theorem cut_all {α : Type} (xs : List α) : cutL xs none none = xs := by
  unfold cutL
  rw [HT.sIx_none, HT.sIx_none, List.drop_zero, Nat.sub_zero, List.take_length]
theorem atI_hd {α : Type} (x : α) (xs : List α) : atI (x :: xs) 0 = some x := atI_nat (j := 0) rfl
def isT (T : String) (d : D) : Bool := match tyD d with
  | some a => isB a T
  | none => false
theorem kit_ok : ∀ a ∈ tyNames, ∀ T ∈ ["str", "int", "bool", "list", "tuple", "dict"], kitB a T = some (isB a T) := by decide +kernel
theorem ty_name {d : D} {a : String} (h : tyD d = some a) : a ∈ tyNames := by
  cases d <;> cases h <;> decide
theorem isi_run {T : String} {d : D} {k : D → Prop} (hd : (tyD d).isSome = true) (hT : T ∈ ["str", "int", "bool", "list", "tuple", "dict"] := by decide) (h : k (.bl (isT T d))) : oIsi T d k := by
  unfold oIsi
  unfold isT at h
  cases e : tyD d with
  | none => rw [e] at hd; cases hd
  | some a =>
    rw [e] at h
    exact ⟨kit_ok a (ty_name e) T hT, h⟩
theorem isi_eq {T : String} {d : D} {k : D → Prop} (hd : (tyD d).isSome = true) (hT : (["str", "int", "bool", "list", "tuple", "dict"].contains T) = true) : oIsi T d k = k (.bl (isT T d)) := by
  apply propext
  refine ⟨fun h => ?_, isi_run hd (by simpa using hT)⟩
  unfold oIsi at h
  unfold isT
  cases e : tyD d with
  | none => rw [e] at hd; cases hd
  | some a =>
    rw [e] at h
    exact h.2
theorem isi2_eq {T U : String} {d : D} {k : D → Prop} (hd : (tyD d).isSome = true) (hT : (["str", "int", "bool", "list", "tuple", "dict"].contains T) = true) (hU : (["str", "int", "bool", "list", "tuple", "dict"].contains U) = true) : oIsi2 T U d k = k (.bl (isT T d || isT U d)) := by
  apply propext
  unfold oIsi2 isT
  cases e : tyD d with
  | none => rw [e] at hd; cases hd
  | some a => exact ⟨fun h => h.2, fun h => ⟨⟨kit_ok a (ty_name e) T (by simpa using hT), kit_ok a (ty_name e) U (by simpa using hU)⟩, h⟩⟩
inductive Fa2 {α β : Type} (P : α → β → Prop) : List α → List β → Prop
  | nil : Fa2 P [] []
  | cons {a : α} {b : β} {as : List α} {bs : List β} (h : P a b) (t : Fa2 P as bs) : Fa2 P (a :: as) (b :: bs)
theorem Fa2.len {α β : Type} {P : α → β → Prop} {as : List α} {bs : List β} (h : Fa2 P as bs) : bs.length = as.length := by
  induction h with
  | nil => rfl
  | cons _ _ ih => exact congrArg Nat.succ ih
theorem Fa2.map {α β : Type} {f : α → β} {as : List α} {bs : List β} (h : Fa2 (fun a b => b = f a) as bs) : bs = as.map f := by
  induction h with
  | nil => rfl
  | cons h _ ih => rw [h, ih]; rfl
theorem Fa2.all {α β : Type} {P : α → β → Prop} {R : β → Prop} {as : List α} {bs : List β} (h : Fa2 P as bs) (hp : ∀ a b, a ∈ as → P a b → R b) : ∀ b ∈ bs, R b := by
  induction h with
  | nil => exact fun b hb => by cases hb
  | cons h _ ih =>
    intro b hb
    rcases List.mem_cons.mp hb with e | hb
    · subst e
      exact hp _ _ (List.mem_cons_self ..) h
    · exact ih (fun a b ha => hp a b (List.mem_cons_of_mem _ ha)) b hb
theorem lc_each {g : WG} {we : WE} {ρ : DSt} {kx : KX} (st : D → DSt) (P : D → D → Prop) : ∀ (ds acc : List D) (k : List D → Prop), (∀ d ∈ ds, ∀ k, k (st d) → g d ρ k) → (∀ d ∈ ds, ∀ Q : D → DSt → Prop, (∀ c, P d c → Q c (st d)) → we (st d) Q (fun _ _ => False)) → acc.length + ds.length ≤ 10000000 →
    (∀ cs, Fa2 P ds cs → k (acc ++ cs)) → lcGo g wYes we ρ kx ds acc k
  | [], acc, k, _, _, _, hk => by
    have := hk [] .nil
    rw [List.append_nil] at this
    exact this
  | d :: ds, acc, k, hg, hw, hl, hk => by
    refine hg d (List.mem_cons_self ..) _ ⟨rfl, ?_⟩
    rw [if_pos rfl]
    refine hw d (List.mem_cons_self ..) _ fun c hc => ⟨rfl, ?_, ?_⟩
    · rw [List.length_cons] at hl
      omega
    · refine lc_each st P ds (acc ++ [c]) k (fun d hd => hg d (List.mem_cons_of_mem _ hd)) (fun d hd => hw d (List.mem_cons_of_mem _ hd)) ?_ fun cs h => ?_
      · rw [List.length_append, List.length_cons] at *
        simp only [List.length_nil] at *
        omega
      · rw [List.append_assoc]
        exact hk (c :: cs) (.cons hc h)
theorem lc_map {g : WG} {we : WE} {ρ : DSt} {kx : KX} (st : D → DSt) (f : D → D) {ds acc : List D} {k : List D → Prop} (hg : ∀ d ∈ ds, ∀ k, k (st d) → g d ρ k) (hw : ∀ d ∈ ds, ∀ Q : D → DSt → Prop, Q (f d) (st d) → we (st d) Q (fun _ _ => False)) (hl : acc.length + ds.length ≤ 10000000)
    (hk : k (acc ++ ds.map f)) : lcGo g wYes we ρ kx ds acc k :=
  lc_each st (fun d c => c = f d) ds acc k hg (fun d hd Q h => hw d hd Q (h _ rfl)) hl fun cs h => by rw [h.map]; exact hk
end PD
namespace PD
open PySem PySem.Spec PyProof.Rows L2
def items : D → Option (List D)
  | .lst xs => some xs
  | .tup xs => some xs
  | .str s => some (signs s)
  | _ => none
def spOf : SpD := fun β ds kq _ => ∃ b x xs, β = some b ∧ ds = [.ref b, x] ∧ items x = some xs ∧ 0 < xs.length ∧ xs.length < 16777216 ∧ ∀ y ∈ xs, kq (.val y)
theorem fnOk_no {P : Program} {w : World} {K : PySem.W.Frag} {mg : Str → Option Value} {base : Heap} {CX : CXT} {k : Nat} {f : Addr} {fd : FuncData} {ps : List Str} {sp : SpD} (h : ∀ β ds kq kx, ¬ sp β ds kq kx) : FnOk P w K mg base CX k f fd ps (spD K sp) :=
  ⟨fun vs H Q E hs => by
    obtain ⟨_, β, ds, kq, kx, _, _, _, z, _⟩ := hs
    exact absurd z (h β ds kq kx), fun A outer s H args us vs Q E _ _ _ _ hs => by
    obtain ⟨_, β, ds, kq, kx, _, _, _, z, _⟩ := hs
    exact absurd z (h β ds kq kx)⟩
theorem of_eq {b : Addr} {x : D} {xs : List D} {kq : SV → Prop} {kx : DX → Prop} (hx : items x = some xs) (h : 0 < xs.length) (h2 : xs.length < 16777216) : spOf (some b) [.ref b, x] kq kx = ∀ y ∈ xs, kq (.val y) :=
  propext ⟨fun h => by
    obtain ⟨_, _, _, e1, e2, e3, _, _, k⟩ := h
    cases e1
    cases e2
    rw [hx] at e3
    cases e3
    exact k, fun k => ⟨b, x, xs, rfl, rfl, hx, h, h2, k⟩⟩
theorem isi_non  {T : String} {k : D → Prop} (hT : (["str", "int", "bool", "list", "tuple", "dict"].contains T) = true) : oIsi T .non k = k (.bl (isT T .non)) := isi_eq rfl hT
theorem isi_bl (x : Bool) {T : String} {k : D → Prop} (hT : (["str", "int", "bool", "list", "tuple", "dict"].contains T) = true) : oIsi T (.bl x) k = k (.bl (isT T (.bl x))) := isi_eq rfl hT
theorem isi_int (x : Int) {T : String} {k : D → Prop} (hT : (["str", "int", "bool", "list", "tuple", "dict"].contains T) = true) : oIsi T (.int x) k = k (.bl (isT T (.int x))) := isi_eq rfl hT
theorem isi_str (x : Str) {T : String} {k : D → Prop} (hT : (["str", "int", "bool", "list", "tuple", "dict"].contains T) = true) : oIsi T (.str x) k = k (.bl (isT T (.str x))) := isi_eq rfl hT
theorem isi_tup (x : List D) {T : String} {k : D → Prop} (hT : (["str", "int", "bool", "list", "tuple", "dict"].contains T) = true) : oIsi T (.tup x) k = k (.bl (isT T (.tup x))) := isi_eq rfl hT
theorem isi_lst (x : List D) {T : String} {k : D → Prop} (hT : (["str", "int", "bool", "list", "tuple", "dict"].contains T) = true) : oIsi T (.lst x) k = k (.bl (isT T (.lst x))) := isi_eq rfl hT
theorem isi_dic (x : List (Key × D)) {T : String} {k : D → Prop} (hT : (["str", "int", "bool", "list", "tuple", "dict"].contains T) = true) : oIsi T (.dic x) k = k (.bl (isT T (.dic x))) := isi_eq rfl hT
end PD
namespace PD
open PySem PySem.Spec PyProof.Rows L2
abbrev Act := List V → List V → Hp → VK → XK → Prop
def CodeOk (P : Program) (w : World) (K : PySem.W.Frag) (mg : Str → Option Value) (base : Heap) (k : Nat) (f : Addr) (ks : List Str) (act : Act) : Prop :=
  ∀ (A : Around) (outer : List PySem.Env) (s : Shared) (H : Hp) (Q : VK) (E : XK) (us ws : List Value) (vs zs : List V), Room k A → Env0 P w K mg base A outer s H → Vals vs us → Vals zs ws → act vs zs H Q E →
    codeAny (model P w) A (.call (.ref f) ⟨us, ks.zip ws⟩) (CR (CXq P w) outer P w H s Q E) s
def ActOk (X : Cx) (W : WX) (f : Addr) (ks : List Str) (act : Act) : Prop := ∀ (pins : List (Addr × Obj)) (σ : L2.St) (H : Hp) (s : Shared) (Q : VK) (us ws : List Value) (vs zs : List V),
  Inv X pins σ H s → Vals vs us → Vals zs ws → act vs zs H Q (fun cls od H' => W cls od σ H') → wpAny (model X.prog X.w) X.A (call (.ref f) us (ks.zip ws)) (EP X pins σ Q) X.xe s
def aFix (n m : Nat) (idx : List Nat) (sp : Sp) (dvs : List V) : Act := fun vs zs H Q E => vs.length = n ∧ zs.length = m ∧ sp (pick idx (vs ++ zs ++ dvs)) H Q E
section
variable {P : Program} {w : World} {K : PySem.W.Frag} {mg : Str → Option Value} {base : Heap} {k n m : Nat} {f : Addr} {fd : FuncData} {ps ks : List Str} {pv : Str} {sp : Sp} {idx : List Nat} {dvs : List V} {ds : List Value}
theorem code_fix (F : FnOk P w K mg base (CXq P w) k f fd ps sp) (hb : Bd K fd ps n ks idx ds) (hd : Vals dvs ds) : CodeOk P w K mg base k f ks (aFix n ks.length idx sp dvs) := fun A outer s H Q E us ws vs zs hr e0 r rz ⟨l1, l2, h⟩ => by
  have KX : K.In s.heap := e0.mod.kin.keeps fun b o e => (e0.bs b o e).1
  have r3 : Vals (pick idx (vs ++ zs ++ dvs)) (pick idx (us ++ ws ++ ds)) := vals_pick ((r.append rz).append hd) idx
  exact F.run A outer s H ⟨us, ks.zip ws⟩ (pick idx (us ++ ws ++ ds)) (pick idx (vs ++ zs ++ dvs)) Q E hr e0 (hb s us ws KX (r.length.symm.trans l1) (rz.length.symm.trans l2)) r3 h
variable {X : Cx} {W : WX} {C : Addr} {act : Act}
theorem act_code (F : CodeOk X.prog X.w X.K X.mg X.base k f ks act) (hr : Room k X.A) (hx : Snk X W) : ActOk X W f ks act := fun pins σ H s Q us ws vs zs I r rz h => by
  refine wpAny_call (codeAny_mono (F X.A X.stack s H Q _ us ws vs zs hr I.env0 r rz h) fun y s' hq => ?_)
  cases y with
  | error e => exact hx σ pins H s e s' I hq
  | ok fl =>
    cases fl with
    | ret u => exact I.after hq
    | next => exact False.elim hq
    | brk => exact False.elim hq
    | cont => exact False.elim hq
end
abbrev WAct := Option Addr → List D → List D → (SV → Prop) → (DX → Prop) → Prop
def ActD (K : PySem.W.Frag) (F : Fm) (act : Act) (wa : WAct) : Prop := ∀ (S : Hp) (ρ : DSt) (σ : L2.St) (H : Hp) (ds zs : List D) (vs us : List V) (Q : VK) (E : XK) (kq : SV → Prop) (kx : DX → Prop), R K F S ρ σ H → Reps K S ds vs → Reps K S zs us → wa F.bag ds zs kq kx →
  (∀ S' H' y v, Go K F σ S ρ H S' ρ H' → SVok K F S' ρ σ H' y v → (∀ p, v = .ref p → (∀ d, y ≠ .val d) → H p = none) → kq y → Q v H') →
  (∀ S' H' dx cls od, Go K F σ S ρ H S' ρ H' → RepX K S' dx cls od → kx dx → E cls od H') → act vs us H Q E
structure DCal (X : Cx) (F : Fm) (W : WX) (f : Addr) (ks : List Str) (wa : WAct) : Prop where
  ex : ∃ act, ActOk X W f ks act ∧ ActD X.K F act wa
def waFix (n m : Nat) (idx : List Nat) (sp : SpD) (dds : List D) : WAct := fun β ds zs kq kx => (ds.length = n ∧ zs.length = m) ∧ sp β (pick idx (ds ++ zs ++ dds)) kq kx
section
variable {K : PySem.W.Frag} {F : Fm} {n m np l : Nat} {idx : List Nat} {c : Nat → Bool} {C : Addr}
theorem actD_fix {sp : SpD} {dvs : List V} {dds : List D} (hd : ∀ S, Reps K S dds dvs) : ActD K F (aFix n m idx (spD K sp) dvs) (waFix n m idx sp dds) := fun S ρ σ H ds zs vs us Q E kq kx r rd rz h hk hx => by
  refine ⟨rd.1.trans h.1.1, rz.1.trans h.1.2, S, F.bag, _, kq, kx, r.fz, fun b hb => (r.bag b hb).1, reps_pick ((rd.append rz).append (hd S)) idx, h.2, fun S2 H2 y v r2 sv k2 => ?_, fun S2 H2 dx cls od r2 rx k2 => hx S2 H2 dx cls od (Go.call r r2) rx k2⟩
  obtain ⟨s1, n1⟩ := sv.ok r
  exact hk S2 H2 y v (Go.call r r2) s1 n1 k2
def hide (H : Hp) (a : Addr) : Hp := fun b => if b = a then none else H b
theorem hide_ne {H : Hp} {a b : Addr} (h : b ≠ a) : hide H a b = H b := if_neg h
theorem R0.frame {F G : Fm} {S H : Hp} (r : R0 F S H) (h0 : ∀ a o, G.H0 a = some o → F.H0 a = some o) (hs : G.S0 = F.S0) (hb : G.bag = F.bag) (hn : ∀ b, F.bag = some b → G.H0 b ≠ none) (hw : ∀ a, S a ≠ none → F.H0 a = none → G.H0 a = none) (hf : F.tb = [] := by rfl) (hg : G.tb = [] := by rfl) : R0 G S H :=
  ⟨r.fz, by rw [hs]; exact r.s0, fun a o e n _ => r.keep a o (h0 a o e) (by rw [← hb]; exact n) (by rw [hf]; exact fun _ z => nomatch z), fun a o e => by
    rcases r.new a o e with z | z
    · exact .inl (by rw [hs]; exact z)
    · exact .inr (hw a (by rw [e]; exact fun z => nomatch z) z), fun b hb' => by
    rw [hb] at hb'
    exact ⟨(r.bag b hb').1, hn b hb'⟩, by rw [hg]; exact fun _ z => nomatch z⟩
theorem RepF.nil {S : Hp} : RepF K S [] [] := ⟨rfl, fun i k d j v h => by simp at h⟩
theorem R0.made {F : Fm} {S S' H H' : Hp} {x dx : Addr} (r : R0 F S H) (hx : H x = none) (hd : H dx = none) (hn : dx ≠ x) {T : Hp → Hp} (ht : ∀ a o, H a = some o → T (upd (upd H dx (.own x)) x (.ins C dx [])) a = some o) (ht2 : ∀ a, T (upd (upd H dx (.own x)) x (.ins C dx [])) a = none → H a = none)
    (q : R0 ⟨hide (T (upd (upd H dx (.own x)) x (.ins C dx []))) x, S, F.bag, some x, []⟩ S' H') : R0 ⟨H, S, F.bag, none, []⟩ S' H' :=
  q.frame (fun a o e => (hide_ne (ne_of_none e hx)).trans (ht a o e)) rfl rfl (fun b hb => (r.bag b hb).1.some) fun a _ e => by
    by_cases h : a = x
    · rw [h]
      exact hx
    · have e : hide (T (upd (upd H dx (.own x)) x (.ins C dx []))) x a = none := e
      rw [hide_ne h] at e
      exact ht2 a e
theorem SVok.made {F : Fm} {S S' H H' : Hp} {ρ : DSt} {σ : L2.St} {x dx' : Addr} {gs : List (Str × V)} {fs : List (Str × D)} (r : R K F S ρ σ H) (hx : H x = none) (s2 : S' x = none) (h3 : H' x = some (.ins C dx' gs)) (rf : RepF K S' fs gs) : SVok K F S' ρ σ H' (.ownO C fs) (.ref x) :=
  ⟨x, dx', gs, rfl, ⟨R.h0_none r.toR0 hx, s2, fun i q => by
    obtain ⟨_, _, o, ho⟩ := r.ownAt q
    rw [hx] at ho
    cases ho⟩, h3, rf⟩
end
section
variable {P : Program} {w : World} {K : PySem.W.Frag} {mg : Str → Option Value} {base : Heap}
end
def putX {α : Type} (f : Str) (v : α) : List (Str × α) → List (Str × α)
  | [] => [(f, v)]
  | (g, x) :: r => if g = f then (g, v) :: r else (g, x) :: putX f v r
section
variable {K : PySem.W.Frag} {S : Hp}
theorem RepF.inv_nil {gs : List (Str × V)} (r : RepF K S [] gs) : gs = [] := by
  have := r.1
  simpa using this
theorem RepF.inv_cons {k : Str} {d : D} {fs : List (Str × D)} {gs : List (Str × V)} (r : RepF K S ((k, d) :: fs) gs) : ∃ v hs, gs = (k, v) :: hs ∧ Rep K S d v ∧ RepF K S fs hs := by
  cases gs with
  | nil => exact absurd r.1 (by simp)
  | cons q hs =>
    obtain ⟨j, v⟩ := q
    have h := r.1
    simp only [List.map_cons, List.cons.injEq] at h
    have hj : j = k := h.1
    subst hj
    exact ⟨v, hs, rfl, r.2 0 j d j v rfl rfl, h.2, fun i k2 d2 j2 v2 h1 h2 => r.2 (i + 1) k2 d2 j2 v2 (by simpa using h1) (by simpa using h2)⟩
theorem RepF.cons {k : Str} {d : D} {v : V} {fs : List (Str × D)} {gs : List (Str × V)} (a : Rep K S d v) (r : RepF K S fs gs) : RepF K S ((k, d) :: fs) ((k, v) :: gs) := by
  refine ⟨by simp [r.1], fun i k2 d2 j2 v2 h1 h2 => ?_⟩
  cases i with
  | zero =>
    simp at h1 h2
    rw [← h1.2, ← h2.2]
    exact a
  | succ i => exact r.2 i k2 d2 j2 v2 (by simpa using h1) (by simpa using h2)
theorem RepF.put {f : Str} {d : D} {v : V} (a : Rep K S d v) : ∀ {fs : List (Str × D)} {gs : List (Str × V)}, RepF K S fs gs → RepF K S (putX f d fs) (putX f v gs)
  | [], gs, r => by
    rw [r.inv_nil]
    exact RepF.cons a ⟨rfl, fun i k d j v h => by simp at h⟩
  | (k, e) :: fs, gs, r => by
    obtain ⟨u, hs, rfl, h1, h2⟩ := r.inv_cons
    unfold putX
    by_cases h : k = f
    · rw [if_pos h, if_pos h]
      exact RepF.cons a h2
    · rw [if_neg h, if_neg h]
      exact RepF.cons h1 (RepF.put a h2)
theorem RepF.lookup {f : Str} {d : D} : ∀ {fs : List (Str × D)} {gs : List (Str × V)}, RepF K S fs gs → fs.lookup f = some d → ∃ v, gs.lookup f = some v ∧ Rep K S d v
  | [], _, _, h => by cases h
  | (k, e) :: fs, gs, r, h => by
    obtain ⟨u, hs, rfl, h1, h2⟩ := r.inv_cons
    rw [List.lookup_cons] at h ⊢
    split at h
    · cases h
      rename_i hb
      exact ⟨u, rfl, h1⟩
    · exact RepF.lookup h2 h
theorem RepF.len {fs : List (Str × D)} {gs : List (Str × V)} (r : RepF K S fs gs) : gs.length = fs.length := by
  have := congrArg List.length r.1
  simpa using this
end
end PD
namespace PD
open PySem PySem.Spec PyProof.Rows L2
def ArgsR (X : Cx) (es : List Expr) (kws : List Keyword) (ks : List Str) (pos : Pos) (t tk : TA) : Prop := ∀ (f : Value) (first : List Value) (pins : List (Addr × Obj)) (s : Shared) (σ : L2.St) (H : Hp) (G : List V → List V → Hp → Prop) (Q : Value → Shared → Prop),
  PySem.W.keepIn X.K f = true → Inv X pins σ H s → (t σ H fun vs H1 => tk σ H1 fun zs H2 => G vs zs H2) →
  (∀ us ws vs zs H2 s2, Inv X pins σ H2 s2 → Vals vs us → Vals zs ws → G vs zs H2 → wpAny (model X.prog X.w) X.A (call f (first ++ us) (ks.zip ws)) Q X.xe s2) →
  wpAny (model X.prog X.w) X.A (callWith pos f first (backTo pos (starEach es X.env)) (backToKw pos (keywordEach kws X.env))) Q X.xe s
section
variable {X : Cx} {e : Expr} {es : List Expr} {kws : List Keyword} {ks : List Str} {pos p : Pos} {t tk : TA} {te : TE}
theorem args_kw (ha : PA X (e :: es) t) (hkw : PK X kws tk) (hall : (backToKw pos (keywordEach kws X.env)).all (·.1.isSome) = true := by rfl) (hks : (backToKw pos (keywordEach kws X.env)).filterMap (·.1) = ks := by rfl) (he : starEach (e :: es) X.env = (false, eval e X.env) :: starEach es X.env := by rfl)
    (hpl : ((backTo pos (starEach (e :: es) X.env)).any (·.1) || (backToKw pos (keywordEach kws X.env)).any (·.1.isNone)) = false := by rfl) : ArgsR X (e :: es) kws ks pos t tk := fun f first pins s σ H G Q hk I h hq => by
  refine PySem.W.callWith_KW (h₀ := X.base) I.ok.mod.kin hk hall (thn (ha.run pos pins s σ H _ I h) fun us s1 ⟨vs, H1, I1, r, q⟩ => ?_) hpl he
  refine thn (hkw.run pos pins s1 σ H1 _ I1 q) fun ws s2 ⟨zs, H2, I2, rz, q2⟩ => ⟨I2.kIn, ?_⟩
  rw [hks]
  exact hq us ws vs zs H2 s2 I2 r rz q2
theorem args_kw0 (hkw : PK X kws tk) (hall : (backToKw pos (keywordEach kws X.env)).all (·.1.isSome) = true := by rfl) (hks : (backToKw pos (keywordEach kws X.env)).filterMap (·.1) = ks := by rfl)
    (hpl : ((backTo pos (starEach [] X.env)).any (·.1) || (backToKw pos (keywordEach kws X.env)).any (·.1.isNone)) = false := by rfl) : ArgsR X [] kws ks pos tNil tk := fun f first pins s σ H G Q hk I h hq => by
  refine PySem.W.callWith_KW0 (h₀ := X.base) I.ok.mod.kin hk hall ?_ hpl
  refine thn (hkw.run pos pins s σ H _ I h) fun ws s2 ⟨zs, H2, I2, rz, q2⟩ => ⟨I2.kIn, ?_⟩
  rw [hks]
  exact hq [] ws [] zs H2 s2 I2 .nil rz q2
end
structure DArgs (X : Cx) (F : Fm) (W : WX) (es : List Expr) (kws : List Keyword) (ks : List Str) (pos : Pos) (u uk : WA) : Prop where
  ex : ∃ t tk, ArgsR X es kws ks pos t tk ∧ RunA X.K F W t u ∧ RunA X.K F W tk uk
section
variable {X : Cx} {F : Fm} {W : WX} {e : Expr} {es : List Expr} {kws : List Keyword} {ks : List Str} {pos p : Pos} {u uk : WA}
theorem run_nilA {K : PySem.W.Frag} : RunA K F W tNil wNil := fun S ρ σ H Q kq kx rr hw hk hx => hk S ρ H [] [] (Go.refl rr) Reps.nil hw
theorem dargs_kw (ha : DA X F W (e :: es) u) (hkw : DK X F W kws uk) (hall : (backToKw pos (keywordEach kws X.env)).all (·.1.isSome) = true := by rfl) (hks : (backToKw pos (keywordEach kws X.env)).filterMap (·.1) = ks := by rfl) (he : starEach (e :: es) X.env = (false, eval e X.env) :: starEach es X.env := by rfl)
    (hpl : ((backTo pos (starEach (e :: es) X.env)).any (·.1) || (backToKw pos (keywordEach kws X.env)).any (·.1.isNone)) = false := by rfl) : DArgs X F W (e :: es) kws ks pos u uk := by
  obtain ⟨t, p1, q1⟩ := ha.ex
  obtain ⟨tk, p2, q2⟩ := hkw.ex
  exact ⟨t, tk, args_kw p1 p2 hall hks he hpl, q1, q2⟩
theorem dargs_kw0 (hkw : DK X F W kws uk) (hall : (backToKw pos (keywordEach kws X.env)).all (·.1.isSome) = true := by rfl) (hks : (backToKw pos (keywordEach kws X.env)).filterMap (·.1) = ks := by rfl)
    (hpl : ((backTo pos (starEach [] X.env)).any (·.1) || (backToKw pos (keywordEach kws X.env)).any (·.1.isNone)) = false := by rfl) : DArgs X F W [] kws ks pos wNil uk := by
  obtain ⟨tk, p2, q2⟩ := hkw.ex
  exact ⟨tNil, tk, args_kw0 p2 hall hks hpl, run_nilA, q2⟩
end
def tAct (act : Act) (E : L2.St → XK) (t tk : TA) : TE := fun σ H Q => t σ H fun vs H1 => tk σ H1 fun zs H2 => act vs zs H2 Q (E σ)
def wAct (β : Option Addr) (wa : WAct) (u uk : WA) : WV := fun ρ kq kx => u ρ (fun ds ρ1 => uk ρ1 (fun zs ρ2 => wa β ds zs (fun y => kq y ρ2) (fun dx => kx dx ρ2)) kx) kx
theorem run_act {K : PySem.W.Frag} {F : Fm} {W : WX} {act : Act} {wa : WAct} {t tk : TA} {u uk : WA} (h : RunA K F W t u) (h' : RunA K F W tk uk) (ha : ActD K F act wa) : RunV K F W (tAct act (fun σ cls od H => W cls od σ H) t tk) (wAct F.bag wa u uk) := fun S ρ σ H Q kq kx r hw hk hx =>
  h S ρ σ H _ _ kx r hw (fun S0 ρ0 H0 ds vs g0 rd k0 => h' S0 ρ0 σ H0 _ _ kx g0.r k0 (fun S1 ρ1 H1 zs us g1 rz k1 =>
    ha S1 ρ1 σ H1 ds zs vs us Q _ _ _ g1.r (rd.mono g1.ex) rz k1 (fun S2 H2 y v g2 sv hn k2 => hk S2 ρ1 H2 y v (g0.trans (g1.trans g2)) sv (fun p e hy => g0.up p (g1.up p (hn p e hy))) k2)
      (fun S2 H2 dx cls od g2 rx k2 => hx dx ρ1 S2 H2 cls od (g0.ex.trans (g1.trans g2).ex) g2.r rx k2)) (hx.mono g0.ex)) hx
section
variable {X : Cx} {F : Fm} {W : WX} {e o : Expr} {es : List Expr} {kws : List Keyword} {ks : List Str} {pos p apos : Pos} {u uk : WA} {f : Addr} {wa : WAct} {x m : Str}
theorem dv_name (h : DCal X F W f ks wa) (hm : X.mg x = some (.ref f)) (hk : PySem.W.keepIn X.K (.ref f) = true) (ha : DArgs X F W es kws ks pos u uk) (hg : Gl X x := by rfl) (hdb : (x == ("__debug__" : Str)) = false := by decide) :
    DV X F W (.Call (.Name x p) es kws pos) (wAct F.bag wa u uk) := by
  obtain ⟨act, ho, hd⟩ := h.ex
  obtain ⟨t, tk, hr, q1, q2⟩ := ha.ex
  refine ⟨tAct act (fun σ cls od H => W cls od σ H) t tk, ⟨fun pins s σ H Q I hh => wpAny_Call_Name_kw (ld_glob I hg hm ?_ hdb)⟩, run_act q1 q2 hd⟩
  exact hr (.ref f) [] pins s σ H (fun vs zs H2 => act vs zs H2 Q (fun cls od H' => W cls od σ H')) _ hk I hh fun us ws vs zs H2 s2 I2 r rz q => ho pins σ H2 s2 Q us ws vs zs I2 r rz q
structure Alt (X : Cx) (F : Fm) (W : WX) (m : Str) (ks : List Str) (C : Addr) (wa : WAct) : Prop where
  ex : ∃ (g : Addr) (act : Act), Cls X.K C ∧ Meth X.K C m g ∧ ActOk X W g ks act ∧ ActD X.K F act wa
end
section
variable {X : Cx} {F : Fm} {W : WX} {e value : Expr} {pos p p' p2 : Pos} {f x : Str} {w : WE}
def wFlds (i : Nat) (P : Addr → Prop) : List Str → List D → DSt → (DSt → Prop) → Prop
  | [], [], ρ, k => k ρ
  | f :: fs, d :: ds, ρ, k => ∃ C gs, ρ[i]? = some (some (.slf C gs)) ∧ P C ∧ gs.length < 1000 ∧ wFlds i P fs ds (ρ.set i (some (.slf C (putX f d gs)))) k
  | _, _, _, _ => False
structure DGF (X : Cx) (F : Fm) (i : Nat) (P : Addr → Prop) (es : List Expr) (fs : List Str) : Prop where
  ex : ∃ g : TGs, PGs X es g ∧ ∀ S ρ σ H (ds : List D) vs (Q : L2.St → Hp → Prop) (k : DSt → Prop), R X.K F S ρ σ H → Reps X.K S ds vs → wFlds i P fs ds ρ k → (∀ ρ' H', R X.K F S ρ' σ H' → k ρ' → Q σ H') → g vs σ H Q
structure AltP (X : Cx) (f : Str) (C : Addr) (sp : SpD) : Prop where
  ex : ∃ (k : Nat) (p g : Addr) (fd : FuncData) (ps : List Str), Cls X.K C ∧ PropOf X.K C f p g ∧ FnOk X.prog X.w X.K X.mg X.base (CXq X.prog X.w) k g fd ps (spD X.K sp) ∧ Room (k + 1) X.A ∧ Binds X.K fd ps []
end
end PD
namespace PD
open PySem PySem.Spec PyProof.Rows L2
structure IsK (K : PySem.W.Frag) (C : Addr) : Prop where
  cl : Cls K C
  ca : PySem.W.findIn K (.ref C) "__class__" = some (some (.builtin "object.__class__"))
  cg : PySem.W.specialIn K (.builtin "object.__class__") "__get__" = some (some (.builtin "getset_descriptor.__get__"))
  ct : PySem.W.takesIn K (.builtin "object.__class__") = some true
  cm : PySem.W.mroIn K C (.type "object") = some true
  ic : PySem.W.isClsIn K C = true
  ty : PySem.W.typeIn K (.ref C) = some (.type "type")
  rf : PySem.W.mroIn K C (.ref C) = some true
section
variable {X : Cx} {F : Fm} {W : WX} {e : Expr} {w : WE} {p pos : Pos}
def tRefs : List Addr → TA
  | [] => tNil
  | c :: cs => tCons (tC (.ref c)) (tRefs cs)
structure CsA (X : Cx) (es : List Expr) (cs : List Addr) : Prop where
  ex : PA X es (tRefs cs)
end
section
variable {prog : Program} {w : World} {A : Around} {E : Value → Shared → Prop} {s : Shared} {K : PySem.W.Frag} {x C L f : Addr} {h₀ : Heap} {m : Str → Option Value} {ox : Obj} {od : Option Obj} {b tb : Value}
end
section
variable {X : Cx} {F : Fm} {W : WX} {e a b : Expr} {w wa wb : WE} {p pos : Pos} {pins : List (Addr × Obj)} {σ : L2.St} {H : Hp} {s : Shared}
end
structure AltS (X : Cx) (F : Fm) (m : Str) (C : Addr) (wa : WAct) : Prop where
  ex : ∃ (k : Nat) (g : Addr) (act : Act), Meth X.K C m g ∧ CodeOk X.prog X.w X.K X.mg X.base k g [] act ∧ Room (k + 1) X.A ∧ ActD X.K F act wa
abbrev ObjAlts := Addr → WAct → Prop
section
variable {X : Cx} {F : Fm} {W : WX} {e a b : Expr} {w wa wb : WE} {p pos : Pos} {alts : ObjAlts}
structure CmpD (X : Cx) (F : Fm) (W : WX) (op : CmpOp) (a b : Expr) (w : WE) : Prop where
  ex : ∃ (r : R2) (ta tb : TE), OpR X (compareOp op) r ∧ PE X a ta ∧ PE X b tb ∧ RunE X.K F W (tOp r ta tb) w
end
end PD
namespace PD
open PySem PySem.Spec PyProof.Rows L2 PySem.Froz
def TxS (P : Program) (w : World) (h : Heap) (a : Addr) (l : List Str) : Prop := ∃ D : SD, h.get? a = some (sObj "set" D) ∧ TxOk P w D l ∧ l.Nodup ∧ Ris D.2.2.place.toList ∧ (w.params.followText "set-order" = true ∨ D.2.2.led = true)
section
variable {P : Program} {w : World} {A : Around} {E : Value → Shared → Prop} {s : Shared} {a : Addr} {l : List Str}
theorem TxS.at_ {h h' : Heap} (R : TxS P w h a l) (k : ∀ o, h.get? a = some o → h'.get? a = some o) : TxS P w h' a l := by
  obtain ⟨D, h1, r⟩ := R
  exact ⟨D, k _ h1, r⟩
end
section
variable {prog : Program} {w : World} {A : Around} {R : Result → Shared → Prop} {I : Addr} {fp wr : List Addr} {G : Array GenState → Array GenState → Prop} {n : Nat} {P : Nat → Value → Prop} {St : Nat → Shared → Prop}
end
section
variable {prog : Program} {w : World} {A : Around} {E : Value → Shared → Prop} {s : Shared}
set_option maxHeartbeats 8000000 in
set_option maxHeartbeats 8000000 in
set_option maxHeartbeats 8000000 in
end
end PD
namespace PD
open PySem PySem.Spec PyProof.Rows L2
section
variable {prog : Program} {w : World} {A : Around} {E : Value → Shared → Prop} {s : Shared}
end
section
variable {X : Cx} {F : Fm} {W : WX} {e : Expr} {p pos : Pos}
end
end PD
namespace PD
open PySem PySem.Spec PyProof.Rows L2
section
variable {K : PySem.W.Frag} {S : Hp}
end
section
variable {X : Cx} {F : Fm} {W : WX} {o e f value : Expr} {p p' pos apos : Pos} {x : Str}
end
end PD
namespace PD
open PySem PySem.Spec PyProof.Rows L2
def RepT (K : PySem.W.Frag) (H : Hp) (kvs : List (List Key × D)) (es : List (List Key × V)) : Prop := es.map (·.1) = kvs.map (·.1) ∧ Reps K H (kvs.map (·.2)) (es.map (·.2))
theorem RepT.mono {K : PySem.W.Frag} {H H' : Hp} {kvs : List (List Key × D)} {es : List (List Key × V)} (r : RepT K H kvs es) (e : Ex H H') : RepT K H' kvs es := ⟨r.1, r.2.mono e⟩
def ditX (kvs : List (List Key × D)) : Xt where
  at_ := fun K H a => ∃ es, H a = some (.dT es) ∧ RepT K H kvs es
  mono := fun K H H' a e h => by
    obtain ⟨es, h1, h2⟩ := h
    exact ⟨es, e _ _ h1, h2.mono e⟩
def ditY (kvs : List (List Key × D)) : Yt where
  x := ditX kvs
  at_ := fun K S o => ∃ es, o = .dT es ∧ RepT K S kvs es
  mono := fun K S S' o e h => by
    obtain ⟨es, h1, h2⟩ := h
    exact ⟨es, h1, h2.mono e⟩
  rest := fun K S a o h e => by
    obtain ⟨es, h1, h2⟩ := h
    exact ⟨es, by rw [e, h1], h2⟩
def exnX (C : Addr) (fs : List (Str × D)) : Xt where
  at_ := fun K H a => ∃ dx gs, H a = some (exo a C (some dx)) ∧ H dx = some (exd dx gs) ∧ RepF K H fs gs
  mono := fun K H H' a e h => by
    obtain ⟨dx, gs, h1, h2, h3⟩ := h
    exact ⟨dx, gs, e _ _ h1, e _ _ h2, h3.mono e⟩
def tkX (ks : List Key) : Xt where
  at_ := fun _ H a => H a = some (.tup (ks.map kV))
  mono := fun _ _ _ _ e h => e _ _ h
def noX : Xt where
  at_ := fun _ _ _ => False
  mono := fun _ _ _ _ _ h => h
end PD
namespace PD
open PySem PySem.Spec PyProof.Rows L2
structure ExB (B newId initId : String) (bm : List Value) : Prop where
  fb : ExcBaseFacts B newId initId bm
  sf : StoreFacts B bm "object.__setattr__" "object"
  kf : PySem.W.KxsFacts B initId
theorem exB_VE : ExB "ValueError" "ValueError.__new__" "ValueError.__init__" [.type "ValueError", .type "Exception", .type "BaseException", .type "object"] := ⟨F.excBase_ValueError, F.store_ValueError, PySem.W.kxs_ValueError⟩
theorem exB_LE : ExB "LookupError" "LookupError.__new__" "LookupError.__init__" [.type "LookupError", .type "Exception", .type "BaseException", .type "object"] := ⟨F.excBase_LookupError, F.store_LookupError, PySem.W.kxs_LookupError⟩
theorem exB_IE : ExB "IndexError" "IndexError.__new__" "IndexError.__init__" [.type "IndexError", .type "LookupError", .type "Exception", .type "BaseException", .type "object"] := ⟨F.excBase_IndexError, F.store_IndexError, PySem.W.kxs_IndexError⟩
structure ExC (K : PySem.W.Frag) (C : Addr) (B newId initId : String) (bm : List Value) : Prop where
  b : ExB B newId initId bm
  i : PySem.W.excInitIn K C bm newId = true
  o : PySem.W.excOver K C bm = true
  d : PySem.W.hasDictIn K C = true
  sa : PySem.W.findIn K (.ref C) "__setattr__" = some (some (.builtin "object.__setattr__"))
  be : PySem.W.subIn K (.ref C) (.type "BaseException") = some true
  bb : PySem.W.subIn K (.ref C) (.type B) = some true
  ty : PySem.W.typeIn K (.ref C) = some (.type "type")
  kp : PySem.W.keepIn K (.ref C) = true
  su : PySem.W.ks_superIn K C C "__init__" = some (some (.builtin initId))
  op : PySem.W.nsIn K cStatics "thirdparty.any" = some none
abbrev exR (C t : Addr) (d : Option Addr) : Obj := { cls := .ref C, dict := d, data := .fields #[.ref t, .none, .none, .none, .bool false, .none] }
section
variable {X : Cx} {pins : List (Addr × Obj)} {σ : L2.St} {H : Hp} {s : Shared} {a C dx : Addr} {f : Str} {y : V} {u : Value} {fs : List (Str × V)} {Q : Unit → Shared → Prop} {E : Value → Shared → Prop} {A : Around} {B newId initId : String} {bm : List Value}
theorem exst_new (T : ExC X.K C B newId initId bm) (I : Inv X pins σ H s) (e : H a = some (exo a C none)) (ht : PySem.W.takerIn X.K C f = some none) (ry : RelV y u)
    (h : ∀ dx s', H dx = none → dx ≠ a → Inv X pins σ (upd (upd H dx (exd dx [(f, y)])) a (exo a C (some dx))) s' → Q () s') : wpAny (model X.prog X.w) A (setAttr (.ref a) f u) Q E s := by
  obtain ⟨t1, ho⟩ := exo_at I.hok e
  obtain ⟨cd, hcl, hd⟩ := PySem.W.any_some T.d
  obtain ⟨hp, g, d, t, os⟩ := s
  have ho : hp.get? a = some (exR C t1 none) := ho
  have hls : PySem.W.Looks (model X.prog X.w) hp (classData C) cd := PySem.W.looks_clsIn I.kIn hcl
  refine PySem.W.set_plain I.kIn (ox := exR C t1 none) (od := none) ⟨ho, rfl, rfl, trivial⟩ T.sa ?_
  refine PySem.W.osa_openX T.b.sf I.kIn (ox := exR C t1 none) (od := none) ⟨ho, rfl, rfl, trivial⟩ T.o ht fun b => ?_
  show wpAny _ _ (Builtin.ObjectAttr.storeInOwnDict (.ref a) (.ref C) _ f u b) _ _ _
  have nas : a ≠ hp.objs.size := Nat.ne_of_lt (Heap.lt_size ho)
  have fin : ∀ (h' : Heap) (tk' : Nat) (dx : Addr), (∀ b o, b ≠ a → hp.get? b = some o → h'.get? b = some o) → hp.objs.size ≤ dx → dx ≠ a → h'.get? a = some (exR C t1 (some dx)) → h'.Ns1 dx (fun y => if y = f then some u else none) → Q () ⟨h', g, d, tk', os⟩ := fun h' tk' dx k dn dne hx hn => by
    have hnd : H dx = none := I.hok.fresh dn
    have nd : ∀ {b : Addr} {o : Obj}, hp.get? b = some o → b ≠ dx := fun {b o} q => Nat.ne_of_lt (Nat.lt_of_lt_of_le (Heap.lt_size q) dn)
    have na : ∀ {b : Addr}, H b = none → b ≠ a := fun {b} n z => by
      rw [z, e] at n
      cases n
    refine h dx _ hnd dne (I.un (t' := tk') ⟨fun b o q n _ _ => k b o (na n) q, fun b o q n _ _ => ⟨o.slots, k b o (na n) q⟩, fun b o q n _ => by rw [upd_ne (na n), upd_ne (nd q)]; exact n, fun b o q _ => ?_,
      fun b xs q => by rw [upd_ne (at_ne e q exo_tup), upd_ne (ne_of_none q hnd)]; exact q, fun b o v q => by rw [upd_ne (at_ne e q exo_frz), upd_ne (ne_of_none q hnd)]; exact q, fun b ps q => ⟨#[], by rw [upd_ne (at_ne e q exo_tbl), upd_ne (ne_of_none q hnd), q]; simp⟩⟩ fun b o q => ?_)
    · by_cases hb : b = a
      · exact ⟨_, by rw [hb]; exact hx⟩
      · exact ⟨o, k b o hb q⟩
    · by_cases hb : b = a
      · subst hb
        rw [upd_same] at q
        cases q
        exact exo_ok hx
      · rw [upd_ne hb] at q
        by_cases hd : b = dx
        · subst hd
          rw [upd_same] at q
          cases q
          exact exd_ok hn (relO_put (fs := []) ry fun g => True.intro)
        · rw [upd_ne hd] at q
          have own : ∀ {c : Addr}, H c = some (.own b) → c ≠ a ∧ c ≠ dx := fun {c} hc => ⟨at_ne e hc exo_own, ne_of_none hc hnd⟩
          refine (I.hok b o q).stay (fun c v hc z => k c v (hc.elim (fun hc => by rw [hc]; exact hb) fun hc => (own hc).1) z) (fun c hc => by rw [upd_ne (own hc).1, upd_ne (own hc).2]; exact hc) fun c xs hc => by rw [upd_ne (at_ne e hc exo_tup), upd_ne (ne_of_none hc hnd)]; exact hc
  obtain ⟨nm, bs, mro, ns, qn, hdd, sn, sb, ab, col, del⟩ := cd
  dsimp only at hd
  subst hd
  unfold Builtin.ObjectAttr.storeInOwnDict Builtin.ObjectAttr.ownDictForStores
  repeat (first | with_reducible refine PySem.HandSPX.store_in_new ?_ ?_ | with_reducible refine wpAny_loadPart_at ho ?_ | with_reducible refine hls.at ?_ | wp_step)
  · exact ⟨_, #[], _, (Heap.get?_update_ne _ _ _ _ nas.symm).trans (Heap.get?_push_at rfl rfl), rfl, fun e he => absurd he (by simp), fun _ => rfl⟩
  · intro h' tk' hn' hs
    have hx1 : (hp.push { cls := .type "dict", data := .dict #[] }).get? a = some (exR C t1 none) := Heap.get?_push_of_some _ ho
    refine fin h' tk' hp.objs.size (fun b o hb hq => ?_) (Nat.le_refl _) nas.symm ?_ hn'
    · exact (hs.2 b (Nat.ne_of_lt (Heap.lt_size hq))).trans ((Heap.get?_update_ne _ _ _ _ hb).trans (Heap.get?_push_of_some _ hq))
    · exact (hs.2 a nas).trans (Heap.get?_update_self _ hx1 rfl)
theorem exst_old (T : ExC X.K C B newId initId bm) (I : Inv X pins σ H s) (e : H a = some (exo a C (some dx))) (ed : H dx = some (exd dx fs)) (hl : fs.length ≤ 900) (ht : PySem.W.takerIn X.K C f = some none) (ry : RelV y u)
    (h : ∀ s', Inv X pins σ (upd H dx (exd dx ((f, y) :: fs))) s' → Q () s') : wpAny (model X.prog X.w) A (setAttr (.ref a) f u) Q E s := by
  obtain ⟨t1, ho⟩ := exo_at I.hok e
  obtain ⟨mA, hns, rel⟩ := exd_at I.hok ed
  have hw := within_of rel
  obtain ⟨cd, hcl, hd⟩ := PySem.W.any_some T.d
  obtain ⟨hp, g, d, t, os⟩ := s
  have ho : hp.get? a = some (exR C t1 (some dx)) := ho
  obtain ⟨oD, _, _, hoD, _, _⟩ := id hns
  have hls : PySem.W.Looks (model X.prog X.w) hp (classData C) cd := PySem.W.looks_clsIn I.kIn hcl
  refine PySem.W.set_plain I.kIn (ox := exR C t1 (some dx)) (od := some oD) ⟨ho, rfl, rfl, hoD⟩ T.sa ?_
  refine PySem.W.osa_openX T.b.sf I.kIn (ox := exR C t1 (some dx)) (od := some oD) ⟨ho, rfl, rfl, hoD⟩ T.o ht fun b => ?_
  show wpAny _ _ (Builtin.ObjectAttr.storeInOwnDict (.ref a) (.ref C) _ f u b) _ _ _
  obtain ⟨nm, bs, mro, ns, qn, hdd, sn, sb, ab, col, del⟩ := cd
  dsimp only at hd
  subst hd
  have hz : (fs.map (·.1)).length ≤ 1000 := by rw [List.length_map]; omega
  unfold Builtin.ObjectAttr.storeInOwnDict Builtin.ObjectAttr.ownDictForStores
  repeat (first | with_reducible refine PySem.OEX.store_in_old hns hw hz ?_ | with_reducible refine wpAny_loadPart_at ho ?_ | with_reducible refine hls.at ?_ | wp_step)
  intro h' tk' hn' hs
  have there : ∃ o, h'.get? dx = some o := by
    obtain ⟨o, _, _, e', _⟩ := id hn'
    exact ⟨o, e'⟩
  exact h _ (I.write (t' := tk') (x := dx) (e := dx) (o := exd dx ((f, y) :: fs)) (by rw [ed]; exact True.intro) (.inl rfl) (fun b o hb hq => (hs.2 b hb).trans hq) there (exd_ok hn' (relO_put ry rel)))
end
structure SupC (X : Cx) (C f cl cc : Addr) (fd : FuncData) (sn : Str) : Prop where
  ks : X.env.kindOf "super" = some .globalImplicit
  kc : X.env.kindOf "__class__" = some .free
  fu : X.env.func = some f
  co : X.env.code = .ref cc
  ce : X.env.cells.lookup ("__class__" : Str) = some cl
  lk : ∃ oc od osl, X.K.lookup f = some ⟨oc, od, .func fd, osl⟩
  ps : ∃ ar : Arg, (fd.params.posonlyargs ++ fd.params.args).head? = some ar ∧ ar.arg = sn
  lc : ∃ oc od osl vs file tf, X.K.lookup cc = some ⟨oc, od, .fields vs, osl⟩ ∧ vs[2]? = some (.str file tf) ∧ ((X.prog.main.file : Str) == file) = true
  lcl : ∃ oc od osl, X.K.lookup cl = some ⟨oc, od, .cell (some (.ref C)), osl⟩
  ma : X.mg "super" = none
  to : (X.prog.main.scope.names.lookup ("super" : Str)).isSome = false
  me : PySem.W.mroIn X.K C (.ref C) = some true
section
variable {X : Cx} {pins : List (Addr × Obj)} {σ : L2.St} {H : Hp} {s : Shared} {a C f cl cc : Addr} {fd : FuncData} {sn : Str} {B newId initId : String} {bm : List Value} {e0 : Expr} {te : TE} {p0 p1 p2 p3 : Pos} {body : List Stmt} {Q : Value → Shared → Prop} {pl : Sem Bool}
theorem super_run (T : ExC X.K C B newId initId bm) (Z : SupC X C f cl cc fd sn) (I : Inv X pins σ H s) (hN : X.N[0]? = some sn) (hl : X.env.kindOf sn = some .local) (h0 : σ[0]? = some (some (.ref a))) (e : H a = some (exo a C none)) (he : PE X e0 te)
    (h1 : te σ H fun y H1 => [y].length ≤ 1 ∧ H1 a = some (exo a C none) ∧ ∀ s', Inv X pins σ H1 s' → Q .none s')
    (hev : eval (.Call (.Attribute (.Call (.Name "super" p0) [] [] p1) "__init__" p2) [e0] [] p3) X.env = (do
      let ov ← attributeBase (.Call (.Name "super" p0) [] [] p1) "__init__" X.env (eval (.Call (.Name "super" p0) [] [] p1) X.env)
      standAt p2.atName
      let (f, first) ← holding [ov] (getMethod ov "__init__" pl)
      callWith p3 f first (backTo p3 (starEach [e0] X.env)) []) := by rfl)
    (hst : starEach [e0] X.env = (false, eval e0 X.env) :: starEach [] X.env := by rfl) (hpl : (backTo p3 (starEach [] X.env)).any (·.1) = false := by rfl) :
    PySem.wpAt (model X.prog X.w) X.A (.func body X.env) (eval (.Call (.Attribute (.Call (.Name "super" p0) [] [] p1) "__init__" p2) [e0] [] p3) X.env) Q X.xe s := by
  obtain ⟨oc, od, osl, lk⟩ := Z.lk
  obtain ⟨ar, hp, rfl⟩ := Z.ps
  obtain ⟨oc2, od2, osl2, vs, file, tf, lc, hvs, hfile⟩ := Z.lc
  obtain ⟨oc3, od3, osl3, lcl⟩ := Z.lcl
  obtain ⟨cd, hcl, _⟩ := PySem.W.any_some T.d
  obtain ⟨mb, hb1, hb2⟩ := I.mod.blt
  obtain ⟨m, hns, hloc⟩ := id I.loc
  obtain ⟨u0, ru, lu⟩ := hloc 0 _ _ hN h0 (.inl hl)
  obtain rfl : u0 = Value.ref a := ru
  have hm : m ar.arg = some (.ref a) := by
    rcases lu with ⟨_, q⟩ | ⟨q, _⟩
    · exact q
    · rw [hl] at q
      rcases q with q | q <;> cases q
  obtain ⟨t1, ho⟩ := exo_at I.hok e
  have ho : s.heap.get? a = some (exR C t1 none) := ho
  refine PySem.ks_wpAt_MethodCall (pl := pl) ?_ hev
  refine PySem.ks_wpAt_super_base Z.ks Z.kc (by decide) Z.fu (I.kIn _ _ lk) rfl hp Z.co (I.kIn _ _ lc) rfl hvs hfile Z.to ?_
  refine PySem.W.ks_loadName_global I.ok.kind Z.ks (Calls.loadGlobal_builtin (by rw [I.ok.glob]; exact I.mod.glob.keeps I.bk) Z.ma (by rw [I.ok.blt]; exact hb1.keeps I.bk) ((hb2 _ (by decide)).trans (by decide +kernel)) ⟨rfl, ?_⟩)
  refine wpAny_loadName_free I.ok.kind Z.kc Z.ce ⟨_, I.kIn _ _ lcl, rfl⟩ ?_
  refine wpAny_loadName_local I.ok.kind hl hns hm ?_
  obtain ⟨oD, hD1, hD2⟩ : ∃ oD, s.heap.get? C = some oD ∧ oD.data = .cls cd := by
    unfold PySem.W.clsIn at hcl
    split at hcl
    · rename_i c d cd' sl hlk
      cases hcl
      exact ⟨_, I.kIn _ _ hlk, rfl⟩
    · cases hcl
  obtain ⟨hh, g, d, t, os⟩ := s
  refine PySem.ks_wpAny_isType_cls hD1 hD2 ⟨rfl, ?_⟩
  refine PySem.ks_wpAny_call_super hD1 hD2 ho rfl (fun c e => nomatch e) (PySem.W.looks_mroIn I.kIn Z.me) (fun h' hso k => ?_)
  have I1 : Inv X pins σ H ⟨h', g, d, t, os⟩ := I.kept (t' := t) k
  have ho1 : h'.get? a = some (exR C t1 none) := k _ _ ho
  have hsz : hh.objs.size < h'.objs.size := Heap.lt_size hso
  have hI : PySem.W.Looks (model X.prog X.w) h' (isInstance (.ref a) (.type B)) true := (PySem.W.InstAt.type (ox := exR C t1 none) (od := none) ⟨ho1, rfl, rfl, trivial⟩).andThen (PySem.W.looks_subIn I1.kIn T.bb)
  have hxC : a ≠ C := PySem.W.ks_ne I1.kIn (ox := exR C t1 none) (odx := none) ⟨ho1, rfl, rfl, trivial⟩ hcl
  have hsu := T.su
  unfold PySem.W.ks_superIn at hsu
  rw [hcl] at hsu
  refine PySem.W.kxs_getMethod T.b.kf hso (PySem.W.looks_opaque I1.kIn T.op) (l₀ := cd.mro) (fun A Q E s k q => wpAny_bind ((PySem.W.looks_clsIn I1.kIn hcl) A _ E s k (wpAny_pure q))) rfl I1.kIn hsu hI hxC (by decide) ?_
  have k2 : ∀ b o, h'.get? b = some o → (h'.push (PySem.W.kxs_mw initId a)).get? b = some o := fun b o e => Heap.get?_push_of_some _ e
  have I2 : Inv X pins σ H ⟨h'.push (PySem.W.kxs_mw initId a), g, d, t + 1, os⟩ := I1.kept (t' := t + 1) k2
  have hu : (h'.push (PySem.W.kxs_mw initId a)).get? h'.objs.size = some (PySem.W.kxs_mw initId a) := Heap.get?_push_size _ rfl
  have hnu : H h'.objs.size = none := I1.hok.fresh (Nat.le_refl _)
  have I3 : Inv X (pins ++ [(h'.objs.size, PySem.W.kxs_mw initId a)]) σ H ⟨h'.push (PySem.W.kxs_mw initId a), g, d, t + 1, os⟩ := I2.pins_of fun p hp => by
    rcases List.mem_append.mp hp with hp | hp
    · exact I2.pin p (List.mem_append_right _ hp)
    · have hp : p = (h'.objs.size, PySem.W.kxs_mw initId a) := by simpa using hp
      subst hp
      exact ⟨hu, hnu, Nat.ne_of_gt I1.lt, I1.nofs (Nat.le_refl _), fun v z => nomatch z⟩
  have ha := (pa_cons he pa_nil hst).run p3 _ _ σ H (fun vs H1 => vs.length ≤ 1 ∧ H1 a = some (exo a C none) ∧ ∀ s', Inv X pins σ H1 s' → Q .none s') I3 (show tCons te tNil σ H _ from by
    unfold tCons
    refine (show te σ H _ from ?_)
    exact h1)
  rw [hst] at ha
  rw [hst]
  refine PySem.W.kxs_callWith (i := initId) (x := a) (by show (false || (backTo p3 (starEach [] X.env)).any (·.1)) = false; rw [hpl]; rfl) (Calls.evalArgs_plain (thn ha fun us s1 ⟨vs, H1, I4, rv, hvl, e1, q⟩ => ?_))
  have P4 := I4.pin (h'.objs.size, PySem.W.kxs_mw initId a) (List.mem_append_right _ (List.mem_append_right _ (by simp)))
  have I5 : Inv X pins σ H1 s1 := I4.unpinned
  have hlen : us.length ≤ sizeLine := by
    rw [← Paired.length rv, sizeLine_eq]
    omega
  obtain ⟨t2, ho4⟩ := exo_at I5.hok e1
  have hu4 := P4.1
  refine ⟨hu4, ?_⟩
  obtain ⟨h4, g4, d4, t4, os4⟩ := s1
  obtain ⟨nm, N', qn, bs, bm', hdct, sn', sub, ab, col, dd, k0, k1, k2', k3, k5, hC, hT⟩ := PySem.W.excInit_of I5.kIn T.i
  refine wpAny_call (codeAny_of_tree ?_)
  show wpAny _ X.A.in1 (callAny (.ref h'.objs.size) ⟨us, []⟩) _ _ _
  simp only [callAny]
  refine wpAny_bind (wpAny_load hu4 ?_)
  simp only [PySem.W.kxs_mw, (by decide : (Value.type "method-wrapper" == Value.type "method" || Value.type "method-wrapper" == Value.type "builtin_function_or_method" || Value.type "method-wrapper" == Value.type "method-wrapper") = true), if_true]
  refine PySem.W.KFB.if_so (by decide) (wpAny_bind (PySem.W.check_bound_init T.b.fb.toExcCallFacts hC ho4 rfl (wpAny_bind (wpAny_pure (wpAny_pure ?_)))))
  refine ⟨PySem.plainId_quiet T.b.fb.init.plain _, codeAny_builtin T.b.fb.initEntry (PySem.W.exc_init_tree (cls := .ref C) (t0 := t2) (dv := none) (c2 := .none) (c3 := .none) (b4 := .bool false) ho4 hlen fun h5 kk hx _ => ?_)⟩
  have J := I5.write (t' := t4) (x := a) (e := a) (o := exo a C none) (by rw [e1]; exact True.intro) (.inl rfl) kk ⟨_, hx⟩ (exo_ok hx)
  have eu : upd H1 a (exo a C none) = H1 := by
    funext b
    unfold upd
    split
    · rename_i hb
      rw [hb, e1]
    · rfl
  rw [eu] at J
  exact q _ J
end
end PD
namespace PD
open PySem PySem.Spec PyProof.Rows L2
section
variable (CX : CXT) (P : Program) (w : World) (K : PySem.W.Frag) (mg : Str → Option Value) (base : Heap) (ps : List Str) (fd : FuncData) (f : Addr) (A : Around) (outer : List Env) (s : Shared) (H : Hp) (E : XK)
def cxI : Cx where
  prog := P
  w := w
  K := K
  mg := mg
  base := base
  A := A.deeper (callEnv fd s.heap.objs.size f)
  N := ps
  s_0 := s
  H_0 := H
  env := callEnv fd s.heap.objs.size f
  outer := outer
  stack := callEnv fd s.heap.objs.size f :: outer
  ex := []
  fn := fun _ => false
  calm := false
  pn := []
  xe := fun e s' => wpAny (model P w) (A.deeper (callEnv fd s.heap.objs.size f)) (leaving (callEnv fd s.heap.objs.size f) e) (fun _ s'' => CX outer H s E e s'') (fun e' s'' => CX outer H s E e' s'') s'
end
structure IniS (ps : List Str) (cl : Addr) (fd : FuncData) (body : List Stmt) : Prop where
  kind : fd.scope.kind = .function
  co : fd.scope.isCoroutine = false
  gen : fd.scope.isGenerator = false
  gl : fd.globals = mainGlobals
  bt : fd.builtins = builtinsNs
  clo : fd.closure = [(("__class__" : Str), cl)]
  body : fd.body = .stmts body
  nd : ps.Nodup
  loc : ∀ x ∈ ps, fd.scope.names.lookup x = some .local
  nocell : ∀ y ∈ fd.scope.names, y.2 ≠ .cell
  free : ∀ y, fd.scope.names.lookup y = some .free → y = "__class__"
theorem zip_rev_lookup {ps : List Str} : ∀ {us : List Value}, ps.Nodup → ∀ {i : Nat} {y : Str} {u : Value}, ps[i]? = some y → us[i]? = some u → (ps.zip us).reverse.lookup y = some u := by
  intro us hn i y u h1 h2
  have hm : (y, u) ∈ (ps.zip us).reverse := by
    rw [List.mem_reverse]
    exact List.mem_of_getElem? (i := i) (by rw [List.getElem?_zip_eq_some]; exact ⟨h1, h2⟩)
  have key : ∀ (l : List (Str × Value)), (l.map (·.1)).Nodup → (y, u) ∈ l → l.lookup y = some u := by
    intro l
    induction l with
    | nil => intro _ h; cases h
    | cons p l ih =>
      intro nd h
      obtain ⟨k, v⟩ := p
      rw [List.map_cons, List.nodup_cons] at nd
      rcases List.mem_cons.mp h with e | e
      · cases e
        simp [List.lookup]
      · have ne : (y == k) = false := by
          simp only [beq_eq_false_iff_ne]
          intro e2
          subst e2
          exact nd.1 (List.mem_map_of_mem (f := (·.1)) e)
        simp only [List.lookup, ne]
        exact ih nd.2 e
  refine key _ ?_ hm
  rw [List.map_reverse]
  refine List.pairwise_reverse.mpr (List.Pairwise.imp (fun h => Ne.symm h) ?_)
  clear hm key h1 h2
  induction ps generalizing us with
  | nil => exact List.Pairwise.nil
  | cons p ps ih =>
    cases us with
    | nil => exact List.Pairwise.nil
    | cons v us =>
      rw [List.nodup_cons] at hn
      rw [List.zip_cons_cons, List.map_cons]
      refine List.Pairwise.cons (fun x hx e => hn.1 ?_) (ih hn.2)
      obtain ⟨q, hq, rfl⟩ := List.mem_map.mp hx
      obtain ⟨q1, q2⟩ := q
      subst e
      exact (List.of_mem_zip hq).1
section
variable {CX : CXT} {P : Program} {w : World} {K : PySem.W.Frag} {mg : Str → Option Value} {base : Heap} {ps : List Str} {fd : FuncData} {f cl : Addr} {A : Around} {outer : List Env} {s : Shared} {H : Hp} {E : XK} {us : List Value} {vs : List V} {body : List Stmt}
theorem ini_start (S : IniS ps cl fd body) (e0 : Env0 P w K mg base A outer s H) (hl : vs.length = ps.length) (r : Vals vs us) (hc : ∃ oc od osl v, K.lookup cl = some ⟨oc, od, .cell v, osl⟩) {h₀ : Heap} {tk : Nat}
    (hns : h₀.Ns s.heap.objs.size fun x => (ps.zip us).reverse.lookup x) (kp : ∀ b o, s.heap.get? b = some o → h₀.get? b = some o) :
    Inv (cxI CX P w K mg base ps fd f A outer s H E) [] (L2.start ps vs) H { s with heap := h₀, toks := tk } := by
  have noA : ∀ b : Addr, b ∉ (cxI CX P w K mg base ps fd f A outer s H E).ex := fun b z => absurd (show b ∈ ([] : List Addr) from z) (by simp)
  have ce : ∀ {x c}, (cxI CX P w K mg base ps fd f A outer s H E).env.cells.lookup x = some c → x = "__class__" ∧ c = cl := fun {x c} h => by
    have h : fd.closure.lookup x = some c := h
    rw [S.clo] at h
    by_cases e : x = "__class__"
    · subst e
      simp [List.lookup] at h
      exact ⟨rfl, h.symm⟩
    · have e2 : (x == ("__class__" : Str)) = false := by simpa using e
      simp [List.lookup, e2] at h
  obtain ⟨oc, od, osl, cv, lcl⟩ := hc
  have KX : K.In base := e0.mod.kin
  have hcb := e0.bs cl _ (KX _ _ lcl)
  refine ⟨⟨e0.mod, S.kind, S.gl, S.bt, Nat.le_refl _, fun x y c h1 h2 => (ce h1).1.trans (ce h2).1.symm, fun x hx => ?_, fun x c z _ => Bool.noConfusion (show false = true from z), fun z => Bool.noConfusion (show false = true from z), Around.frames_deeper e0.frames, .inr ⟨rfl, rfl⟩, fun b z => absurd z (noA b), e0.bs, e0.bsz, fun b _ _ => noA b, fun b z => absurd z (noA b), e0.funs, e0.frf⟩,
    rfl, e0.bare, Un.kept kp, ⟨_, hns, fun i y v h1 h2 h3 => ?_⟩, fun x c h => ?_, e0.hok.fresh (Nat.le_refl _), fun x c h => by rw [(ce h).2]; exact hcb.2, fun q hq => absurd (show q ∈ ([] : List (Addr × Obj)) ++ [] from hq) (by simp), e0.hok.kept kp, ?_⟩
  · have hx : fd.scope.names.lookup x = some .cell ∨ fd.scope.names.lookup x = some .free := hx
    rcases hx with hx | hx
    · exact absurd rfl (S.nocell _ (PySem.mem_of_lookup hx))
    · rw [S.free x hx]
      refine ⟨cl, ?_⟩
      show fd.closure.lookup _ = _
      rw [S.clo]
      simp [List.lookup]
  · have h1 : ps[i]? = some y := h1
    have hi : i < vs.length := by
      rw [hl]
      exact (List.getElem?_eq_some_iff.mp h1).1
    have ha : vs[i]? = some v := by
      unfold L2.start at h2
      rw [List.getElem?_append_left (by simpa using hi), List.getElem?_map] at h2
      cases e : vs[i]? with
      | none => rw [e] at h2; cases h2
      | some a => rw [e] at h2; cases h2; rfl
    obtain ⟨u, hu, rv⟩ := r.get ha
    exact ⟨u, rv, .inl ⟨S.loc y (List.mem_of_getElem? h1), zip_rev_lookup S.nd h1 hu⟩⟩
  · rw [(ce h).2]
    exact ⟨cv, _, kp _ _ hcb.1, rfl⟩
  · unfold L2.start
    show _ = ps.length
    rw [List.length_append, List.length_map, List.length_replicate]
    omega
end
theorem superEv {env : PySem.Env} {p0 p1 p2 p4 p3 : Pos} {c0 : Str} {j0 : Nat} (h : (p2.endLine == p4.line) = true) : eval (.Call (.Attribute (.Call (.Name "super" p0) [] [] p1) "__init__" p2) [.Constant (.str c0) j0 p3] [] p4) env = (do
      let ov ← attributeBase (.Call (.Name "super" p0) [] [] p1) "__init__" env (eval (.Call (.Name "super" p0) [] [] p1) env)
      standAt p2.atName
      let (f, first) ← holding [ov] (getMethod ov "__init__" (do return (← importBound (.Call (.Name "super" p0) [] [] p1) env).getD true))
      callWith p4 f first (backTo p4 (starEach [.Constant (.str c0) j0 p3] env)) []) := by
  have e : ∀ fw : Bool, methodCallPos fw (.Call (.Name "super" p0) [] [] p1) env p2 p4 = pure p4 := fun fw => by
    unfold methodCallPos
    rw [h, Bool.or_true]
    rfl
  show (do
    let ov ← attributeBase (.Call (.Name "super" p0) [] [] p1) "__init__" env (eval (.Call (.Name "super" p0) [] [] p1) env)
    standAt p2.atName
    methodCall (.Call (.Name "super" p0) [] [] p1) "__init__" p2 p4 env ov 1 (backTo p4 (starEach [.Constant (.str c0) j0 p3] env)) []) = _
  unfold methodCall
  simp only [e, pure_bind]
  rfl
def tExst (K : PySem.W.Frag) (C : Addr) (B newId initId : String) (bm : List Value) (f : Str) (to te : TE) : TS := fun D σ H => te σ H fun y H1 => to σ H1 fun x H2 => ∃ a : Addr, x = .ref a ∧
  ((H2 a = some (exo a C none) ∧ ∀ dx, H2 dx = none → dx ≠ a → D.nx σ (upd (upd H2 dx (exd dx [(f, y)])) a (exo a C (some dx)))) ∨
    ∃ (dx : Addr) (fs : List (Str × V)), H2 a = some (exo a C (some dx)) ∧ H2 dx = some (exd dx fs) ∧ fs.length ≤ 900 ∧ D.nx σ (upd H2 dx (exd dx ((f, y) :: fs))))
theorem ps_exst {X : Cx} {C : Addr} {B newId initId : String} {bm : List Value} {o e : Expr} {to te : TE} {f : Str} {p' pos : Pos} (T : ExC X.K C B newId initId bm) (ht : PySem.W.takerIn X.K C f = some none) (ho : PE X o to) (he : PE X e te) (hs : swapsWith e (some (.Attribute o f p')) pos.line X.env = pure false := by rfl) :
    PS X (.Assign [.Attribute o f p'] e pos) (tExst X.K C B newId initId bm f to te) := by
  refine ⟨fun pins s σ H D I h => plainObj_wpAny_Assign_Attribute (thn (he.run pins s σ H _ I h) fun v s1 ⟨y, H1, I1, r1, q1⟩ => thn (ho.run pins s1 σ H1 _ I1 q1) fun u s2 ⟨x, H2, I2, r2, a, ex, q⟩ => ?_) hs⟩
  subst ex
  obtain rfl : u = Value.ref a := r2
  rcases q with ⟨ea, q⟩ | ⟨dx, fs, ea, ed, hl, q⟩
  · exact exst_new T I2 ea ht r1 fun dx s' n ne J => ⟨σ, _, J, q dx n ne⟩
  · exact exst_old T I2 ea ed hl ht r1 fun s' J => ⟨σ, _, J, q⟩
def errFs (code : Str) (g : Option Str) (ws : List V) : Option (List (Str × V)) := match g, ws with
  | some g, [v] => some [(g, v), (("code" : Str), .str code)]
  | none, [] => some [(("code" : Str), .str code)]
  | _, _ => none
theorem errFs_none {code : Str} {ws : List V} {fs : List (Str × V)} (h : errFs code none ws = some fs) : ws = [] ∧ fs = [(("code" : Str), .str code)] := by
  cases ws with
  | nil => cases h; exact ⟨rfl, rfl⟩
  | cons v ws => cases h
theorem errFs_some {code g : Str} {ws : List V} {fs : List (Str × V)} (h : errFs code (some g) ws = some fs) : ∃ v, ws = [v] ∧ fs = [(g, v), (("code" : Str), .str code)] := by
  cases ws with
  | nil => cases h
  | cons v ws =>
    cases ws with
    | nil => cases h; exact ⟨v, rfl, rfl⟩
    | cons u ws => cases h
def ErrAt (H H' : Hp) (a dx C : Addr) (fs : List (Str × V)) : Prop := H' a = some (exo a C (some dx)) ∧ H' dx = some (exd dx fs) ∧ ∀ b, b ≠ a → b ≠ dx → H' b = H b
def spErr (C : Addr) (code : Str) (g : Option Str) : Sp := fun vs H Q _ => ∃ a ws fs, vs = .ref a :: ws ∧ errFs code g ws = some fs ∧ H a = some (exo a C none) ∧ ∀ dx H', H dx = none → dx ≠ a → ErrAt H H' a dx C fs → Q .non H'
def errBody (code : Str) (g : Option Str) (body : List Stmt) : Prop := ∃ (p0 p1 p2 p3 p4 p5 q0 q1 q2 q3 : Pos) (j0 j1 : _) (c0 : Str) (rest : List Stmt), body = .Expr (.Call (.Attribute (.Call (.Name "super" p0) [] [] p1) "__init__" p2) [.Constant (.str c0) j0 p3] [] p4) p5 :: .Assign [.Attribute (.Name "self" q0) "code" q1] (.Constant (.str code) j1 q2) q3 :: rest ∧ (p2.endLine == p4.line) = true ∧
  match g with
  | some g => ∃ r0 r1 r2 r3 : Pos, rest = [.Assign [.Attribute (.Name "self" r0) g r1] (.Name g r2) r3] ∧ (g == ("__debug__" : Str)) = false ∧ (g == ("__classdict__" : Str)) = false
  | none => rest = []
def errPs (g : Option Str) : List Str := "self" :: g.toList
structure ErrD (P : Program) (K : PySem.W.Frag) (mg : Str → Option Value) (C : Addr) (code : Str) (g : Option Str) (f : Addr) (fd : FuncData) : Prop where
  ex : ∃ B newId initId bm, ExC K C B newId initId bm
  bd : ∃ cl body, IniS (errPs g) cl fd body ∧ errBody code g body ∧ ∃ oc od osl, K.lookup cl = some ⟨oc, od, .cell (some (.ref C)), osl⟩
  lk : ∃ oc od osl, K.lookup f = some ⟨oc, od, .func fd, osl⟩
  cd : PySem.W.codeIn K fd.code fd.qualname = true
  ks : fd.scope.names.lookup ("super" : Str) = some .globalImplicit
  kc : fd.scope.names.lookup ("__class__" : Str) = some .free
  ps : ∃ ar : Arg, (fd.params.posonlyargs ++ fd.params.args).head? = some ar ∧ ar.arg = "self"
  lc : ∃ cc oc od osl vs file tf, fd.code = .ref cc ∧ K.lookup cc = some ⟨oc, od, .fields vs, osl⟩ ∧ vs[2]? = some (.str file tf) ∧ ((P.main.file : Str) == file) = true
  ma : mg "super" = none
  to : (P.main.scope.names.lookup ("super" : Str)).isSome = false
  me : PySem.W.mroIn K C (.ref C) = some true
  t1 : PySem.W.takerIn K C "code" = some none
  t2 : ∀ x, g = some x → PySem.W.takerIn K C x = some none
section
variable {CX : CXT} {P : Program} {w : World} {K : PySem.W.Frag} {mg : Str → Option Value} {base : Heap} {fd : FuncData} {f C : Addr} {code : Str} {g : Option Str} {A : Around} {outer : List Env} {s : Shared} {H : Hp} {Q : VK} {E : XK} {us : List Value} {vs : List V} {args : Args}
theorem err_run (Z : ErrD P K mg C code g f fd) (hr : A.depth < recursionLimit) (e0 : Env0 P w K mg base A outer s H) (hbd : BindsTo s fd args ((errPs g).zip us)) (r : Vals vs us) (h : spErr C code g vs H Q E) :
    codeAny (model P w) A (.call (.ref f) args) (CR CX outer P w H s Q E) s := by
  obtain ⟨a, ws, fs, rfl, hfs, ha, hq⟩ := h
  obtain ⟨B, newId, initId, bm, T⟩ := Z.ex
  obtain ⟨cl, body, S, ⟨p0, p1, p2, p3, p4, p5, q0, q1, q2, q3, j0, j1, c0, rest, rfl, hpp, hrest⟩, lcl⟩ := Z.bd
  obtain ⟨oc, od, osl, lk⟩ := Z.lk
  obtain ⟨cc, oc2, od2, osl2, vs2, file, tf, hco, lc, hvs, hfile⟩ := Z.lc
  have KX : K.In s.heap := e0.mod.kin.keeps fun b o e => (e0.bs b o e).1
  have lim : s.heap.NoLimit := e0.mod.nolimit.keeps fun b o e => (e0.bs b o e).1
  have hl : (V.ref a :: ws).length = (errPs g).length := by
    unfold errFs at hfs
    unfold errPs
    split at hfs <;> first | rfl | cases hfs
  refine PySem.ks_codeAny_call_defAt (fd := fd) (binds := (errPs g).zip us) hr (KX _ _ lk) rfl lim (PySem.W.codeRec_of KX Z.cd) S.body hbd S.nocell (fun x hx => S.loc x.1 (List.of_mem_zip (show (x.1, x.2) ∈ _ from hx)).1) (fun h₀ hns kp => ?_) S.co S.gen S.kind
  have I : Inv (cxI CX P w K mg base (errPs g) fd f A outer s H E) [] (L2.start (errPs g) (V.ref a :: ws)) H { s with heap := h₀, toks := s.toks + ((errPs g).zip us).length } :=
    ini_start S e0 hl r (by obtain ⟨o1, o2, o3, l⟩ := lcl; exact ⟨o1, o2, o3, _, l⟩) hns kp
  have SC : SupC (cxI CX P w K mg base (errPs g) fd f A outer s H E) C f cl cc fd "self" :=
    ⟨Z.ks, Z.kc, rfl, hco, by show fd.closure.lookup _ = _; rw [S.clo]; simp [List.lookup], ⟨_, _, _, lk⟩, Z.ps, ⟨_, _, _, _, _, _, lc, hvs, hfile⟩, lcl, Z.ma, Z.to, Z.me⟩
  have hself : fd.scope.names.lookup ("self" : Str) = some .local := S.loc _ (by unfold errPs; exact List.mem_cons_self)
  have h0 : (L2.start (errPs g) (V.ref a :: ws))[0]? = some (some (.ref a)) := by
    unfold L2.start
    rfl
  have hin : interactive (callEnv fd s.heap.objs.size f) = false := by
    have hk : (callEnv fd s.heap.objs.size f).scope.kind = .function := S.kind
    unfold interactive
    rw [hk]
    rfl
  refine PySem.ks_wpAt_execs_cons (PySem.ks_wpAt_Expr_any ?_ hin)
  refine super_run T SC I rfl hself h0 ha pe_str ⟨Nat.le_refl 1, ha, fun s1 I1 => ?_⟩ (superEv hpp) rfl rfl
  refine wpAt_of_wpAny ?_
  have vself : Vis (cxI CX P w K mg base (errPs g) fd f A outer s H E).env.scope "self" := .inl hself
  have pself : ∀ p : Pos, PE (cxI CX P w K mg base (errPs g) fd f A outer s H E) (.Name "self" p) (tVar 0) := fun p => pe_var (i := 0) rfl vself (by decide) (by decide)
  have st1 := ps_exst (p' := q1) (pos := q3) T Z.t1 (pself q0) (pe_str (x := code) (j := j1) (pos := q2))
  have fin : ∀ (fl : Flow) (s' : Shared), SP (cxI CX P w K mg base (errPs g) fd f A outer s H E) [] { nx := fun _ H' => Q .non H', rt := fun v H' => Q v H' } fl s' → CR CX outer P w H s Q E (.ok (.ret (match fl with | .ret v => v | _ => .none))) s' := fun fl s' hs => by
    have go : ∀ {σ' : L2.St} {H' : Hp} {v : V} {u : Value}, Inv (cxI CX P w K mg base (errPs g) fd f A outer s H E) [] σ' H' s' → RelV v u → Q v H' → CE outer P w H s Q u s' :=
      fun {σ' H' v u} J rv q => ⟨v, H', J.os, J.bare, J.base, J.hok, rv, q⟩
    cases fl with
    | ret u =>
      obtain ⟨v, σ', H', J, rv, q⟩ := hs
      exact go J rv q
    | next =>
      obtain ⟨σ', H', J, q⟩ := hs
      exact go (v := V.non) (u := Value.none) J rfl q
    | brk =>
      obtain ⟨_, _, _, q⟩ := hs
      exact q.elim
    | cont =>
      obtain ⟨_, _, _, q⟩ := hs
      exact q.elim
  have old : ∀ {dx : Addr}, dx ≠ a → ∀ {y}, upd (upd H dx (exd dx [(("code" : Str), y)])) a (exo a C (some dx)) dx = some (exd dx [(("code" : Str), y)]) := fun {_} hd {_} => by rw [upd_ne hd, upd_same]
  cases g with
  | none =>
    obtain rfl := hrest
    obtain ⟨_, rfl⟩ := errFs_none hfs
    refine wpAny_mono ((pss_one st1).run [] s1 _ H { nx := fun _ H' => Q .non H', rt := fun v H' => Q v H' } I1 ⟨.ref a, h0, a, rfl, .inl ⟨ha, fun dx hn hd => hq dx _ hn hd ⟨upd_same, old hd, fun b h1 h2 => by rw [upd_ne h1, upd_ne h2]⟩⟩⟩) (fun fl s' hs => fin fl s' hs) fun e s' hs => hs
  | some g =>
    obtain ⟨r0, r1, r2, r3, rfl, hg1, hg2⟩ := hrest
    obtain ⟨v, rfl, rfl⟩ := errFs_some hfs
    have hg : fd.scope.names.lookup g = some .local := S.loc _ (by unfold errPs; simp)
    have h1 : (L2.start (errPs (some g)) [V.ref a, v])[1]? = some (some v) := by
      unfold L2.start
      rfl
    have pg : PE (cxI CX P w K mg base (errPs (some g)) fd f A outer s H E) (.Name g r2) (tVar 1) := pe_var (i := 1) rfl (.inl hg) hg1 hg2
    have st2 := ps_exst (p' := r1) (pos := r3) T (Z.t2 g rfl) (pself r0) pg
    refine wpAny_mono ((pss_cons st1 (pss_one st2)).run [] s1 _ H { nx := fun _ H' => Q .non H', rt := fun v H' => Q v H' } I1 ⟨.ref a, h0, a, rfl, .inl ⟨ha, fun dx hn hd => ⟨v, h1, .ref a, h0, a, rfl, .inr ⟨dx, _, upd_same, old hd, by show 1 ≤ 900; omega, hq dx _ hn hd ⟨by rw [upd_ne hd.symm, upd_same], upd_same, fun b h1 h2 => by rw [upd_ne h2, upd_ne h1, upd_ne h2]⟩⟩⟩⟩⟩) (fun fl s' hs => fin fl s' hs) fun e s' hs => hs
end
section
variable {X : Cx} {C f : Addr} {code x : Str} {g : Option Str} {fd : FuncData} {e : Expr} {es : List Expr} {ta : TA} {p pos : Pos}
end
end PD
namespace PD
open PySem PySem.Spec PyProof.Rows L2
def errFsD (code : Str) (g : Option Str) (ds : List D) : Option (List (Str × D)) := match g, ds with
  | some g, [d] => some [(g, d), (("code" : Str), .str code)]
  | none, [] => some [(("code" : Str), .str code)]
  | _, _ => none
theorem errFsD_rep {K : PySem.W.Frag} {S : Hp} {code : Str} {g : Option Str} {ds : List D} {vs : List V} {fd : List (Str × D)} (r : Reps K S ds vs) (h : errFsD code g ds = some fd) : ∃ fs, errFs code g vs = some fs ∧ RepF K S fd fs := by
  have one : ∀ {k : Str} {d : D} {v : V} {fd : List (Str × D)} {fs : List (Str × V)}, Rep K S d v → RepF K S fd fs → RepF K S ((k, d) :: fd) ((k, v) :: fs) := fun {k d v fd fs} h r => by
    refine ⟨by rw [List.map_cons, List.map_cons, r.1], fun i a b c e h1 h2 => ?_⟩
    cases i with
    | zero => simp at h1 h2; obtain ⟨rfl, rfl⟩ := h1; obtain ⟨rfl, rfl⟩ := h2; exact h
    | succ i => simp at h1 h2; exact r.2 i a b c e h1 h2
  have c1 : RepF K S [(("code" : Str), .str code)] [(("code" : Str), .str code)] := one (.str code) RepF.nil
  cases g with
  | none =>
    cases ds with
    | nil =>
      rw [r.inv_nil]
      cases h
      exact ⟨_, rfl, c1⟩
    | cons d ds => cases h
  | some g =>
    cases ds with
    | nil => cases h
    | cons d ds =>
      cases ds with
      | nil =>
        obtain ⟨v, ys, rfl, h1, h2⟩ := r.inv_cons
        rw [h2.inv_nil]
        cases h
        exact ⟨_, rfl, one h1 c1⟩
      | cons _ _ => cases h
section
variable {X : Cx} {F : Fm} {W : WX} {e : Expr} {es : List Expr} {C : Addr} {code : Str} {g : Option Str} {u : WA} {pos : Pos}
end
end PD
namespace PD
open PySem PySem.Spec PyProof.Rows L2
structure CTok where
  P : Program
  w : World
  mg : Str → Option Value
  base : Heap
  lv : Nat
inductive Out where
  | ret (d : D) | exc (x : DX)
def Out.post (K : PySem.W.Frag) (S H : Hp) (σ : L2.St) (Q : VK) (W : WX) : Out → Prop
  | .ret d => ∀ S' H' v, R0 ⟨H, S, none, none, []⟩ S' H' → Rep K S' d v → Q v H'
  | .exc x => ∀ S' H' cls od, R0 ⟨H, S, none, none, []⟩ S' H' → RepX K S' x cls od → W cls od σ H'
def CloRuns (tk : CTok) (K : PySem.W.Frag) (S0 : Hp) (f : Addr) (o : Out) : Prop :=
  ∀ (X : Cx), X.prog = tk.P → X.w = tk.w → X.K = K → X.mg = tk.mg → X.base = tk.base → Room tk.lv X.A → ∀ (W : WX), Takes X W → ∀ (pins : List (Addr × Obj)) (s : Shared) (σ : L2.St) (H S : Hp) (Q : VK) (pos : Pos), Inv X pins σ H s → Ex S0 S → Ex S H →
    o.post K S H σ Q W → wpAny (model X.prog X.w) X.A (callWith pos (.ref f) [] [] []) (EP X pins σ Q) X.xe s
def cloX (tk : CTok) (o : Out) : Xt where
  at_ := fun K H a => CloRuns tk K H a o
  mono := fun K H H' a e h X h1 h2 h3 h4 h5 hr W t pins s σ H2 S Q pos I e2 => h X h1 h2 h3 h4 h5 hr W t pins s σ H2 S Q pos I (e.trans e2)
section
variable {X : Cx} {F : Fm} {W : WX} {p pos : Pos} {x : Str} {tk : CTok}
end
section
variable {X : Cx} {x1 x2 x3 n : Str} {c1 c2 c3 : Value} {i : Nat} {body suite : List Stmt} {b₀ : Stmt} {kk : _} {n1 n2 n3 np pos pos' : Pos} {tb : WX → TS} {ts : Addr → Value → Option Addr → TS}
end
structure Caught (X : Cx) (a0 d0 C0 : Addr) : Prop where
  ex : ∃ oe : Obj, (a0, oe) ∈ X.pn ∧ Zc (.ref C0) (some d0) oe ∧ ∃ vs, oe.data = .fields vs
section
variable {X : Cx} {F : Fm} {W : WX} {e : Expr} {pos : Pos} {f : Str} {w : WE} {a0 d0 C0 : Addr}
end
structure FnQ (P : Program) (w : World) (K : PySem.W.Frag) (mg : Str → Option Value) (base : Heap) (k : Nat) (f : Addr) (fd : FuncData) (ps : List Str) (p : Addr × Obj) (sp : Sp) : Prop where
  len : ∀ vs H Q E, sp vs H Q E → vs.length = ps.length
  run : ∀ (A : Around) (outer : List Env) (s : Shared) (H : Hp) (args : Args) (us : List Value) (vs : List V) (Q : VK) (E : XK), L2H.RoomH k A → L2H.PinOk outer H s p → Env0 P w K mg base A outer s H → BindsTo s fd args (ps.zip us) → Vals vs us → sp vs H Q E →
    codeAny (model P w) A (.call (.ref f) args) (CR (L2.CX P w) outer P w H s Q E) s
section
variable {P : Program} {w : World} {K : PySem.W.Frag} {mg : Str → Option Value} {base : Heap} {p : Addr × Obj}
end
end PD
namespace PF
open PySem PySem.Spec PyProof.Rows L2 PD
inductive A where
  | non | bl (b : Bool) | int (i : Int) | str (l : List Nat) | ty (n : String) | ref (a : Addr)
  | tup (xs : List A) | lst (xs : List A) | dic (ks vs : List A) | obj (C : Nat) (ks : List Nat) (vs : List A)
  /-- a dict whose keys are tuples; an exception; a lambda; a lambda of which it is known what it gives, raises -/
  | dit (ks vs : List A) | exn (C : Nat) (ks : List Nat) (vs : List A) | lam (i : Nat) | cret (a : A) | cexc (C : Nat) (ks : List Nat) (vs : List A)
  /-- a tuple made to be a key -/
  | tk (ks : List A)
deriving Inhabited
structure AX where
  cls : Nat
  ks : List Nat
  vs : List A
structure CM where
  cls : Nat → Addr
  fld : Nat → Str
  inj : ∀ i j, fld i = fld j → i = j
  /-- the name that holds the def's own object under change -/
  slf : Option Nat
  /-- lambdas of the law; lambdas of which it is known what they give, raise -/
  lam : Nat → Xt
  cret : D → Xt
  cexc : Addr → List (Str × D) → Xt
  /-- exceptions as values -/
  exn : Addr → List (Str × D) → Xt
def mkFld (names : List (List Nat)) (n : Nat) : Str := tx (names[n]?.getD [n])
theorem mkFld_inj {names : List (List Nat)} (hd : names.Nodup) (hl : (names.all fun l => decide (2 ≤ l.length)) = true) : ∀ i j, mkFld names i = mkFld names j → i = j := fun i j h => by
  have h : names[i]?.getD [i] = names[j]?.getD [j] := tx_inj.mp h
  rw [List.all_eq_true] at hl
  have two : ∀ {k : Nat} {l : List Nat}, names[k]? = some l → 2 ≤ l.length := fun e => of_decide_eq_true (hl _ (List.mem_of_getElem? e))
  cases e1 : names[i]? with
  | none =>
    cases e2 : names[j]? with
    | none =>
      rw [e1, e2] at h
      simpa using h
    | some l =>
      rw [e1, e2] at h
      have h : [i] = l := h
      have := two e2
      rw [← h] at this
      simp at this
  | some l =>
    cases e2 : names[j]? with
    | none =>
      rw [e1, e2] at h
      have h : l = [j] := h
      have := two e1
      rw [h] at this
      simp at this
    | some m =>
      rw [e1, e2] at h
      have h : l = m := h
      subst h
      obtain ⟨h1, h2⟩ := List.getElem?_eq_some_iff.mp e1
      obtain ⟨h3, h4⟩ := List.getElem?_eq_some_iff.mp e2
      exact (List.getElem_inj hd).mp (h2.trans h4.symm)
def CM.self (cm : CM) : CM := { cm with slf := some 0 }
def keyD : A → Key
  | .int i => .inl i
  | .str l => .inr (tx l)
  | _ => .inl 0
def keyT : A → List Key
  | .tup xs => xs.map keyD
  | _ => []
mutual
def toD (cm : CM) : A → D
  | .non => .non
  | .bl b => .bl b
  | .int i => .int i
  | .str l => .str (tx l)
  | .ty n => .ty n
  | .ref a => .ref a
  | .tup xs => .tup (toDs cm xs)
  | .lst xs => .lst (toDs cm xs)
  | .dic ks vs => .dic ((ks.map keyD).zip (toDs cm vs))
  | .obj C ks vs => .obj (cm.cls C) ((ks.map cm.fld).zip (toDs cm vs))
  | .dit ks vs => .ext (ditX ((ks.map keyT).zip (toDs cm vs)))
  | .exn C ks vs => .ext (cm.exn (cm.cls C) ((ks.map cm.fld).zip (toDs cm vs)))
  | .lam i => .ext (cm.lam i)
  | .cret a => .ext (cm.cret (toD cm a))
  | .cexc C ks vs => .ext (cm.cexc (cm.cls C) ((ks.map cm.fld).zip (toDs cm vs)))
  | .tk ks => .ext (tkX (ks.map keyD))
def toDs (cm : CM) : List A → List D
  | [] => []
  | x :: xs => toD cm x :: toDs cm xs
end
def toX (cm : CM) (x : AX) : DX := ⟨cm.cls x.cls, (x.ks.map cm.fld).zip (toDs cm x.vs)⟩
section
variable (cm : CM)
theorem toDs_map : ∀ xs : List A, toDs cm xs = xs.map (toD cm)
  | [] => rfl
  | x :: xs => by
    unfold toDs
    rw [toDs_map xs]
    rfl
theorem toDs_len (xs : List A) : (toDs cm xs).length = xs.length := by rw [toDs_map]; simp
theorem toDs_app (xs ys : List A) : toDs cm (xs ++ ys) = toDs cm xs ++ toDs cm ys := by simp [toDs_map]
theorem toDs_get (xs : List A) (i : Nat) : (toDs cm xs)[i]? = (xs[i]?).map (toD cm) := by rw [toDs_map, List.getElem?_map]
theorem toD_tup (xs : List A) : toD cm (.tup xs) = .tup (toDs cm xs) := by unfold toD; rfl
theorem toD_lst (xs : List A) : toD cm (.lst xs) = .lst (toDs cm xs) := by unfold toD; rfl
end
inductive T (α : Type) where
  | ret (a : α) | exc (x : AX) | bad | draw (b : Addr) (m : Int) (k : Int → T α)
namespace T
variable {α β γ : Type}
def bind : T α → (α → T β) → T β
  | .ret a, f => f a
  | .exc x, _ => .exc x
  | .bad, _ => .bad
  | .draw b m k, f => .draw b m fun i => (k i).bind f
def opt : Option α → T α
  | some a => .ret a
  | none => .bad
def calm : T α → T α
  | .ret a => .ret a
  | .exc _ => .bad
  | .bad => .bad
  | .draw b m k => .draw b m fun i => (k i).calm
def wp (bg : Option Addr) : T α → (α → Prop) → (AX → Prop) → Prop
  | .ret a, q, _ => q a
  | .exc x, _, e => e x
  | .bad, _, _ => False
  | .draw b m k, q, e => (bg = some b ∧ 0 < m ∧ m < 1073741824) ∧ ∀ i, 0 ≤ i → i < m → (k i).wp bg q e
@[simp] theorem ret_bind (a : α) (f : α → T β) : (T.ret a).bind f = f a := rfl
@[simp] theorem exc_bind (x : AX) (f : α → T β) : (T.exc x : T α).bind f = .exc x := rfl
@[simp] theorem bad_bind (f : α → T β) : (T.bad : T α).bind f = .bad := rfl
@[simp] theorem opt_some (a : α) : opt (some a) = .ret a := rfl
@[simp] theorem opt_none : opt (none : Option α) = .bad := rfl
variable {bg : Option Addr}
theorem wp_bind (t : T α) (f : α → T β) (q : β → Prop) (e : AX → Prop) : (t.bind f).wp bg q e = t.wp bg (fun a => (f a).wp bg q e) e := by
  induction t with
  | ret a => rfl
  | exc x => rfl
  | bad => rfl
  | draw b m k ih =>
    show (_ ∧ _) = (_ ∧ _)
    simp only [ih]
theorem wp_mono {t : T α} {q q' : α → Prop} {e e' : AX → Prop} (h : t.wp bg q e) (hq : ∀ a, q a → q' a) (he : ∀ x, e x → e' x) : t.wp bg q' e' := by
  induction t with
  | ret a => exact hq a h
  | exc x => exact he x h
  | bad => exact h.elim
  | draw b m k ih => exact ⟨h.1, fun i h0 h1 => ih i (h.2 i h0 h1)⟩
theorem wp_opt {o : Option α} {q : α → Prop} {e : AX → Prop} (h : (opt o).wp bg q e) : ∃ a, o = some a ∧ q a := by
  cases o with
  | none => exact h.elim
  | some a => exact ⟨a, rfl, h⟩
theorem wp_calm {t : T α} {q : α → Prop} {e e' : AX → Prop} (h : t.calm.wp bg q e) : t.wp bg q e' := by
  induction t with
  | ret a => exact h
  | exc x => exact h.elim
  | bad => exact h.elim
  | draw b m k ih => exact ⟨h.1, fun i h0 h1 => ih i (h.2 i h0 h1)⟩
end T
abbrev Env := List (Option A)
def ownD (cm : CM) : A → SV
  | .lst xs => .own (toDs cm xs)
  | .dic ks vs => .ownK ((ks.map keyD).zip (toDs cm vs))
  | .obj C ks vs => .ownO (cm.cls C) ((ks.map cm.fld).zip (toDs cm vs))
  | .dit ks vs => .ownX (ditY ((ks.map keyT).zip (toDs cm vs)))
  | a => .val (toD cm a)
def slfD (cm : CM) : A → SV
  | .obj C ks vs => .slf (cm.cls C) ((ks.map cm.fld).zip (toDs cm vs))
  | a => ownD cm a
def ownI (cm : CM) (i : Nat) (a : A) : SV := if cm.slf == some i then slfD cm a else ownD cm a
def mixAt (cm : CM) (O : List Nat) (i : Nat) (x : Option A) : Option SV := x.map fun a => if O.contains i then ownI cm i a else .val (toD cm a)
def mix (cm : CM) (O : List Nat) (env : Env) : DSt := env.mapIdx (mixAt cm O)
section
variable {cm : CM} {O : List Nat} {env : Env} {i : Nat}
theorem mix_get : (mix cm O env)[i]? = (env[i]?).map (mixAt cm O i) := by
  unfold mix
  rw [List.getElem?_mapIdx]
theorem mix_len : (mix cm O env).length = env.length := by
  unfold mix
  simp
theorem mix_set (x : Option A) : (mix cm O env).set i (mixAt cm O i x) = mix cm O (env.set i x) := by
  apply List.ext_getElem?
  intro j
  by_cases e : i = j
  · subst e
    by_cases h : i < env.length
    · rw [List.getElem?_set_self (by rw [mix_len]; exact h), mix_get, List.getElem?_set_self h]
      rfl
    · rw [List.getElem?_eq_none (by rw [List.length_set, mix_len]; omega), mix_get, List.getElem?_eq_none (by rw [List.length_set]; omega)]
      rfl
  · rw [List.getElem?_set_ne e, mix_get, mix_get, List.getElem?_set_ne e]
theorem mix_congr {O' : List Nat} (h : ∀ i, O.contains i = O'.contains i) : mix cm O env = mix cm O' env := by
  apply List.ext_getElem?
  intro j
  rw [mix_get, mix_get]
  have : mixAt cm O j = mixAt cm O' j := by
    funext x
    unfold mixAt
    rw [h j]
  rw [this]
theorem mixAt_val {a : A} (h : O.contains i = false) : mixAt cm O i (some a) = some (.val (toD cm a)) := by
  unfold mixAt
  rw [h]
  rfl
theorem mixAt_ownI {a : A} (h : O.contains i = true) : mixAt cm O i (some a) = some (ownI cm i a) := by
  unfold mixAt
  rw [h]
  rfl
theorem ownI_eq {a : A} (hs : (cm.slf == some i) = false) : ownI cm i a = ownD cm a := by
  unfold ownI
  rw [hs]
  rfl
theorem ownI_lst (xs : List A) : ownI cm i (.lst xs) = ownD cm (.lst xs) := by
  unfold ownI
  split <;> rfl
theorem ownD_d (a : A) : (ownD cm a).d = toD cm a := by
  cases a <;> rfl
theorem slfD_d (a : A) : (slfD cm a).d = toD cm a := by
  cases a <;> rfl
theorem ownI_d (a : A) : (ownI cm i a).d = toD cm a := by
  unfold ownI
  split
  · exact slfD_d a
  · exact ownD_d a
theorem mixAt_d {a : A} : ∃ y, mixAt cm O i (some a) = some y ∧ y.d = toD cm a := by
  cases h : O.contains i with
  | true => exact ⟨_, mixAt_ownI h, ownI_d a⟩
  | false => exact ⟨_, mixAt_val h, rfl⟩
end
section
variable {cm : CM} {K : PySem.W.Frag} {F : Fm} {S H : Hp} {σ : L2.St} {env : Env} {O : List Nat}
theorem restOwnK {ρ : DSt} {j : Nat} {kvs : List (Key × D)} (r : R K F S ρ σ H) (h : ρ[j]? = some (some (.ownK kvs))) : ∃ S', Ex S S' ∧ R K F S' (ρ.set j (some (.val (.dic kvs)))) σ H := by
  obtain ⟨a, es, ha, p1, p2, hH, g5⟩ := r.ownK h
  have eS : Ex S (upd S a (.dK es)) := Ex.new p2
  exact ⟨_, eS, r.restAny h trivial ha hH (.dic (.inl upd_same) (g5.mono eS).1 (g5.mono eS).2)⟩
theorem restOwnO {ρ : DSt} {j : Nat} {C : Addr} {fs : List (Str × D)} (r : R K F S ρ σ H) (h : ρ[j]? = some (some (.ownO C fs))) : ∃ S', Ex S S' ∧ R K F S' (ρ.set j (some (.val (.obj C fs)))) σ H := by
  obtain ⟨a, dx, gs, ha, p1, p2, hH, g5⟩ := r.ownO h
  have eS : Ex S (upd S a (.ins C dx gs)) := Ex.new p2
  exact ⟨_, eS, r.restAny h trivial ha hH (.obj upd_same (g5.mono eS).1 (g5.mono eS).2)⟩
theorem restSlf {ρ : DSt} {j : Nat} {C : Addr} {fs : List (Str × D)} (r : R K F S ρ σ H) (h : ρ[j]? = some (some (.slf C fs))) : ∃ S', Ex S S' ∧ R K F S' (ρ.set j (some (.val (.obj C fs)))) σ H := by
  obtain ⟨a, dx, gs, ha, p1, p2, hH, g5⟩ := r.slf h
  have eS : Ex S (upd S a (.ins C dx gs)) := Ex.new p2
  exact ⟨_, eS, r.restAny h trivial ha hH (.obj upd_same (g5.mono eS).1 (g5.mono eS).2)⟩
theorem restOwnX {ρ : DSt} {j : Nat} {y : Yt} (r : R K F S ρ σ H) (h : ρ[j]? = some (some (.ownX y))) : ∃ S', Ex S S' ∧ R K F S' (ρ.set j (some (.val (.ext y.x)))) σ H := by
  obtain ⟨a, u, ha, p1, p2, hH, g5, _⟩ := r.at_ h trivial
  have eS : Ex S (upd S a u) := Ex.new p2
  exact ⟨_, eS, r.restAny h trivial ha hH (.ext (y.rest _ _ _ _ (y.mono _ _ _ _ eS g5) upd_same))⟩
theorem contains_drop {O : List Nat} {i j : Nat} : (O.filter (· != i)).contains j = (O.contains j && (j != i)) := by
  rw [Bool.eq_iff_iff]
  simp
theorem mix_drop {i : Nat} {y : SV} (h : (mix cm O env)[i]? = some (some y)) : (mix cm O env).set i (some (.val y.d)) = mix cm (O.filter (· != i)) env := by
  apply List.ext_getElem?
  intro j
  have hi : i < (mix cm O env).length := (List.getElem?_eq_some_iff.mp h).1
  by_cases e : i = j
  · subst e
    rw [List.getElem?_set_self hi, mix_get]
    rw [mix_get] at h
    cases g : env[i]? with
    | none => rw [g] at h; cases h
    | some x =>
      rw [g] at h
      cases x with
      | none => cases h
      | some a =>
        have h : mixAt cm O i (some a) = some y := by simpa using h
        obtain ⟨y', e1, e2⟩ := mixAt_d (cm := cm) (O := O) (i := i) (a := a)
        rw [h] at e1
        cases e1
        show some (some (SV.val y.d)) = some (mixAt cm (O.filter (· != i)) i (some a))
        rw [mixAt_val (by rw [contains_drop]; simp), e2]
  · rw [List.getElem?_set_ne e, mix_get, mix_get]
    have : mixAt cm O j = mixAt cm (O.filter (· != i)) j := by
      funext x
      unfold mixAt
      have e2 : (O.filter (· != i)).contains j = O.contains j := by
        rw [contains_drop]
        have : (j != i) = true := by simpa using fun z => e z.symm
        rw [this, Bool.and_true]
      rw [e2]
    rw [this]
theorem frz1 (i : Nat) (r : R K F S (mix cm O env) σ H) : ∃ S', Ex S S' ∧ R K F S' (mix cm (O.filter (· != i)) env) σ H := by
  cases h : (mix cm O env)[i]? with
  | none =>
    refine ⟨S, Ex.refl S, ?_⟩
    have e : mix cm (O.filter (· != i)) env = mix cm O env := by
      apply List.ext_getElem?
      intro j
      by_cases e : i = j
      · subst e
        rw [h, mix_get]
        rw [mix_get] at h
        cases g : env[i]? with
        | none => rfl
        | some x => rw [g] at h; cases h
      · rw [mix_get, mix_get]
        have : mixAt cm (O.filter (· != i)) j = mixAt cm O j := by
          funext x
          unfold mixAt
          have e2 : (O.filter (· != i)).contains j = O.contains j := by
            rw [contains_drop]
            have : (j != i) = true := by simpa using fun z => e z.symm
            rw [this, Bool.and_true]
          rw [e2]
        rw [this]
    rw [e]
    exact r
  | some o =>
    cases o with
    | none =>
      have e : mix cm (O.filter (· != i)) env = mix cm O env := by
        apply List.ext_getElem?
        intro j
        by_cases e : i = j
        · subst e
          rw [h, mix_get]
          rw [mix_get] at h
          cases g : env[i]? with
          | none => rw [g] at h; cases h
          | some x =>
            cases x with
            | none => rfl
            | some a =>
              rw [g] at h
              obtain ⟨y', e1, e2⟩ := mixAt_d (cm := cm) (O := O) (i := i) (a := a)
              have h : mixAt cm O i (some a) = none := by simpa using h
              rw [h] at e1
              cases e1
        · rw [mix_get, mix_get]
          have : mixAt cm (O.filter (· != i)) j = mixAt cm O j := by
            funext x
            unfold mixAt
            have e2 : (O.filter (· != i)).contains j = O.contains j := by
              rw [contains_drop]
              have : (j != i) = true := by simpa using fun z => e z.symm
              rw [this, Bool.and_true]
            rw [e2]
          rw [this]
      rw [e]
      exact ⟨S, Ex.refl S, r⟩
    | some y =>
      rw [← mix_drop h]
      cases y with
      | val d =>
        have e : (mix cm O env).set i (some (.val d)) = mix cm O env := by
          apply List.ext_getElem?
          intro j
          by_cases e : i = j
          · subst e
            rw [List.getElem?_set_self (List.getElem?_eq_some_iff.mp h).1, h]
          · rw [List.getElem?_set_ne e]
        show ∃ S', Ex S S' ∧ R K F S' ((mix cm O env).set i (some (.val d))) σ H
        rw [e]
        exact ⟨S, Ex.refl S, r⟩
      | own ds =>
        obtain ⟨a, xs, h1, h2, h3, h4, h5⟩ := r.own h
        exact ⟨_, Ex.new h3, r.restOwn h h1 h4⟩
      | ownK kvs => exact restOwnK r h
      | ownO C fs => exact restOwnO r h
      | slf C fs => exact restSlf r h
      | ownX y => exact restOwnX r h
def less (O L : List Nat) : List Nat := O.filter fun j => !L.contains j
theorem frz : ∀ (L : List Nat) {O : List Nat} {S : Hp}, R K F S (mix cm O env) σ H → ∃ S', Ex S S' ∧ R K F S' (mix cm (less O L) env) σ H
  | [], O, S, r => by
    refine ⟨S, Ex.refl S, ?_⟩
    rw [mix_congr (O := less O []) (O' := O)]
    · exact r
    · intro i
      unfold less
      rw [Bool.eq_iff_iff]
      simp
  | l :: L, O, S, r => by
    obtain ⟨S1, e1, r1⟩ := frz1 l r
    obtain ⟨S2, e2, r2⟩ := frz L r1
    refine ⟨S2, e1.trans e2, ?_⟩
    rw [mix_congr (O := less O (l :: L)) (O' := less (O.filter (· != l)) L)]
    · exact r2
    · intro i
      unfold less
      rw [Bool.eq_iff_iff]
      simp
      exact fun _ => And.comm
def sub (O' O : List Nat) : Bool := O'.all fun i => O.contains i
theorem frzTo {O' : List Nat} (hs : sub O' O = true) (r : R K F S (mix cm O env) σ H) : ∃ S', Ex S S' ∧ R K F S' (mix cm O' env) σ H := by
  obtain ⟨S', e, r'⟩ := frz (less O O') r
  refine ⟨S', e, ?_⟩
  rw [mix_congr (O := O') (O' := less O (less O O'))]
  · exact r'
  · intro i
    unfold less
    unfold sub at hs
    rw [Bool.eq_iff_iff]
    simp at hs ⊢
    exact ⟨fun h => ⟨hs i h, .inr h⟩, fun h => h.2.resolve_left fun z => z h.1⟩
end
end PF
namespace PF
open PySem PySem.Spec PyProof.Rows L2 PD
def okd : Nat → A → Bool
  | _, .non => true
  | _, .bl _ => true
  | _, .int _ => true
  | _, .str _ => true
  | n + 1, .tup xs => xs.all (okd n)
  | n + 1, .lst xs => xs.all (okd n)
  | _, _ => false
mutual
def eqv : A → A → Bool
  | .non, .non => true
  | .bl a, .bl b => a == b
  | .bl a, .int j => decide ((if a then 1 else 0) = j)
  | .int i, .bl b => decide (i = (if b then 1 else 0))
  | .int i, .int j => decide (i = j)
  | .str x, .str y => decide (x = y)
  | .lst xs, .lst ys => eqvs xs ys
  | .tup xs, .tup ys => eqvs xs ys
  | _, _ => false
def eqvs : List A → List A → Bool
  | [], [] => true
  | x :: xs, y :: ys => eqv x y && eqvs xs ys
  | _, _ => false
end
section
variable (cm : CM)
mutual
theorem okd_toP : ∀ (n : Nat) (a : A), okd n a = true → ∃ p, toP (toD cm a) = some p ∧ p.depth ≤ n
  | n, .non, h => ⟨.none, by unfold toD toP; rfl, Nat.zero_le _⟩
  | n, .bl b, h => ⟨.bool b, by unfold toD toP; rfl, Nat.zero_le _⟩
  | n, .int b, h => ⟨.int b, by unfold toD toP; rfl, Nat.zero_le _⟩
  | n, .str b, h => ⟨.str (tx b), by unfold toD toP; rfl, Nat.zero_le _⟩
  | 0, .tup xs, h => by unfold okd at h; cases h
  | 0, .lst xs, h => by unfold okd at h; cases h
  | n + 1, .tup xs, h => by
    unfold okd at h
    obtain ⟨ps, h1, h2⟩ := okds_toP n xs h
    refine ⟨.tuple ps, ?_, ?_⟩
    · rw [toD_tup]; unfold toP; rw [h1]
    · unfold PyData.depth; omega
  | n + 1, .lst xs, h => by
    unfold okd at h
    obtain ⟨ps, h1, h2⟩ := okds_toP n xs h
    refine ⟨.list ps, ?_, ?_⟩
    · rw [toD_lst]; unfold toP; rw [h1]
    · unfold PyData.depth; omega
  | n, .ty _, h => by cases n <;> unfold okd at h <;> cases h
  | n, .ref _, h => by cases n <;> unfold okd at h <;> cases h
  | n, .dic _ _, h => by cases n <;> unfold okd at h <;> cases h
  | n, .obj _ _ _, h => by cases n <;> unfold okd at h <;> cases h
  | n, .dit _ _, h => by cases n <;> unfold okd at h <;> cases h
  | n, .exn _ _ _, h => by cases n <;> unfold okd at h <;> cases h
  | n, .lam _, h => by cases n <;> unfold okd at h <;> cases h
  | n, .cret _, h => by cases n <;> unfold okd at h <;> cases h
  | n, .cexc _ _ _, h => by cases n <;> unfold okd at h <;> cases h
  | n, .tk _, h => by cases n <;> unfold okd at h <;> cases h
theorem okds_toP : ∀ (n : Nat) (xs : List A), xs.all (okd n) = true → ∃ ps, toPs (toDs cm xs) = some ps ∧ PyData.depthAll ps ≤ n
  | n, [], h => ⟨[], by unfold toDs toPs; rfl, Nat.zero_le _⟩
  | n, x :: xs, h => by
    rw [List.all_cons, Bool.and_eq_true] at h
    obtain ⟨p, h1, h2⟩ := okd_toP n x h.1
    obtain ⟨ps, h3, h4⟩ := okds_toP n xs h.2
    refine ⟨p :: ps, ?_, ?_⟩
    · unfold toDs toPs; rw [h1, h3]
    · unfold PyData.depthAll; omega
end
theorem toP_lst {xs : List A} {p : PyData} (h : toP (toD cm (.lst xs)) = some p) : ∃ ps, toPs (toDs cm xs) = some ps ∧ p = .list ps := by
  rw [toD_lst] at h
  unfold toP at h
  cases e : toPs (toDs cm xs) with
  | none => rw [e] at h; cases h
  | some ps => rw [e] at h; cases h; exact ⟨ps, rfl, rfl⟩
theorem toP_tup {xs : List A} {p : PyData} (h : toP (toD cm (.tup xs)) = some p) : ∃ ps, toPs (toDs cm xs) = some ps ∧ p = .tuple ps := by
  rw [toD_tup] at h
  unfold toP at h
  cases e : toPs (toDs cm xs) with
  | none => rw [e] at h; cases h
  | some ps => rw [e] at h; cases h; exact ⟨ps, rfl, rfl⟩
theorem toP_leaf {a : A} {p : PyData} (h : toP (toD cm a) = some p) : (a = .non ∧ p = .none) ∨ (∃ b, a = .bl b ∧ p = .bool b) ∨ (∃ i, a = .int i ∧ p = .int i) ∨ (∃ l, a = .str l ∧ p = .str (tx l)) ∨ (∃ xs ps, a = .lst xs ∧ p = .list ps ∧ toPs (toDs cm xs) = some ps) ∨ (∃ xs ps, a = .tup xs ∧ p = .tuple ps ∧ toPs (toDs cm xs) = some ps) := by
  cases a with
  | non => unfold toD toP at h; cases h; exact .inl ⟨rfl, rfl⟩
  | bl b => unfold toD toP at h; cases h; exact .inr (.inl ⟨b, rfl, rfl⟩)
  | int b => unfold toD toP at h; cases h; exact .inr (.inr (.inl ⟨b, rfl, rfl⟩))
  | str b => unfold toD toP at h; cases h; exact .inr (.inr (.inr (.inl ⟨b, rfl, rfl⟩)))
  | lst xs =>
    obtain ⟨ps, h1, rfl⟩ := toP_lst cm h
    exact .inr (.inr (.inr (.inr (.inl ⟨xs, ps, rfl, rfl, h1⟩))))
  | tup xs =>
    obtain ⟨ps, h1, rfl⟩ := toP_tup cm h
    exact .inr (.inr (.inr (.inr (.inr ⟨xs, ps, rfl, rfl, h1⟩))))
  | ty n => unfold toD toP at h; cases h
  | ref n => unfold toD toP at h; cases h
  | dic a b => unfold toD toP at h; cases h
  | obj a b c => unfold toD toP at h; cases h
  | dit a b => unfold toD toP at h; cases h
  | exn a b c => unfold toD toP at h; cases h
  | lam a => unfold toD toP at h; cases h
  | cret a => unfold toD toP at h; cases h
  | cexc a b c => unfold toD toP at h; cases h
  | tk a => unfold toD toP at h; cases h
theorem toPs_cons {x : A} {xs : List A} {ps : List PyData} (h : toPs (toDs cm (x :: xs)) = some ps) : ∃ p qs, toP (toD cm x) = some p ∧ toPs (toDs cm xs) = some qs ∧ ps = p :: qs := by
  unfold toDs toPs at h
  cases e1 : toP (toD cm x) with
  | none => rw [e1] at h; cases h
  | some p =>
    cases e2 : toPs (toDs cm xs) with
    | none => rw [e1, e2] at h; cases h
    | some qs => rw [e1, e2] at h; cases h; exact ⟨p, qs, rfl, rfl, rfl⟩
mutual
theorem eqv_of : ∀ (a b : A) (p q : PyData), toP (toD cm a) = some p → toP (toD cm b) = some q → PyData.eqv p q = eqv a b
  | .lst xs, b, p, q, h1, h2 => by
    obtain ⟨ps, g1, rfl⟩ := toP_lst cm h1
    rcases toP_leaf cm h2 with ⟨rfl, rfl⟩ | ⟨b, rfl, rfl⟩ | ⟨b, rfl, rfl⟩ | ⟨b, rfl, rfl⟩ | ⟨ys, qs, rfl, rfl, g2⟩ | ⟨ys, qs, rfl, rfl, g2⟩
    · unfold eqv; rfl
    · unfold eqv; rfl
    · unfold eqv; rfl
    · unfold eqv; rfl
    · unfold eqv PyData.eqv; exact eqvs_of xs ys ps qs g1 g2
    · unfold eqv; rfl
  | .tup xs, b, p, q, h1, h2 => by
    obtain ⟨ps, g1, rfl⟩ := toP_tup cm h1
    rcases toP_leaf cm h2 with ⟨rfl, rfl⟩ | ⟨b, rfl, rfl⟩ | ⟨b, rfl, rfl⟩ | ⟨b, rfl, rfl⟩ | ⟨ys, qs, rfl, rfl, g2⟩ | ⟨ys, qs, rfl, rfl, g2⟩
    · unfold eqv; rfl
    · unfold eqv; rfl
    · unfold eqv; rfl
    · unfold eqv; rfl
    · unfold eqv; rfl
    · unfold eqv PyData.eqv; exact eqvs_of xs ys ps qs g1 g2
  | .non, b, p, q, h1, h2 => by
    unfold toD toP at h1
    cases h1
    rcases toP_leaf cm h2 with ⟨rfl, rfl⟩ | ⟨b, rfl, rfl⟩ | ⟨b, rfl, rfl⟩ | ⟨b, rfl, rfl⟩ | ⟨ys, qs, rfl, rfl, g2⟩ | ⟨ys, qs, rfl, rfl, g2⟩ <;> (unfold eqv; rfl)
  | .bl a, b, p, q, h1, h2 => by
    unfold toD toP at h1
    cases h1
    rcases toP_leaf cm h2 with ⟨rfl, rfl⟩ | ⟨b, rfl, rfl⟩ | ⟨b, rfl, rfl⟩ | ⟨b, rfl, rfl⟩ | ⟨ys, qs, rfl, rfl, g2⟩ | ⟨ys, qs, rfl, rfl, g2⟩ <;> (unfold eqv; rfl)
  | .int a, b, p, q, h1, h2 => by
    unfold toD toP at h1
    cases h1
    rcases toP_leaf cm h2 with ⟨rfl, rfl⟩ | ⟨b, rfl, rfl⟩ | ⟨b, rfl, rfl⟩ | ⟨b, rfl, rfl⟩ | ⟨ys, qs, rfl, rfl, g2⟩ | ⟨ys, qs, rfl, rfl, g2⟩ <;> (unfold eqv; rfl)
  | .str a, b, p, q, h1, h2 => by
    unfold toD toP at h1
    cases h1
    rcases toP_leaf cm h2 with ⟨rfl, rfl⟩ | ⟨b, rfl, rfl⟩ | ⟨b, rfl, rfl⟩ | ⟨b, rfl, rfl⟩ | ⟨ys, qs, rfl, rfl, g2⟩ | ⟨ys, qs, rfl, rfl, g2⟩
    · unfold eqv; rfl
    · unfold eqv; rfl
    · unfold eqv; rfl
    · unfold eqv PyData.eqv; exact tx_beq a b
    · unfold eqv; rfl
    · unfold eqv; rfl
  | .ty _, b, p, q, h1, h2 => by unfold toD toP at h1; cases h1
  | .ref _, b, p, q, h1, h2 => by unfold toD toP at h1; cases h1
  | .dic _ _, b, p, q, h1, h2 => by unfold toD toP at h1; cases h1
  | .obj _ _ _, b, p, q, h1, h2 => by unfold toD toP at h1; cases h1
theorem eqvs_of : ∀ (xs ys : List A) (ps qs : List PyData), toPs (toDs cm xs) = some ps → toPs (toDs cm ys) = some qs → PyData.eqvAll ps qs = eqvs xs ys
  | [], [], ps, qs, h1, h2 => by
    unfold toDs toPs at h1 h2
    cases h1
    cases h2
    unfold eqvs; rfl
  | [], y :: ys, ps, qs, h1, h2 => by
    unfold toDs toPs at h1
    cases h1
    obtain ⟨q, qs, g1, g2, rfl⟩ := toPs_cons cm h2
    unfold eqvs; rfl
  | x :: xs, [], ps, qs, h1, h2 => by
    unfold toDs toPs at h2
    cases h2
    obtain ⟨q, qs, g1, g2, rfl⟩ := toPs_cons cm h1
    unfold eqvs; rfl
  | x :: xs, y :: ys, ps, qs, h1, h2 => by
    obtain ⟨p, ps, g1, g2, rfl⟩ := toPs_cons cm h1
    obtain ⟨q, qs, g3, g4, rfl⟩ := toPs_cons cm h2
    unfold eqvs PyData.eqvAll
    rw [eqv_of x y p q g1 g3, eqvs_of xs ys ps qs g2 g4]
end
end
abbrev G2 := A → A → Option A
abbrev G2L := A → A → Option (List A)
abbrev G1 := A → Option A
def OpF (o : O2) (g : G2) : Prop := ∀ (cm : CM) a b c (k : D → Prop), g a b = some c → k (toD cm c) → o (toD cm a) (toD cm b) k
def OpFL (o : O2L) (g : G2L) : Prop := ∀ (cm : CM) a b c (k : List D → Prop), g a b = some c → k (toDs cm c) → o (toD cm a) (toD cm b) k
def OpF1 (o : O1) (g : G1) : Prop := ∀ (cm : CM) a c (k : D → Prop), g a = some c → k (toD cm c) → o (toD cm a) k
def gI (f : Int → Int → A) : G2
  | .int i, .int j => some (f i j)
  | _, _ => none
def gIC (C : Int → Int → Bool) (f : Int → Int → A) : G2
  | .int i, .int j => if C i j then some (f i j) else none
  | _, _ => none
theorem opF_I {f : Int → Int → A} {g : Int → Int → D} (h : ∀ cm i j, toD cm (f i j) = g i j) : OpF (oI g) (gI f) := fun cm a b c k e hk => by
  unfold gI at e
  split at e
  · cases e
    rw [h] at hk
    exact hk
  · cases e
theorem opF_IC {C : Int → Int → Prop} {C' : Int → Int → Bool} {f : Int → Int → A} {g : Int → Int → D} (hC : ∀ i j, C' i j = true → C i j) (h : ∀ cm i j, toD cm (f i j) = g i j) : OpF (oIC C g) (gIC C' f) := fun cm a b c k e hk => by
  unfold gIC at e
  split at e
  · split at e
    · rename_i i j hc
      cases e
      rw [h] at hk
      exact ⟨hC i j hc, hk⟩
    · cases e
  · cases e
abbrev gSub : G2 := gI fun i j => .int (i - j)
abbrev gLt : G2 := gI fun i j => .bl (decide (i < j))
abbrev gGt : G2 := gI fun i j => .bl (decide (j < i))
abbrev gPow : G2 := gIC (fun i j => decide (0 ≤ j ∧ j ≤ 1000000 ∧ i.natAbs < 2 ^ 64)) fun i j => .int (i ^ j.toNat)
theorem f_lt : OpF oLt gLt := opF_I fun _ _ _ => rfl
theorem f_gt : OpF oGt gGt := opF_I fun _ _ _ => rfl
theorem f_pow : OpF oPow gPow := opF_IC (fun i j h => by unfold CPow; exact of_decide_eq_true h) fun _ _ _ => rfl
abbrev big : Nat := 10000000
theorem big_line {n : Nat} (h : n ≤ big) : n ≤ sizeLine := by
  rw [sizeLine_eq]
  exact Nat.le_trans h (by decide)
def gCat : G2L
  | .lst a, .lst b => if a.length + b.length ≤ big then some (a ++ b) else none
  | _, _ => none
theorem f_cat : OpFL oCat gCat := fun cm a b c k e hk => by
  unfold gCat at e
  split at e
  · split at e
    · rename_i h
      cases e
      rw [toD_lst, toD_lst]
      rw [toDs_app] at hk
      exact ⟨by rw [toDs_len, toDs_len]; exact big_line h, hk⟩
    · cases e
  · cases e
def gRep : G2L
  | .lst a, .int n => if (0 ≤ n ∧ n < 1000000) ∧ a.length * n.toNat ≤ big then some (List.replicate n.toNat a).flatten else none
  | _, _ => none
theorem toDs_rep (cm : CM) (a : List A) : ∀ n : Nat, toDs cm (List.replicate n a).flatten = (List.replicate n (toDs cm a)).flatten
  | 0 => rfl
  | n + 1 => by rw [List.replicate_succ, List.replicate_succ, List.flatten_cons, List.flatten_cons, toDs_app, toDs_rep cm a n]
theorem f_rep : OpFL oRep gRep := fun cm a b c k e hk => by
  unfold gRep at e
  split at e
  · split at e
    · rename_i h
      cases e
      rw [toD_lst]
      rw [toDs_rep] at hk
      exact ⟨⟨by omega, by omega, by rw [toDs_len]; exact big_line h.2⟩, hk⟩
    · cases e
  · cases e
def gIx : G2
  | .lst xs, .int i => atI xs i
  | .tup xs, .int i => atI xs i
  | .str l, .int i => if l.length ≤ big then (atI l i).map fun c => .str [c] else none
  | _, _ => none
theorem atI_toDs (cm : CM) (xs : List A) (i : Int) : atI (toDs cm xs) i = (atI xs i).map (toD cm) := by
  unfold atI
  rw [toDs_len]
  cases ixN xs.length i with
  | none => rfl
  | some j => exact toDs_get cm xs j
theorem f_ix : OpF oIx gIx := fun cm a b c k e hk => by
  unfold gIx at e
  split at e
  · rw [toD_lst]
    show match atI (toDs cm _) _ with | some x => k x | none => False
    rw [atI_toDs, e]
    exact hk
  · rw [toD_tup]
    show match atI (toDs cm _) _ with | some x => k x | none => False
    rw [atI_toDs, e]
    exact hk
  · split at e
    · rename_i l i h
      cases g : atI l i with
      | none => rw [g] at e; cases e
      | some x =>
        rw [g] at e
        cases e
        refine ⟨by rw [tx_len]; exact big_line h, ?_⟩
        show match atI (tx l).cps.toList i with | some c => k (.str ⟨#[c]⟩) | none => False
        rw [tx_at, g]
        exact hk
    · cases e
  · cases e
def gEq : G2 := fun a b => if okd 60 a && okd 60 b then some (.bl (eqv a b)) else none
def gNe : G2 := fun a b => if okd 60 a && okd 60 b then some (.bl (!eqv a b)) else none
theorem f_eq : OpF oEq gEq := fun cm a b c k e hk => by
  unfold gEq at e
  split at e
  · rename_i h
    rw [Bool.and_eq_true] at h
    cases e
    obtain ⟨p, h1, h2⟩ := okd_toP cm 60 a h.1
    obtain ⟨q, h3, h4⟩ := okd_toP cm 60 b h.2
    unfold oEq
    rw [h1, h3]
    exact ⟨by omega, by rw [eqv_of cm a b p q h1 h3]; exact hk⟩
  · cases e
theorem f_ne : OpF oNe gNe := fun cm a b c k e hk => by
  unfold gNe at e
  split at e
  · rename_i h
    rw [Bool.and_eq_true] at h
    cases e
    obtain ⟨p, h1, h2⟩ := okd_toP cm 60 a h.1
    obtain ⟨q, h3, h4⟩ := okd_toP cm 60 b h.2
    unfold oNe
    rw [h1, h3]
    exact ⟨by omega, by rw [eqv_of cm a b p q h1 h3]; exact hk⟩
  · cases e
def mem (a : A) (xs : List A) : Bool := xs.any fun z => eqv z a
def gInG (neg : Bool) : G2 := fun a b => match b with
  | .str y => match a with
    | .str [c] => some (.bl (if neg then !decide (c ∈ y) else decide (c ∈ y)))
    | _ => none
  | .lst xs => if okd 60 a && xs.all (okd 60) then some (.bl (if neg then !mem a xs else mem a xs)) else none
  | .tup xs => if okd 60 a && xs.all (okd 60) then some (.bl (if neg then !mem a xs else mem a xs)) else none
  | _ => none
abbrev gIn : G2 := gInG false
theorem mem_of (cm : CM) (a : A) (p : PyData) (hp : toP (toD cm a) = some p) : ∀ (xs : List A) (ps : List PyData), toPs (toDs cm xs) = some ps → (ps.any fun z => PyData.eqv z p) = mem a xs
  | [], ps, h => by
    unfold toDs toPs at h
    cases h
    rfl
  | x :: xs, ps, h => by
    obtain ⟨q, qs, g1, g2, rfl⟩ := toPs_cons cm h
    unfold mem
    rw [List.any_cons, List.any_cons, eqv_of cm x a q p g1 hp]
    rw [mem_of cm a p hp xs qs g2]
    rfl
theorem f_in {neg : Bool} : OpF (oInG neg) (gInG neg) := fun cm a b c k e hk => by
  unfold gInG at e
  split at e
  · rename_i y
    split at e
    · rename_i c'
      cases e
      show k (.bl (if neg = true then !inS (tx [c']) (tx y) else inS (tx [c']) (tx y)))
      rw [tx_in]
      exact hk
    · cases e
  · rename_i xs
    split at e
    · rename_i h
      rw [Bool.and_eq_true] at h
      cases e
      obtain ⟨p, h1, h2⟩ := okd_toP cm 60 a h.1
      obtain ⟨ps, h3, h4⟩ := okds_toP cm 60 xs h.2
      rw [toD_lst]
      have key : oInG neg (toD cm a) (.lst (toDs cm xs)) k = (min (PyData.depthAll ps) p.depth ≤ 62 ∧ k (.bl (if neg = true then !ps.any fun z => PyData.eqv z p else ps.any fun z => PyData.eqv z p))) := by
        unfold oInG
        simp only [h1, h3]
      rw [key, mem_of cm a p h1 xs ps h3]
      exact ⟨by omega, hk⟩
    · cases e
  · rename_i xs
    split at e
    · rename_i h
      rw [Bool.and_eq_true] at h
      cases e
      obtain ⟨p, h1, h2⟩ := okd_toP cm 60 a h.1
      obtain ⟨ps, h3, h4⟩ := okds_toP cm 60 xs h.2
      rw [toD_tup]
      have key : oInG neg (toD cm a) (.tup (toDs cm xs)) k = (min (PyData.depthAll ps) p.depth ≤ 62 ∧ k (.bl (if neg = true then !ps.any fun z => PyData.eqv z p else ps.any fun z => PyData.eqv z p))) := by
        unfold oInG
        simp only [h1, h3]
      rw [key, mem_of cm a p h1 xs ps h3]
      exact ⟨by omega, hk⟩
    · cases e
  · cases e
def gIsN (neg : Bool) : G2
  | .non, .non => some (.bl (!neg))
  | _, .non => some (.bl neg)
  | _, _ => none
theorem f_isn {neg : Bool} : OpF (oIsN neg) (gIsN neg) := fun cm a b c k e hk => by
  unfold gIsN at e
  split at e
  · cases e
    exact hk
  · rename_i hn
    cases e
    unfold oIsN
    cases a <;> first | exact absurd rfl hn | exact hk
  · cases e
def gLen : G1
  | .str s => if s.length ≤ big then some (.int s.length) else none
  | .lst xs => some (.int xs.length)
  | .tup xs => some (.int xs.length)
  | .dic ks vs => if ks.length = vs.length then some (.int ks.length) else none
  | _ => none
theorem f_len : OpF1 oLen gLen := fun cm a c k e hk => by
  unfold gLen at e
  split at e
  · split at e
    · rename_i h
      cases e
      exact ⟨by rw [tx_len]; exact big_line h, by rw [tx_len]; exact hk⟩
    · cases e
  · cases e
    rw [toD_lst]
    show k (.int (toDs cm _).length)
    rw [toDs_len]
    exact hk
  · cases e
    rw [toD_tup]
    show k (.int (toDs cm _).length)
    rw [toDs_len]
    exact hk
  · split at e
    · rename_i ks vs h
      cases e
      show k (.int ((ks.map keyD).zip (toDs cm vs)).length)
      rw [List.length_zip, List.length_map, toDs_len, h, Nat.min_self, ← h]
      exact hk
    · cases e
  · cases e
def blsF : List A → Option (List Bool)
  | [] => some []
  | .bl b :: r => (blsF r).map (b :: ·)
  | _ :: _ => none
theorem bls_F (cm : CM) : ∀ (xs : List A) (bs : List Bool), blsF xs = some bs → bls (toDs cm xs) = some bs
  | [], bs, h => by
    cases h
    unfold toDs bls
    rfl
  | .bl b :: r, bs, h => by
    unfold blsF at h
    cases g : blsF r with
    | none => rw [g] at h; cases h
    | some cs =>
      rw [g] at h
      cases h
      unfold toDs bls
      rw [bls_F cm r cs g]
      rfl
  | .non :: _, _, h => by cases h
  | .int _ :: _, _, h => by cases h
  | .str _ :: _, _, h => by cases h
  | .ty _ :: _, _, h => by cases h
  | .ref _ :: _, _, h => by cases h
  | .tup _ :: _, _, h => by cases h
  | .lst _ :: _, _, h => by cases h
  | .dic _ _ :: _, _, h => by cases h
  | .obj _ _ _ :: _, _, h => by cases h
@[simp] theorem blsF_map {α : Type} (f : α → Bool) (l : List α) : blsF (l.map fun x => .bl (f x)) = some (l.map f) := by
  induction l with
  | nil => rfl
  | cons x l ih =>
    rw [List.map_cons]
    unfold blsF
    rw [ih]
    rfl
def gAll : G1
  | .lst xs => (blsF xs).map fun bs => .bl (bs.all id)
  | _ => none
theorem f_all : OpF1 oAll gAll := fun cm a c k e hk => by
  unfold gAll at e
  split at e
  · rename_i xs
    cases g : blsF xs with
    | none => rw [g] at e; cases e
    | some bs =>
      rw [g] at e
      cases e
      rw [toD_lst]
      show match bls (toDs cm xs) with | some bs => k (.bl (bs.all id)) | none => False
      rw [bls_F cm xs bs g]
      exact hk
  · cases e
def tyF : A → Option String
  | .non => some "NoneType"
  | .bl _ => some "bool"
  | .int _ => some "int"
  | .str _ => some "str"
  | .tup _ => some "tuple"
  | .lst _ => some "list"
  | .dic _ _ => some "dict"
  | _ => none
theorem ty_F (cm : CM) (a : A) : tyD (toD cm a) = tyF a := by cases a <;> rfl
def isStr : A → Bool | .str _ => true | _ => false
def isInt : A → Bool | .int _ => true | .bl _ => true | _ => false
def isBool : A → Bool | .bl _ => true | _ => false
def isList : A → Bool | .lst _ => true | _ => false
def isTuple : A → Bool | .tup _ => true | _ => false
def IsF (t : String) (f : A → Bool) : Prop := (["str", "int", "bool", "list", "tuple", "dict"].contains t) = true ∧ ∀ a x, tyF a = some x → isB x t = f a
theorem is_str : IsF "str" isStr := ⟨by decide +kernel, fun a x h => by cases a <;> cases h <;> rfl⟩
theorem is_int : IsF "int" isInt := ⟨by decide +kernel, fun a x h => by cases a <;> cases h <;> rfl⟩
theorem is_bool : IsF "bool" isBool := ⟨by decide +kernel, fun a x h => by cases a <;> cases h <;> rfl⟩
theorem is_list : IsF "list" isList := ⟨by decide +kernel, fun a x h => by cases a <;> cases h <;> rfl⟩
theorem is_tuple : IsF "tuple" isTuple := ⟨by decide +kernel, fun a x h => by cases a <;> cases h <;> rfl⟩
def plainK : A → Bool
  | .ty _ => false
  | .ref _ => false
  | .obj _ _ _ => false
  | .dit _ _ => false
  | .exn _ _ _ => false
  | .lam _ => false
  | .cret _ => false
  | .cexc _ _ _ => false
  | .tk _ => false
  | _ => true
def gIsi (f : A → Bool) : G1 := fun a => if plainK a then some (.bl (f a)) else none
theorem plainK_ty {a : A} (h : plainK a = true) : ∃ x, tyF a = some x := by cases a <;> first | exact ⟨_, rfl⟩ | cases h
theorem isT_F {t : String} {f : A → Bool} (h : IsF t f) (cm : CM) {a : A} (ha : plainK a = true) : isT t (toD cm a) = f a := by
  obtain ⟨x, hx⟩ := plainK_ty ha
  unfold isT
  rw [ty_F, hx]
  exact h.2 a x hx
theorem f_isi {t : String} {f : A → Bool} (h : IsF t f) : OpF1 (oIsi t) (gIsi f) := fun cm a c k e hk => by
  unfold gIsi at e
  split at e
  · rename_i ha
    cases e
    obtain ⟨x, hx⟩ := plainK_ty ha
    rw [isi_eq (by rw [ty_F, hx]; rfl) h.1, isT_F h cm ha]
    exact hk
  · cases e
theorem f_isi2 {t u : String} {f g : A → Bool} (h : IsF t f) (h' : IsF u g) : OpF1 (oIsi2 t u) (gIsi fun a => f a || g a) := fun cm a c k e hk => by
  unfold gIsi at e
  split at e
  · rename_i ha
    cases e
    obtain ⟨x, hx⟩ := plainK_ty ha
    rw [isi2_eq (by rw [ty_F, hx]; rfl) h.1 h'.1, isT_F h cm ha, isT_F h' cm ha]
    exact hk
  · cases e
end PF
namespace PF
open PySem PySem.Spec PyProof.Rows L2 PD
section
variable (cm : CM) (bg : Option Addr) (O : List Nat)
def cE (f : Env → T A) : WE := fun ρ kq kx => ∃ env, ρ = mix cm O env ∧ (f env).wp bg (fun a => kq (toD cm a) ρ) (fun x => kx (toX cm x) ρ)
def cL (f : Env → T (List A)) : WA := fun ρ kq kx => ∃ env, ρ = mix cm O env ∧ (f env).wp bg (fun a => kq (toDs cm a) ρ) (fun x => kx (toX cm x) ρ)
def cT (f : Env → T Bool) : WT := fun ρ kq kx => ∃ env, ρ = mix cm O env ∧ (f env).wp bg (fun a => kq a ρ) (fun x => kx (toX cm x) ρ)
def cQ (f : Env → T (A × A)) : WP2 := fun ρ kq kx => ∃ env, ρ = mix cm O env ∧ (f env).wp bg (fun a => kq (toD cm a.1) (toD cm a.2) ρ) (fun x => kx (toX cm x) ρ)
end
abbrev FE (cm : CM) (X : Cx) (F : Fm) (W : WX) (O : List Nat) (e : Expr) (f : Env → T A) : Prop := DE X F W e (cE cm F.bag O f)
abbrev FP (cm : CM) (X : Cx) (F : Fm) (W : WX) (O : List Nat) (e : Expr) (f : Env → T A) : Prop := DP X F W e (cE cm F.bag O f)
abbrev FL (cm : CM) (X : Cx) (F : Fm) (W : WX) (O : List Nat) (e : Expr) (f : Env → T (List A)) : Prop := DL X F W e (cL cm F.bag O f)
abbrev FT (cm : CM) (X : Cx) (F : Fm) (W : WX) (O : List Nat) (e : Expr) (f : Env → T Bool) : Prop := DT X F W e (cT cm F.bag O f)
abbrev FW (cm : CM) (X : Cx) (F : Fm) (W : WX) (O : List Nat) (e : Expr) (f : Env → T Bool) : Prop := DW X F W e (cT cm F.bag O f)
abbrev FA (cm : CM) (X : Cx) (F : Fm) (W : WX) (O : List Nat) (es : List Expr) (f : Env → T (List A)) : Prop := DA X F W es (cL cm F.bag O f)
abbrev FQ (cm : CM) (X : Cx) (F : Fm) (W : WX) (O : List Nat) (a b : Expr) (f : Env → T (A × A)) : Prop := DQ X F W a b (cQ cm F.bag O f)
abbrev FK (cm : CM) (X : Cx) (F : Fm) (W : WX) (O : List Nat) (es : List Keyword) (f : Env → T (List A)) : Prop := DK X F W es (cL cm F.bag O f)
section
variable {X : Cx} {F : Fm} {W : WX} {e a b : Expr} {es : List Expr}
theorem DE_imp {w w' : WE} (h : DE X F W e w) (hw : ∀ ρ kq kx, w' ρ kq kx → w ρ kq kx) : DE X F W e w' := by
  obtain ⟨t, p, q⟩ := h.ex
  exact ⟨t, p, fun S ρ σ H Q kq kx r h' => q S ρ σ H Q kq kx r (hw _ _ _ h')⟩
theorem DP_imp {w w' : WE} (h : DP X F W e w) (hw : ∀ ρ kq kx, w' ρ kq kx → w ρ kq kx) : DP X F W e w' := by
  obtain ⟨t, p, q⟩ := h.ex
  exact ⟨t, p, fun S ρ σ H Q kq kx r h' => q S ρ σ H Q kq kx r (hw _ _ _ h')⟩
theorem DL_imp {w w' : WA} (h : DL X F W e w) (hw : ∀ ρ kq kx, w' ρ kq kx → w ρ kq kx) : DL X F W e w' := by
  obtain ⟨t, p, q⟩ := h.ex
  exact ⟨t, p, fun S ρ σ H Q kq kx r h' => q S ρ σ H Q kq kx r (hw _ _ _ h')⟩
theorem DT_imp {w w' : WT} (h : DT X F W e w) (hw : ∀ ρ kq kx, w' ρ kq kx → w ρ kq kx) : DT X F W e w' := by
  obtain ⟨t, p, q⟩ := h.ex
  exact ⟨t, p, fun S ρ σ H Q kq kx r h' => q S ρ σ H Q kq kx r (hw _ _ _ h')⟩
theorem DW_imp {w w' : WT} (h : DW X F W e w) (hw : ∀ ρ kq kx, w' ρ kq kx → w ρ kq kx) : DW X F W e w' := by
  obtain ⟨t, p, q⟩ := h.ex
  exact ⟨t, p, fun S ρ σ H Q kq kx r h' => q S ρ σ H Q kq kx r (hw _ _ _ h')⟩
theorem DA_imp {w w' : WA} (h : DA X F W es w) (hw : ∀ ρ kq kx, w' ρ kq kx → w ρ kq kx) : DA X F W es w' := by
  obtain ⟨t, p, q⟩ := h.ex
  exact ⟨t, p, fun S ρ σ H Q kq kx r h' => q S ρ σ H Q kq kx r (hw _ _ _ h')⟩
theorem DQ_imp {w w' : WP2} (h : DQ X F W a b w) (hw : ∀ ρ kq kx, w' ρ kq kx → w ρ kq kx) : DQ X F W a b w' := by
  obtain ⟨t, t2, p, p2, q⟩ := h.ex
  exact ⟨t, t2, p, p2, fun S ρ σ H Q kq kx r h' => q S ρ σ H Q kq kx r (hw _ _ _ h')⟩
theorem DK_imp {kws : List Keyword} {w w' : WA} (h : DK X F W kws w) (hw : ∀ ρ kq kx, w' ρ kq kx → w ρ kq kx) : DK X F W kws w' := by
  obtain ⟨t, p, q⟩ := h.ex
  exact ⟨t, p, fun S ρ σ H Q kq kx r h' => q S ρ σ H Q kq kx r (hw _ _ _ h')⟩
theorem DI_imp {tg : Expr} {w w' : WA} (h : DI X F W tg e w) (hw : ∀ ρ kq kx, w' ρ kq kx → w ρ kq kx) : DI X F W tg e w' := by
  obtain ⟨t, p, q⟩ := h.ex
  exact ⟨t, p, fun S ρ σ H Q kq kx r h' => q S ρ σ H Q kq kx r (hw _ _ _ h')⟩
end
def fVar (i : Nat) : Env → T A := fun env => match env[i]? with
  | some (some a) => .ret a
  | _ => .bad
def fC (a : A) : Env → T A := fun _ => .ret a
def fPair (f g : Env → T A) : Env → T (A × A) := fun env => (f env).bind fun a => (g env).bind fun b => .ret (a, b)
def fOp (g : G2) (f : Env → T (A × A)) : Env → T A := fun env => (f env).bind fun p => T.opt (g p.1 p.2)
def fOpL (g : G2L) (f : Env → T (A × A)) : Env → T (List A) := fun env => (f env).bind fun p => T.opt (g p.1 p.2)
def asB : A → T Bool
  | .bl b => .ret b
  | _ => .bad
def fTst (f : Env → T A) : Env → T Bool := fun env => (f env).bind asB
def fOr (f g : Env → T Bool) : Env → T Bool := fun env => (f env).bind fun b => if b then .ret true else g env
def fNot (f : Env → T Bool) : Env → T Bool := fun env => (f env).bind fun b => .ret (!b)
def fIf (c : Env → T Bool) (f g : Env → T A) : Env → T A := fun env => (c env).bind fun b => if b then f env else g env
def fAndV (f g : Env → T A) : Env → T A := fun env => (f env).bind fun a => (asB a).bind fun b => if b then g env else .ret (.bl false)
def fNil : Env → T (List A) := fun _ => .ret []
def fCons (f : Env → T A) (g : Env → T (List A)) : Env → T (List A) := fun env => (f env).bind fun a => (g env).bind fun r => .ret (a :: r)
def small (xs : List A) : Option (List A) := if xs.length ≤ big then some xs else none
def fTup (f : Env → T (List A)) : Env → T A := fun env => (f env).bind fun xs => (T.opt (small xs)).bind fun xs => .ret (.tup xs)
def fLst (f : Env → T (List A)) : Env → T (List A) := fun env => (f env).bind fun xs => T.opt (small xs)
def fVal (f : Env → T (List A)) : Env → T A := fun env => (f env).bind fun xs => .ret (.lst xs)
def fG1 (g : G1) (f : Env → T A) : Env → T A := fun env => (f env).bind fun a => T.opt (g a)
section
variable {cm : CM} {X : Cx} {F : Fm} {W : WX} {O : List Nat} {e a b c : Expr} {es : List Expr} {f g h f' g' : Env → T A} {pos p : Pos}
theorem fVar_some {env : Env} {i : Nat} {bg : Option Addr} {q : A → Prop} {k : AX → Prop} (hw : (fVar i env).wp bg q k) : ∃ a, env[i]? = some (some a) ∧ q a := by
  unfold fVar at hw
  split at hw
  · rename_i a h
    exact ⟨a, h, hw⟩
  · exact hw.elim
theorem fv (i : Nat) {x : Str} {pos : Pos} (ho : O.contains i = false := by decide) (hN : X.N[i]? = some x := by rfl) (hv : Vis X.env.scope x := by first | exact Or.inl rfl | exact Or.inr (Or.inl rfl) | exact Or.inr (Or.inr rfl)) (hd : (x == ("__debug__" : Str)) = false := by decide)
    (hcd : (x == ("__classdict__" : Str)) = false := by decide) : FE cm X F W O (.Name x pos) (fVar i) :=
  DE_imp (dv i hN hv hd hcd) fun ρ kq kx hw => by
    obtain ⟨env, rfl, hw⟩ := hw
    obtain ⟨a, h, k⟩ := fVar_some hw
    unfold wVar
    have e : (mix cm O env)[i]? = some (some (.val (toD cm a))) := by rw [mix_get, h]; exact congrArg some (mixAt_val ho)
    rw [e]
    exact k
theorem fvp (i : Nat) {x : Str} {pos : Pos} (hN : X.N[i]? = some x := by rfl) (hv : Vis X.env.scope x := by first | exact Or.inl rfl | exact Or.inr (Or.inl rfl) | exact Or.inr (Or.inr rfl)) (hd : (x == ("__debug__" : Str)) = false := by decide)
    (hcd : (x == ("__classdict__" : Str)) = false := by decide) : FP cm X F W O (.Name x pos) (fVar i) :=
  DP_imp (dvp i hN hv hd hcd) fun ρ kq kx hw => by
    obtain ⟨env, rfl, hw⟩ := hw
    obtain ⟨a, h, k⟩ := fVar_some hw
    unfold wPeek
    obtain ⟨y, e1, e2⟩ := mixAt_d (cm := cm) (O := O) (i := i) (a := a)
    have e : (mix cm O env)[i]? = some (some y) := by rw [mix_get, h]; exact congrArg some e1
    rw [e]
    show kq y.d _
    rw [e2]
    exact k
theorem fe_c {d : D} {a : A} (h : DE X F W e (wC d)) (hd : toD cm a = d) : FE cm X F W O e (fC a) := DE_imp h fun ρ kq kx hw => by
  obtain ⟨env, rfl, hw⟩ := hw
  subst hd
  exact hw
theorem f_int' {i j pos} : FE cm X F W O (.Constant (.int i) j pos) (fC (.int i)) := fe_c d_int rfl
theorem f_bl {x j pos} : FE cm X F W O (.Constant (.bool x) j pos) (fC (.bl x)) := fe_c d_bl rfl
theorem f_non {j pos} : FE cm X F W O (.Constant .none j pos) (fC .non) := fe_c d_non rfl
theorem f_str' {x j pos} (l : List Nat) (hl : x = tx l) : FE cm X F W O (.Constant (.str x) j pos) (fC (.str l)) := fe_c d_str (by rw [hl]; rfl)
theorem fp (h : FE cm X F W O e f) : FP cm X F W O e f := dp h
theorem fl_e {f : Env → T (List A)} (h : FL cm X F W O e f) : FE cm X F W O e (fVal f) := DE_imp (dl_e h) fun ρ kq kx hw => by
  obtain ⟨env, rfl, hw⟩ := hw
  unfold fVal at hw
  rw [T.wp_bind] at hw
  exact ⟨env, rfl, T.wp_mono hw (fun xs k => by show kq (.lst (toDs cm xs)) _; rw [← toD_lst]; exact k) fun _ k => k⟩
theorem fl_p {f : Env → T (List A)} (h : FL cm X F W O e f) : FP cm X F W O e (fVal f) := DP_imp (dl_p h) fun ρ kq kx hw => by
  obtain ⟨env, rfl, hw⟩ := hw
  unfold fVal at hw
  rw [T.wp_bind] at hw
  exact ⟨env, rfl, T.wp_mono hw (fun xs k => by show kq (.lst (toDs cm xs)) _; rw [← toD_lst]; exact k) fun _ k => k⟩
theorem fq (ha : FE cm X F W O a f) (hb : FP cm X F W O b g) : FQ cm X F W O a b (fPair f g) := DQ_imp (dq ha hb) fun ρ kq kx hw => by
  obtain ⟨env, rfl, hw⟩ := hw
  unfold fPair at hw
  simp only [T.wp_bind] at hw
  exact ⟨env, rfl, T.wp_mono hw (fun x k => ⟨env, rfl, k⟩) fun _ k => k⟩
theorem fqn (i : Nat) {x : Str} {pos : Pos} (hb : FP cm X F W O b g) (hN : X.N[i]? = some x := by rfl) (hv : Vis X.env.scope x := by first | exact Or.inl rfl | exact Or.inr (Or.inl rfl) | exact Or.inr (Or.inr rfl)) (hd : (x == ("__debug__" : Str)) = false := by decide)
    (hcd : (x == ("__classdict__" : Str)) = false := by decide) : FQ cm X F W O (.Name x pos) b (fPair (fVar i) g) := DQ_imp (dqn i hb hN hv hd hcd) fun ρ kq kx hw => by
  obtain ⟨env, rfl, hw⟩ := hw
  unfold fPair at hw
  simp only [T.wp_bind] at hw
  obtain ⟨a, h, k⟩ := fVar_some hw
  obtain ⟨y, e1, e2⟩ := mixAt_d (cm := cm) (O := O) (i := i) (a := a)
  have e : (mix cm O env)[i]? = some (some y) := by rw [mix_get, h]; exact congrArg some e1
  unfold w2n
  rw [e]
  refine ⟨env, rfl, T.wp_mono k (fun b k => ?_) fun _ k => k⟩
  dsimp only
  rw [e]
  show kq y.d _ _
  rw [e2]
  exact k
theorem fe_op {op : Operator} {r : R2} {o : O2} {gg : G2} {f2 : Env → T (A × A)} (ho : OpR X (binaryOp op) r) (h2 : Op2 X.K r o) (hg : OpF o gg) (h : FQ cm X F W O a b f2) : FE cm X F W O (.BinOp a op b pos) (fOp gg f2) := DE_imp (d_op ho h2 h) fun ρ kq kx hw => by
  obtain ⟨env, rfl, hw⟩ := hw
  unfold fOp at hw
  rw [T.wp_bind] at hw
  refine ⟨env, rfl, T.wp_mono hw (fun p k => ?_) fun _ k => k⟩
  obtain ⟨c, e, k⟩ := T.wp_opt k
  exact hg cm p.1 p.2 c _ e k
theorem fl_op {op : Operator} {r : R2} {o : O2L} {gg : G2L} {f2 : Env → T (A × A)} (ho : OpR X (binaryOp op) r) (h2 : Op2L X.K r o) (hg : OpFL o gg) (h : FQ cm X F W O a b f2) : FL cm X F W O (.BinOp a op b pos) (fOpL gg f2) := DL_imp (dl_op ho h2 h) fun ρ kq kx hw => by
  obtain ⟨env, rfl, hw⟩ := hw
  unfold fOpL at hw
  rw [T.wp_bind] at hw
  refine ⟨env, rfl, T.wp_mono hw (fun p k => ?_) fun _ k => k⟩
  obtain ⟨c, e, k⟩ := T.wp_opt k
  exact hg cm p.1 p.2 c _ e k
theorem fe_cmp {op : CmpOp} {r : R2} {o : O2} {gg : G2} {f2 : Env → T (A × A)} (ho : OpR X (compareOp op) r) (h2 : Op2 X.K r o) (hg : OpF o gg) (h : FQ cm X F W O a b f2) (hm : behindInMarks op b = false := by first | exact nomark _ | with_unfolding_all rfl) : FE cm X F W O (.Compare a [op] [b] pos) (fOp gg f2) := DE_imp (d_cmp ho h2 h hm) fun ρ kq kx hw => by
  obtain ⟨env, rfl, hw⟩ := hw
  unfold fOp at hw
  rw [T.wp_bind] at hw
  refine ⟨env, rfl, T.wp_mono hw (fun p k => ?_) fun _ k => k⟩
  obtain ⟨c, e, k⟩ := T.wp_opt k
  exact hg cm p.1 p.2 c _ e k
theorem asB_wp {cm : CM} {bg : Option Addr} {a : A} {q : Bool → Prop} {k : AX → Prop} (h : (asB a).wp bg q k) : ∃ b, a = .bl b ∧ q b := by
  cases a with
  | bl b => exact ⟨b, rfl, h⟩
  | _ => exact h.elim
theorem ft_cmp {op : CmpOp} {r : R2} {o : O2} {gg : G2} {f2 : Env → T (A × A)} (ho : OpR X (compareOp op) r) (h2 : Op2 X.K r o) (hg : OpF o gg) (h : FQ cm X F W O a b f2) (hm : behindInMarks op b = false := by first | exact nomark _ | with_unfolding_all rfl) : FT cm X F W O (.Compare a [op] [b] pos) (fTst (fOp gg f2)) := DT_imp (dt_cmp ho h2 h hm) fun ρ kq kx hw => by
  obtain ⟨env, rfl, hw⟩ := hw
  unfold fTst fOp at hw
  rw [T.wp_bind, T.wp_bind] at hw
  refine ⟨env, rfl, T.wp_mono hw (fun p k => ?_) fun _ k => k⟩
  obtain ⟨c, e, k⟩ := T.wp_opt k
  obtain ⟨b, rfl, k⟩ := asB_wp (cm := cm) k
  exact hg cm p.1 p.2 _ _ e k
theorem ft_val (h : FE cm X F W O e f) (he : ∀ whole, isTrue e X.env whole = (do let v ← whole; standAt e.pos; holding [v] (truthy v)) := by intro _; rfl) : FT cm X F W O e (fTst f) := DT_imp (dt_val h he) fun ρ kq kx hw => by
  obtain ⟨env, rfl, hw⟩ := hw
  unfold fTst at hw
  rw [T.wp_bind] at hw
  refine ⟨env, rfl, T.wp_mono hw (fun p k => ?_) fun _ k => k⟩
  obtain ⟨b, rfl, k⟩ := asB_wp (cm := cm) k
  exact k
theorem fw_or1 {t : Env → T Bool} (h : FT cm X F W O a t) : FW cm X F W O (.BoolOp .Or [a] pos) t := dw_or1 h
theorem fw_or {t u : Env → T Bool} {rest : List Expr} (ha : FT cm X F W O a t) (hb : FW cm X F W O (.BoolOp .Or (b :: rest) pos) u) : FW cm X F W O (.BoolOp .Or (a :: b :: rest) pos) (fOr t u) := DW_imp (dw_or ha hb) fun ρ kq kx hw => by
  obtain ⟨env, rfl, hw⟩ := hw
  unfold fOr at hw
  rw [T.wp_bind] at hw
  refine ⟨env, rfl, T.wp_mono hw (fun p k => ?_) fun _ k => k⟩
  cases p with
  | true => exact k
  | false => exact ⟨env, rfl, k⟩
theorem ft_w {t : Env → T Bool} (h : FW cm X F W O e t) : FT cm X F W O e t := dt_w h
theorem ft_not {t : Env → T Bool} (h : FT cm X F W O a t) : FT cm X F W O (.UnaryOp .Not a pos) (fNot t) := DT_imp (dt_not h) fun ρ kq kx hw => by
  obtain ⟨env, rfl, hw⟩ := hw
  unfold fNot at hw
  rw [T.wp_bind] at hw
  exact ⟨env, rfl, hw⟩
theorem fe_one {op : BoolOp} (h : FE cm X F W O a f) : FE cm X F W O (.BoolOp op [a] pos) f := d_one h
theorem fe_and {rest : List Expr} (ha : FE cm X F W O a f) (hb : FE cm X F W O (.BoolOp .And (b :: rest) pos) g) : FE cm X F W O (.BoolOp .And (a :: b :: rest) pos) (fAndV f g) := DE_imp (d_and ha hb) fun ρ kq kx hw => by
  obtain ⟨env, rfl, hw⟩ := hw
  unfold fAndV at hw
  simp only [T.wp_bind] at hw
  refine ⟨env, rfl, T.wp_mono hw (fun p k => ?_) fun _ k => k⟩
  obtain ⟨b, rfl, k⟩ := asB_wp (cm := cm) k
  cases b with
  | true => exact ⟨env, rfl, k⟩
  | false => exact k
theorem fe_if {t : Env → T Bool} (hc : FT cm X F W O c t) (ha : FE cm X F W O a f) (hb : FE cm X F W O b g) : FE cm X F W O (.IfExp c a b pos) (fIf t f g) := DE_imp (d_if hc ha hb) fun ρ kq kx hw => by
  obtain ⟨env, rfl, hw⟩ := hw
  unfold fIf at hw
  rw [T.wp_bind] at hw
  refine ⟨env, rfl, T.wp_mono hw (fun p k => ?_) fun _ k => k⟩
  cases p with
  | true => exact ⟨env, rfl, k⟩
  | false => exact ⟨env, rfl, k⟩
theorem fa_nil : FA cm X F W O [] fNil := DA_imp da_nil fun ρ kq kx hw => by
  obtain ⟨env, rfl, hw⟩ := hw
  exact hw
theorem fa_cons {gs : Env → T (List A)} (h : FE cm X F W O e f) (hr : FA cm X F W O es gs) (hs : starEach (e :: es) X.env = (false, eval e X.env) :: starEach es X.env := by rfl) : FA cm X F W O (e :: es) (fCons f gs) := DA_imp (da_cons h hr hs) fun ρ kq kx hw => by
  obtain ⟨env, rfl, hw⟩ := hw
  unfold fCons at hw
  simp only [T.wp_bind] at hw
  exact ⟨env, rfl, T.wp_mono hw (fun x k => ⟨env, rfl, k⟩) fun _ k => k⟩
theorem fk_nil : FK cm X F W O [] fNil := DK_imp dk_nil fun ρ kq kx hw => by
  obtain ⟨env, rfl, hw⟩ := hw
  exact hw
theorem fk_cons {kws : List Keyword} {nm : Option Str} {kpos : Pos} {gs : Env → T (List A)} (h : FE cm X F W O e f) (hr : FK cm X F W O kws gs) : FK cm X F W O (⟨nm, e, kpos⟩ :: kws) (fCons f gs) := DK_imp (dk_cons h hr) fun ρ kq kx hw => by
  obtain ⟨env, rfl, hw⟩ := hw
  unfold fCons at hw
  simp only [T.wp_bind] at hw
  exact ⟨env, rfl, T.wp_mono hw (fun x k => ⟨env, rfl, k⟩) fun _ k => k⟩
theorem small_eq {xs ys : List A} (h : small xs = some ys) : xs.length ≤ big ∧ ys = xs := by
  unfold small at h
  split at h
  · cases h
    exact ⟨by assumption, rfl⟩
  · cases h
theorem fe_tup {x1} {gs : Env → T (List A)} (h : FA cm X F W O es gs) : FE cm X F W O (.Tuple es x1 pos) (fTup gs) := DE_imp (d_tup h) fun ρ kq kx hw => by
  obtain ⟨env, rfl, hw⟩ := hw
  unfold fTup at hw
  simp only [T.wp_bind] at hw
  refine ⟨env, rfl, T.wp_mono hw (fun xs k => ?_) fun _ k => k⟩
  obtain ⟨ys, e, k2⟩ := T.wp_opt k
  obtain ⟨hl, e2⟩ := small_eq e
  subst e2
  refine ⟨by rw [toDs_len]; exact big_line hl, ?_⟩
  rw [← toD_tup]
  exact k2
theorem fl_lst {gs : Env → T (List A)} (h : FA cm X F W O es gs) : FL cm X F W O (.List es pos) (fLst gs) := DL_imp (dl_lst h) fun ρ kq kx hw => by
  obtain ⟨env, rfl, hw⟩ := hw
  unfold fLst at hw
  simp only [T.wp_bind] at hw
  refine ⟨env, rfl, T.wp_mono hw (fun xs k => ?_) fun _ k => k⟩
  obtain ⟨ys, e, k2⟩ := T.wp_opt k
  obtain ⟨hl, e2⟩ := small_eq e
  subst e2
  exact ⟨by rw [toDs_len]; exact big_line hl, k2⟩
theorem fe_ix {f2 : Env → T (A × A)} (h : FQ cm X F W O a b f2) (hs : PlainIx b := by exact fun _ _ => rfl) : FE cm X F W O (.Subscript a b pos) (fOp gIx f2) := DE_imp (d_ix h hs) fun ρ kq kx hw => by
  obtain ⟨env, rfl, hw⟩ := hw
  unfold fOp at hw
  rw [T.wp_bind] at hw
  refine ⟨env, rfl, T.wp_mono hw (fun p k => ?_) fun _ k => k⟩
  obtain ⟨c, e, k⟩ := T.wp_opt k
  exact f_ix cm p.1 p.2 c _ e k
theorem imp_1 {bg : Option Addr} {o : O1} {gg : G1} (hg : OpF1 o gg) : ∀ ρ kq kx, cE cm bg O (fG1 gg f) ρ kq kx → w1 o (cE cm bg O f) ρ kq kx := fun ρ kq kx hw => by
  obtain ⟨env, rfl, hw⟩ := hw
  unfold fG1 at hw
  rw [T.wp_bind] at hw
  refine ⟨env, rfl, T.wp_mono hw (fun p k => ?_) fun _ k => k⟩
  obtain ⟨c, e, k⟩ := T.wp_opt k
  exact hg cm p c _ e k
theorem fe_cb {x : Str} {id : String} {r : List V → Hp → VK → Prop} {o : O1} {gg : G1} (hc : CallR X (.builtin id) r) (h2 : Op1 X.K (fun v => r [v]) o) (hgg : OpF1 o gg) (hm : X.mg x = none) (h : FP cm X F W O e f) (hv : bootBuiltins x = some (.builtin id) := by decide +kernel) (hg : Gl X x := by rfl) (hn : x ≠ "__name__" := by decide) (hdb : (x == ("__debug__" : Str)) = false := by decide)
    (hs : starEach [e] X.env = (false, eval e X.env) :: starEach [] X.env := by rfl) : FE cm X F W O (.Call (.Name x p) [e] [] pos) (fG1 gg f) := DE_imp (d_cb hc h2 hm h hv hg hn hdb hs) (imp_1 hgg)
theorem fe_len (hm : X.mg "len" = none) (h : FP cm X F W O e f) (hg : Gl X "len" := by rfl) (hs : starEach [e] X.env = (false, eval e X.env) :: starEach [] X.env := by rfl) : FE cm X F W O (.Call (.Name "len" p) [e] [] pos) (fG1 gLen f) := fe_cb call_lenA op1_len f_len hm h (hg := hg) (hs := hs)
theorem fe_all (hc : X.calm = true) (hm : X.mg "all" = none) (h : FP cm X F W O e f) (hg : Gl X "all" := by rfl) (hs : starEach [e] X.env = (false, eval e X.env) :: starEach [] X.env := by rfl) : FE cm X F W O (.Call (.Name "all" p) [e] [] pos) (fG1 gAll f) := fe_cb (cr_all hc) op1_all f_all hm h (hg := hg) (hs := hs)
theorem fe_isi {y : Str} (t : String) {ff : A → Bool} {p2 : Pos} (hf : IsF t ff) (hm : X.mg "isinstance" = none) (hm2 : X.mg y = none) (h : FP cm X F W O e f) (hv2 : bootBuiltins y = some (.type t) := by decide +kernel) (hg : Gl X "isinstance" := by rfl) (hg2 : Gl X y := by rfl)
    (hn2 : y ≠ "__name__" := by decide) (hdb2 : (y == ("__debug__" : Str)) = false := by decide)
    (hs : starEach [e, .Name y p2] X.env = (false, eval e X.env) :: starEach [.Name y p2] X.env := by rfl) : FE cm X F W O (.Call (.Name "isinstance" p) [e, .Name y p2] [] pos) (fG1 (gIsi ff) f) := DE_imp (d_isi t hm hm2 h (hv2 := hv2) (hg := hg) (hg2 := hg2) (hn2 := hn2) (hdb2 := hdb2) (hs := hs)) (imp_1 (f_isi hf))
theorem fe_isi2 {y z : Str} (t u : String) {ff gg : A → Bool} {p2 p3 p4 : Pos} {kk : Nat} (hf : IsF t ff) (hg' : IsF u gg) (hm : X.mg "isinstance" = none) (hm2 : X.mg y = none) (hm3 : X.mg z = none) (h : FP cm X F W O e f) (hv2 : bootBuiltins y = some (.type t) := by decide +kernel) (hv3 : bootBuiltins z = some (.type u) := by decide +kernel)
    (hg : Gl X "isinstance" := by rfl) (hg2 : Gl X y := by rfl) (hg3 : Gl X z := by rfl) (hn2 : y ≠ "__name__" := by decide) (hdb2 : (y == ("__debug__" : Str)) = false := by decide) (hn3 : z ≠ "__name__" := by decide) (hdb3 : (z == ("__debug__" : Str)) = false := by decide)
    (hs : starEach [e, .Tuple [.Name y p2, .Name z p3] kk p4] X.env = (false, eval e X.env) :: starEach [.Tuple [.Name y p2, .Name z p3] kk p4] X.env := by rfl) : FE cm X F W O (.Call (.Name "isinstance" p) [e, .Tuple [.Name y p2, .Name z p3] kk p4] [] pos) (fG1 (gIsi fun a => ff a || gg a) f) :=
  DE_imp (d_isi2 t u hm hm2 hm3 h (hv2 := hv2) (hv3 := hv3) (hg := hg) (hg2 := hg2) (hg3 := hg3) (hn2 := hn2) (hdb2 := hdb2) (hn3 := hn3) (hdb3 := hdb3) (hs := hs)) (imp_1 (f_isi2 hf hg'))
end
end PF
namespace PF
open PySem PySem.Spec PyProof.Rows L2 PD
inductive Ct where
  | nx (e : Env) | rt (a : A) | bk (e : Env) | ct (e : Env) | ex (x : AX) (e : Env)
structure Os where
  nx : List Nat
  bk : List Nat
  ct : List Nat
  ow : Bool
def rv (cm : CM) (ow : Bool) (a : A) : SV := if ow then ownD cm a else .val (toD cm a)
def endC (cm : CM) (Z : Os) (E : DEnds) : Ct → Prop
  | .nx e => E.nx (mix cm Z.nx e)
  | .rt a => E.rt (rv cm Z.ow a)
  | .bk e => E.bk (mix cm Z.bk e)
  | .ct e => E.ct (mix cm Z.ct e)
  | .ex x e => ∀ O, E.ex (toX cm x) (mix cm O e)
def T.lift {α : Type} : T α → Env → (α → T Ct) → T Ct
  | .ret a, _, k => k a
  | .exc x, e, _ => .ret (.ex x e)
  | .bad, _, _ => .bad
  | .draw b m f, e, k => .draw b m fun i => (f i).lift e k
@[simp] theorem lift_ret {α : Type} (a : α) (e : Env) (k : α → T Ct) : (T.ret a).lift e k = k a := rfl
@[simp] theorem lift_exc {α : Type} (x : AX) (e : Env) (k : α → T Ct) : (T.exc x : T α).lift e k = .ret (.ex x e) := rfl
@[simp] theorem lift_bad {α : Type} (e : Env) (k : α → T Ct) : (T.bad : T α).lift e k = .bad := rfl
theorem wp_lift {α : Type} {bg : Option Addr} (t : T α) (e : Env) (k : α → T Ct) (q : Ct → Prop) (z : AX → Prop) : (t.lift e k).wp bg q z = t.wp bg (fun a => (k a).wp bg q z) (fun x => q (.ex x e)) := by
  induction t with
  | ret a => rfl
  | exc x => rfl
  | bad => rfl
  | draw b m k ih =>
    show (_ ∧ _) = (_ ∧ _)
    simp only [ih]
def cS (cm : CM) (bg : Option Addr) (O : List Nat) (Z : Os) (f : Env → T Ct) : WS := fun E ρ => ∃ env, ρ = mix cm O env ∧ (f env).wp bg (endC cm Z E) (fun _ => False)
def cV (cm : CM) (bg : Option Addr) (O : List Nat) (ow : Bool) (f : Env → T A) : WV := fun ρ kq kx => ∃ env, ρ = mix cm O env ∧ (f env).wp bg (fun a => kq (rv cm ow a) ρ) (fun x => kx (toX cm x) ρ)
abbrev FS (cm : CM) (X : Cx) (F : Fm) (W : WX) (O : List Nat) (Z : Os) (st : Stmt) (f : Env → T Ct) : Prop := DS X F W st (cS cm F.bag O Z f)
abbrev FSs (cm : CM) (X : Cx) (F : Fm) (W : WX) (O : List Nat) (Z : Os) (st : List Stmt) (f : Env → T Ct) : Prop := DSs X F W st (cS cm F.bag O Z f)
abbrev FV (cm : CM) (X : Cx) (F : Fm) (W : WX) (O : List Nat) (ow : Bool) (e : Expr) (f : Env → T A) : Prop := DV X F W e (cV cm F.bag O ow f)
abbrev FI (cm : CM) (X : Cx) (F : Fm) (W : WX) (O : List Nat) (tg e : Expr) (f : Env → T (List A)) : Prop := DI X F W tg e (cL cm F.bag O f)
section
variable {X : Cx} {F : Fm} {W : WX} {e : Expr} {st : Stmt} {sts : List Stmt}
theorem DV_imp {w w' : WV} (h : DV X F W e w) (hw : ∀ ρ kq kx, w' ρ kq kx → w ρ kq kx) : DV X F W e w' := by
  obtain ⟨t, p, q⟩ := h.ex
  exact ⟨t, p, fun S ρ σ H Q kq kx r h' => q S ρ σ H Q kq kx r (hw _ _ _ h')⟩
theorem DS_imp {w w' : WS} (h : DS X F W st w) (hw : ∀ E ρ, w' E ρ → w E ρ) : DS X F W st w' := by
  obtain ⟨t, p, q⟩ := h.ex
  exact ⟨t, p, fun S ρ σ H D E r h' => q S ρ σ H D E r (hw _ _ h')⟩
theorem DSs_imp {w w' : WS} (h : DSs X F W sts w) (hw : ∀ E ρ, w' E ρ → w E ρ) : DSs X F W sts w' := by
  obtain ⟨t, p, q⟩ := h.ex
  exact ⟨t, p, fun S ρ σ H D E r h' => q S ρ σ H D E r (hw _ _ h')⟩
end
def sq (g : Env → T Ct) : Ct → T Ct
  | .nx e => g e
  | c => .ret c
def fSeq (f g : Env → T Ct) : Env → T Ct := fun env => (f env).bind (sq g)
def fNext : Env → T Ct := fun env => .ret (.nx env)
def fIfS (c : Env → T Bool) (f g : Env → T Ct) : Env → T Ct := fun env => (c env).lift env fun b => if b then f env else g env
def fRet (f : Env → T A) : Env → T Ct := fun env => (f env).lift env fun a => .ret (.rt a)
def fAsg (i : Nat) (f : Env → T A) : Env → T Ct := fun env => (f env).lift env fun a => .ret (.nx (env.set i (some a)))
def fPar (i j : Nat) (f g : Env → T A) : Env → T Ct := fun env => (f env).lift env fun a => (g env).lift env fun b => .ret (.nx ((env.set i (some a)).set j (some b)))
abbrev TgF := A → Env → Option Env
def tName (i : Nat) : TgF := fun a env => some (env.set i (some a))
def tNils : List A → Env → Option Env := fun as env => match as with
  | [] => some env
  | _ => none
def tConss (g : TgF) (u : List A → Env → Option Env) : List A → Env → Option Env := fun as env => match as with
  | a :: r => (g a env).bind (u r)
  | [] => none
def tTup (n : Nat) (u : List A → Env → Option Env) : TgF := fun a env => match a with
  | .tup xs => if xs.length = n then u xs env else none
  | _ => none
def seqF : A → Option (List A)
  | .lst xs => some xs
  | .tup xs => some xs
  | .str l => some (l.map fun c => .str [c])
  | _ => none
def fSeqs (f : Env → T A) : Env → T (List A) := fun env => (f env).bind fun a => T.opt (seqF a)
def rangeA (n : Int) : List A := (List.range n.toNat).map fun i => .int (i : Nat)
def fRange (f : Env → T A) : Env → T (List A) := fun env => (f env).bind fun a => match a with
  | .int n => if -1000000000 < n ∧ n < 1000000000 then .ret (rangeA n) else .bad
  | _ => .bad
def zipF (xs ys : List A) : List A := (xs.zip ys).map fun q => .tup [q.1, q.2]
def fZip (f g : Env → T A) : Env → T (List A) := fun env => (f env).bind fun a => (g env).bind fun b => match a, b with
  | .lst xs, .lst ys => .ret (zipF xs ys)
  | .tup xs, .tup ys => .ret (zipF xs ys)
  | _, _ => .bad
def fForGo (g : TgF) (b : Env → T Ct) : List A → Env → T Ct
  | [], env => .ret (.nx env)
  | a :: as, env => match g a env with
    | none => .bad
    | some e => (b e).bind fun c => match c with
      | .nx e => fForGo g b as e
      | .ct e => fForGo g b as e
      | .bk e => .ret (.nx e)
      | .rt a => .ret (.rt a)
      | .ex x e => .ret (.ex x e)
def fFor (it : Env → T (List A)) (g : TgF) (b : Env → T Ct) : Env → T Ct := fun env => (it env).lift env fun items => fForGo g b items env
def fYes : Env → T Bool := fun _ => .ret true
def fLcGo (g : TgF) (t : Env → T Bool) (f : Env → T A) (env : Env) : List A → T (List A)
  | [] => .ret []
  | a :: as => match g a env with
    | none => .bad
    | some e => (t e).bind fun b => if b then (f e).bind fun c => (fLcGo g t f env as).bind fun r => .ret (c :: r) else fLcGo g t f env as
def free (vs : List Nat) (env : Env) : Bool := vs.all fun i => match env[i]? with
  | some (some _) => false
  | _ => true
def fLc (it : Env → T (List A)) (g : TgF) (t : Env → T Bool) (f : Env → T A) (vs : List Nat) : Env → T (List A) := fun env => if free vs env then (it env).bind fun items => (fLcGo g t f env items).calm.bind fun r => T.opt (small r) else .bad
def dropE (vs : List Nat) (env : Env) : Env := vs.foldl (fun e i => e.set i none) env
def fDrop (vs : List Nat) (f : Env → T Ct) : Env → T Ct := fun env => f (dropE vs env)
section
variable {cm : CM} {X : Cx} {F : Fm} {W : WX} {O O' : List Nat} {Z : Os} {e a b c tg iter : Expr} {es : List Expr} {f g h : Env → T A} {s t : Env → T Ct} {pos p : Pos} {st : Stmt} {rest body : List Stmt}
theorem ex_at {Z : Os} {E : DEnds} {x : AX} {env : Env} (O : List Nat) (h : endC cm Z E (.ex x env)) : E.ex (toX cm x) (mix cm O env) := h O
theorem fv_e (h : FE cm X F W O e f) : FV cm X F W O false e f := DV_imp (dv_e h) fun ρ kq kx hw => by
  obtain ⟨env, rfl, hw⟩ := hw
  exact ⟨env, rfl, hw⟩
theorem fe_v {ow : Bool} (h : FV cm X F W O ow e f) : FE cm X F W O e f := DE_imp (d_v h) fun ρ kq kx hw => by
  obtain ⟨env, rfl, hw⟩ := hw
  refine ⟨env, rfl, T.wp_mono hw (fun a k => ?_) fun _ k => k⟩
  cases ow with
  | false => exact k
  | true => cases a <;> exact k
theorem fss_nil (hs : sub Z.nx O = true := by rfl) : FSs cm X F W O Z [] fNext := ⟨_, pss_nil, fun S ρ σ H D E r hw l => by
  obtain ⟨env, rfl, hw⟩ := hw
  obtain ⟨S', e, r'⟩ := frzTo hs r
  exact l.nx S' _ σ H e r' hw⟩
theorem fss_cons {O1 : List Nat} (h1 : FS cm X F W O ⟨O1, Z.bk, Z.ct, Z.ow⟩ st s) (h2 : FSs cm X F W O1 Z rest t) : FSs cm X F W O Z (st :: rest) (fSeq s t) := DSs_imp (dss_cons h1 h2) fun E ρ hw => by
  obtain ⟨env, rfl, hw⟩ := hw
  unfold fSeq at hw
  rw [T.wp_bind] at hw
  refine ⟨env, rfl, T.wp_mono hw (fun c k => ?_) fun _ k => k⟩
  cases c with
  | nx e => exact ⟨e, rfl, k⟩
  | rt a => exact k
  | bk e => exact k
  | ct e => exact k
  | ex x e => exact k
theorem fs_frz (hs : sub O' O = true) (h : FS cm X F W O' Z st s) : FS cm X F W O Z st s := by
  obtain ⟨t, p, q⟩ := h.ex
  refine ⟨t, p, fun S ρ σ H D E r hw l => ?_⟩
  obtain ⟨env, rfl, hw⟩ := hw
  obtain ⟨S', e, r'⟩ := frzTo hs r
  exact q S' _ σ H D E r' ⟨env, rfl, hw⟩ (l.mono e)
theorem dropE_len (vs : List Nat) : ∀ env : Env, (dropE vs env).length = env.length := by
  induction vs with
  | nil => exact fun _ => rfl
  | cons i vs ih =>
    intro env
    show (dropE vs (env.set i none)).length = _
    rw [ih, List.length_set]
theorem dropE_get (vs : List Nat) : ∀ (env : Env) (j : Nat) (a : A), (dropE vs env)[j]? = some (some a) → env[j]? = some (some a) := by
  induction vs with
  | nil => exact fun _ _ _ h => h
  | cons i vs ih =>
    intro env j a h
    have h2 := ih (env.set i none) j a h
    by_cases e : i = j
    · subst e
      rw [List.getElem?_set] at h2
      split at h2
      · split at h2 <;> cases h2
      · rename_i c
        exact absurd rfl c
    · rw [List.getElem?_set_ne e] at h2
      exact h2
theorem fs_drop (vs : List Nat) (h : FS cm X F W O Z st s) : FS cm X F W O Z st (fDrop vs s) := by
  obtain ⟨t, p, q⟩ := h.ex
  refine ⟨t, p, fun S ρ σ H D E r hw l => ?_⟩
  obtain ⟨env, rfl, hw⟩ := hw
  refine q S (mix cm O (dropE vs env)) σ H D E (r.sub ?_ rfl fun j y hy => ⟨?_, rfl⟩) ⟨_, rfl, hw⟩ l
  · rw [mix_len, mix_len, dropE_len]
  · rw [mix_get] at hy ⊢
    cases g : (dropE vs env)[j]? with
    | none => rw [g] at hy; cases hy
    | some o =>
      cases o with
      | none => rw [g] at hy; cases hy
      | some a =>
        rw [dropE_get vs env j a g]
        rw [g] at hy
        exact hy
theorem fs_if {bs cs : List Stmt} {w : Env → T Bool} (hc : FT cm X F W O c w) (ha : FSs cm X F W O Z bs s) (hb : FSs cm X F W O Z cs t) : FS cm X F W O Z (.If c bs cs pos) (fIfS w s t) := DS_imp (ds_if hc ha hb) fun E ρ hw => by
  obtain ⟨env, rfl, hw⟩ := hw
  unfold fIfS at hw
  rw [wp_lift] at hw
  refine ⟨env, rfl, T.wp_mono hw (fun b k => ?_) fun x k => ex_at O k⟩
  cases b with
  | true => exact ⟨env, rfl, k⟩
  | false => exact ⟨env, rfl, k⟩
theorem fs_ret {ow : Bool} (h : FV cm X F W O ow e f) (hz : Z.ow = ow := by rfl) : FS cm X F W O Z (.Return (some e) pos) (fRet f) := DS_imp (ds_retV h) fun E ρ hw => by
  obtain ⟨env, rfl, hw⟩ := hw
  unfold fRet at hw
  rw [wp_lift] at hw
  subst hz
  exact ⟨env, rfl, T.wp_mono hw (fun a k => k) fun x k => ex_at O k⟩
theorem mix_setV {i : Nat} {env : Env} {a : A} (ho : O.contains i = false) : (mix cm O env).set i (some (.val (toD cm a))) = mix cm O (env.set i (some a)) := by
  rw [← mixAt_val (cm := cm) (a := a) ho, mix_set]
theorem mix_setO {i : Nat} {env : Env} {a : A} (ho : O.contains i = false) (hsl : ownI cm i a = ownD cm a) : (mix cm O env).set i (some (ownD cm a)) = mix cm (i :: O) (env.set i (some a)) := by
  apply List.ext_getElem?
  intro j
  have e1 : (i :: O).contains i = true := by simp
  by_cases e : i = j
  · subst e
    by_cases h : i < env.length
    · rw [List.getElem?_set_self (by rw [mix_len]; exact h), mix_get, List.getElem?_set_self h]
      rw [← hsl]
      exact congrArg some (mixAt_ownI e1).symm
    · rw [List.getElem?_eq_none (by rw [List.length_set, mix_len]; omega), mix_get, List.getElem?_eq_none (by rw [List.length_set]; omega)]
      rfl
  · rw [List.getElem?_set_ne e, mix_get, mix_get, List.getElem?_set_ne e]
    have e3 : (i :: O).contains j = O.contains j := by
      rw [List.contains_cons]
      have : (j == i) = false := by simpa using fun z => e z.symm
      rw [this, Bool.false_or]
    have : mixAt cm (i :: O) j = mixAt cm O j := by
      funext x
      unfold mixAt
      rw [e3]
    rw [this]
def addO (ow : Bool) (i : Nat) (O : List Nat) : List Nat := if ow then i :: O else O
theorem mix_setR {i : Nat} {env : Env} {a : A} {ow : Bool} (ho : O.contains i = false) (hsl : ow = true → (cm.slf == some i) = false) : (mix cm O env).set i (some (rv cm ow a)) = mix cm (addO ow i O) (env.set i (some a)) := by
  cases ow with
  | false => exact mix_setV ho
  | true => exact mix_setO ho (ownI_eq (hsl rfl))
theorem fs_set {i : Nat} {x : Str} {pos' : Pos} {ow : Bool} (hN : X.N.Nodup) (h : FV cm X F W O ow e f) (ho : O.contains i = false := by decide) (hsl : ow = true → (cm.slf == some i) = false := by intro _; rfl) (hz : Z.nx = addO ow i O := by rfl) (hi : X.N[i]? = some x := by rfl) (hx : Loc X.env.scope x := by first | exact Or.inl rfl | exact Or.inr rfl) (hs : swapsWith e (some (.Name x pos')) pos.line X.env = pure false := by rfl)
    (hf : X.fn x = true ∨ X.env.scope.names.lookup x = some .local := by first | exact .inl rfl | exact .inr rfl | assumption) : FS cm X F W O Z (.Assign [.Name x pos'] e pos) (fAsg i f) := DS_imp (ds_set hN h hi hx hs hf) fun E ρ hw => by
  obtain ⟨env, rfl, hw⟩ := hw
  unfold fAsg at hw
  rw [wp_lift] at hw
  refine ⟨env, rfl, T.wp_mono hw (fun a k => ?_) fun x k => ex_at O k⟩
  show E.nx ((mix cm O env).set i (some (rv cm ow a)))
  rw [mix_setR ho hsl]
  have k : E.nx (mix cm Z.nx (env.set i (some a))) := k
  rw [hz] at k
  exact k
theorem fs_par {i j : Nat} {x y : Str} {ow ow' : Bool} {px py pt : Pos} {kt k2 pt2} (hc : X.calm = true) (hN : X.N.Nodup) (ha : FV cm X F W O ow a f) (hb : FV cm X F W O ow' b g) (ho : O.contains i = false := by decide) (ho' : (addO ow i O).contains j = false := by decide) (hsl : ow = true → (cm.slf == some i) = false := by intro _; rfl) (hsl' : ow' = true → (cm.slf == some j) = false := by intro _; rfl) (hz : Z.nx = addO ow' j (addO ow i O) := by rfl)
    (hi : X.N[i]? = some x := by rfl) (hj : X.N[j]? = some y := by rfl) (hij : i ≠ j := by decide)
    (hx : X.env.scope.names.lookup x = some .local := by rfl) (hy : X.env.scope.names.lookup y = some .local := by rfl)
    (hw : swappedStores [.Tuple [.Name x px, .Name y py] kt pt] (.Tuple [a, b] k2 pt2) X.env = pure (some [x, y]) := by rfl)
    (hs : swapsWithSole [.Tuple [.Name x px, .Name y py] kt pt] (.Tuple [a, b] k2 pt2) pos.line X.env = pure false := by rfl)
    (hs1 : starEach [a, b] X.env = (false, eval a X.env) :: starEach [b] X.env := by rfl) (hs2 : starEach [b] X.env = (false, eval b X.env) :: starEach [] X.env := by rfl) :
    FS cm X F W O Z (.Assign [.Tuple [.Name x px, .Name y py] kt pt] (.Tuple [a, b] k2 pt2) pos) (fPar i j f g) := DS_imp (ds_par hc hN ha hb hi hj hij hx hy hw hs hs1 hs2) fun E ρ hw => by
  obtain ⟨env, rfl, hw⟩ := hw
  unfold fPar at hw
  rw [wp_lift] at hw
  refine ⟨env, rfl, T.wp_mono hw (fun a k => ?_) fun x k => ex_at O k⟩
  rw [wp_lift] at k
  refine ⟨env, rfl, T.wp_mono k (fun b k => ?_) fun x k => ex_at O k⟩
  show E.nx (((mix cm O env).set i (some (rv cm ow a))).set j (some (rv cm ow' b)))
  rw [mix_setR ho hsl, mix_setR ho' hsl']
  have k : E.nx (mix cm Z.nx ((env.set i (some a)).set j (some b))) := k
  rw [hz] at k
  exact k
def cG (cm : CM) (O : List Nat) (g : TgF) : WG := fun d ρ k => ∃ a env env', d = toD cm a ∧ ρ = mix cm O env ∧ g a env = some env' ∧ k (mix cm O env')
def cGs (cm : CM) (O : List Nat) (g : List A → Env → Option Env) : WGs := fun d ρ k => ∃ a env env', d = toDs cm a ∧ ρ = mix cm O env ∧ g a env = some env' ∧ k (mix cm O env')
abbrev FG (cm : CM) (X : Cx) (F : Fm) (O : List Nat) (e : Expr) (g : TgF) (ts : List Nat) (tg : TG) : Prop := DG X F e (cG cm O g) ts tg
abbrev FGs (cm : CM) (X : Cx) (F : Fm) (O : List Nat) (es : List Expr) (g : List A → Env → Option Env) (ts : List Nat) (tg : TGs) : Prop := DGs X F es (cGs cm O g) ts tg
theorem DG_imp {w w' : WG} {ts : List Nat} {tg : TG} (h : DG X F e w ts tg) (hw : ∀ d ρ k, w' d ρ k → w d ρ k) : DG X F e w' ts tg := ⟨h.pg, fun S ρ σ H d v Q k r rp h' hk => h.run S ρ σ H d v Q k r rp (hw _ _ _ h') hk⟩
theorem DGs_imp {w w' : WGs} {ts : List Nat} {tg : TGs} (h : DGs X F es w ts tg) (hw : ∀ d ρ k, w' d ρ k → w d ρ k) : DGs X F es w' ts tg := ⟨h.pg, fun S ρ σ H d v Q k r rp h' hk => h.run S ρ σ H d v Q k r rp (hw _ _ _ h') hk⟩
theorem fg (i : Nat) {x : Str} (hN : X.N.Nodup) (ho : O.contains i = false := by decide) (hi : X.N[i]? = some x := by rfl) (hx : Loc X.env.scope x := by first | exact Or.inl rfl | exact Or.inr rfl) (hf : X.fn x = true ∨ X.env.scope.names.lookup x = some .local := by first | exact .inl rfl | exact .inr rfl | assumption) : FG cm X F O (.Name x pos) (tName i) [i] (gName i) := DG_imp (dg i hN hi hx hf) fun d ρ k hw => by
  obtain ⟨a, env, env', rfl, rfl, e, hk⟩ := hw
  cases e
  show k ((mix cm O env).set i (some (.val (toD cm a))))
  rw [mix_setV ho]
  exact hk
theorem fgs_nil : FGs cm X F O [] tNils [] gNil := DGs_imp dgs_nil fun d ρ k hw => by
  obtain ⟨as, env, env', rfl, rfl, e, hk⟩ := hw
  cases as with
  | nil =>
    cases e
    exact hk
  | cons a r => cases e
theorem fgs_cons {w : TgF} {u : List A → Env → Option Env} {ts us : List Nat} {gg : TG} {gs : TGs} (h : FG cm X F O e w ts gg) (hs : FGs cm X F O es u us gs) (hh : (assignEach (e :: es) X.env).map (·.2) = assign e X.env :: (assignEach es X.env).map (·.2) := by rfl) : FGs cm X F O (e :: es) (tConss w u) (ts ++ us) (gCons gg gs) := DGs_imp (dgs_cons h hs hh) fun d ρ k hw => by
  obtain ⟨as, env, env', rfl, rfl, e, hk⟩ := hw
  cases as with
  | nil => cases e
  | cons a r =>
    have e : (w a env).bind (u r) = some env' := e
    cases h1 : w a env with
    | none => rw [h1] at e; cases e
    | some e1 =>
      rw [h1] at e
      exact ⟨a, env, e1, rfl, rfl, h1, r, e1, env', rfl, rfl, e, hk⟩
theorem fg_tup (K : PySem.W.Frag) (n : Nat) {kk : Nat} {u : List A → Env → Option Env} {us : List Nat} {gs : TGs} (hc : X.calm = true) (h : FGs cm X F O es u us gs) (hK : X.K = K := by rfl) (hn : (assignEach es X.env).length = n := by rfl) (hst : (assignEach es X.env).findIdx? (·.1) = none := by rfl) : FG cm X F O (.Tuple es kk pos) (tTup n u) us (gTup K n gs) := DG_imp (dg_tup K n hc h hK hn hst) fun d ρ k hw => by
  obtain ⟨a, env, env', rfl, rfl, e, hk⟩ := hw
  unfold tTup at e
  split at e
  · rename_i xs
    split at e
    · rename_i hl
      rw [toD_tup]
      exact ⟨by rw [toDs_len]; exact hl, xs, env, env', rfl, rfl, e, hk⟩
    · cases e
  · cases e
theorem signs_A (l : List Nat) : PD.signs (tx l) = toDs cm (l.map fun c => .str [c]) := by
  rw [tx_signs, toDs_map, List.map_map]
  rfl
theorem fi_seq (h : FE cm X F W O e f) : FI cm X F W O tg e (fSeqs f) := DI_imp (di_seq h) fun ρ kq kx hw => by
  obtain ⟨env, rfl, hw⟩ := hw
  unfold fSeqs at hw
  rw [T.wp_bind] at hw
  refine ⟨env, rfl, T.wp_mono hw (fun a k => ?_) fun x k => k⟩
  obtain ⟨c, e, k⟩ := T.wp_opt k
  unfold seqF at e
  split at e
  · cases e
    rw [toD_lst]
    exact k
  · cases e
    rw [toD_tup]
    exact k
  · rename_i l
    cases e
    show kq (PD.signs (tx l)) _
    rw [signs_A (cm := cm)]
    exact k
  · cases e
theorem range_A (n : Int) : rangeD n = toDs cm (rangeA n) := by
  unfold rangeD rangeA
  rw [toDs_map, List.map_map]
  rfl
theorem fi_range (hm : X.mg "range" = none) (h : FE cm X F W O e f) (hg : Gl X "range" := by rfl) (hs : starEach [e] X.env = [(false, eval e X.env)] := by rfl) : FI cm X F W O tg (.Call (.Name "range" p) [e] [] pos) (fRange f) := DI_imp (di_range hm h hg hs) fun ρ kq kx hw => by
  obtain ⟨env, rfl, hw⟩ := hw
  unfold fRange at hw
  rw [T.wp_bind] at hw
  refine ⟨env, rfl, T.wp_mono hw (fun a k => ?_) fun x k => k⟩
  split at k
  · rename_i n
    split at k
    · rename_i hn
      refine ⟨⟨by omega, by omega⟩, ?_⟩
      rw [range_A (cm := cm)]
      exact k
    · exact k.elim
  · exact k.elim
theorem zip_F (xs ys : List A) : pairs (toDs cm xs) (toDs cm ys) = toDs cm (zipF xs ys) := by
  unfold pairs zipF
  rw [toDs_map, toDs_map, toDs_map, List.map_map, List.zip_map, List.map_map]
  apply List.map_congr_left
  intro q _
  show D.tup [toD cm q.1, toD cm q.2] = toD cm (.tup [q.1, q.2])
  rw [toD_tup]
  rfl
theorem fi_zip {elts : List Expr} {kk : Nat} {tpos : Pos} (hm : X.mg "zip" = none) (ha : FE cm X F W O a f) (hb : FE cm X F W O b g) (hg : Gl X "zip" := by rfl) (hs : starEach [a, b] X.env = (false, eval a X.env) :: starEach [b] X.env := by rfl) (hs2 : starEach [b] X.env = (false, eval b X.env) :: starEach [] X.env := by rfl)
    (hpl : (backTo pos (starEach [b] X.env)).any (·.1) = false := by rfl) : FI cm X F W O (.Tuple elts kk tpos) (.Call (.Name "zip" p) [a, b] [] pos) (fZip f g) := DI_imp (di_zipA hm ha hb hg hs hs2 hpl) fun ρ kq kx hw => by
  obtain ⟨env, rfl, hw⟩ := hw
  unfold fZip at hw
  rw [T.wp_bind] at hw
  refine ⟨env, rfl, T.wp_mono hw (fun a k1 => ?_) fun x k => k⟩
  rw [T.wp_bind] at k1
  refine ⟨env, rfl, T.wp_mono k1 (fun b k => ?_) fun x k => k⟩
  clear k1
  split at k
  · rename_i xs ys
    rw [toD_lst, toD_lst]
    show kq (pairs (toDs cm xs) (toDs cm ys)) _
    rw [zip_F]
    exact k
  · rename_i xs ys
    rw [toD_tup, toD_tup]
    show kq (pairs (toDs cm xs) (toDs cm ys)) _
    rw [zip_F]
    exact k
  · exact k.elim
theorem imp_for {bg : Option Addr} {gt : TgF} {E : DEnds} (hn : Z.nx = O) : ∀ (items : List A) (env : Env), (fForGo gt s items env).wp bg (endC cm Z E) (fun _ => False) →
    forGo (cG cm O gt) (cS cm bg O ⟨O, O, O, Z.ow⟩ s) E (toDs cm items) (mix cm O env)
  | [], env, hw => by
    have hw : E.nx (mix cm Z.nx env) := hw
    rw [hn] at hw
    exact hw
  | a :: as, env, hw => by
    unfold fForGo at hw
    unfold toDs
    split at hw
    · exact hw.elim
    · rename_i e he
      refine ⟨a, env, e, rfl, rfl, he, e, rfl, ?_⟩
      rw [T.wp_bind] at hw
      refine T.wp_mono hw (fun c k => ?_) fun _ k => k
      cases c with
      | nx e => exact imp_for hn as e k
      | ct e => exact imp_for hn as e k
      | bk e =>
        have k : E.nx (mix cm Z.nx e) := k
        rw [hn] at k
        exact k
      | rt a => exact k
      | ex x e => exact k
theorem fs_for {w : Env → T (List A)} {gt : TgF} {ts : List Nat} {gg : TG} (hp : PassesOwn (model X.prog X.w) X.A X.env X.xe) (hc : X.calm = true) (hi : FI cm X F W O tg iter w) (hg : FG cm X F O tg gt ts gg) (hb : FSs cm X F W O ⟨O, O, O, Z.ow⟩ body s)
    (hz : Z.nx = O := by rfl) (hsw : ∀ x, foldedSetIterable iter X.env x = pure x := by intro _; rfl) : FS cm X F W O Z (.For tg iter body [] pos) (fFor w gt s) := DS_imp (ds_for hp hc hi hg hb hsw) fun E ρ hw => by
  obtain ⟨env, rfl, hw⟩ := hw
  unfold fFor at hw
  rw [wp_lift] at hw
  exact ⟨env, rfl, T.wp_mono hw (fun a k => imp_for hz a env k) fun x k => ex_at O k⟩
end
end PF
namespace PF
open PySem PySem.Spec PyProof.Rows L2 PD
section
variable {cm : CM} {X : Cx} {F : Fm} {W : WX} {O : List Nat} {Z : Os} {e a b c tg iter elt : Expr} {es ifs : List Expr} {f g : Env → T A} {s t : Env → T Ct} {pos p : Pos} {scope : Scope}
theorem toDs_cons (a : A) (as : List A) : toDs cm (a :: as) = toD cm a :: toDs cm as := by rw [toDs_map, toDs_map, List.map_cons]
theorem T.wp_some {α : Type} {bg : Option Addr} {t : T α} {q : α → Prop} (h : t.wp bg q (fun _ => False)) : ∃ a, q a := by
  induction t with
  | ret a => exact ⟨a, h⟩
  | exc x => exact h.elim
  | bad => exact h.elim
  | draw b m k ih => exact ih 0 (h.2 0 (Int.le_refl 0) h.1.2.1)
theorem T.wp_calm0 {α : Type} {bg : Option Addr} {t : T α} {q : α → Prop} {k : AX → Prop} (h : t.calm.wp bg q k) : t.wp bg q (fun _ => False) := T.wp_calm h
theorem wipe_free : ∀ {vs : List Nat} {env : Env}, free vs env = true → wipeD (mix cm O env) vs = mix cm O env
  | [], env, _ => rfl
  | v :: vs, env, h => by
    unfold free at h
    rw [List.all_cons, Bool.and_eq_true] at h
    unfold wipeD
    rw [wipe_free (vs := vs) h.2]
    apply List.ext_getElem?
    intro j
    by_cases e : v = j
    · subst e
      by_cases hl : v < (mix cm O env).length
      · rw [List.getElem?_set_self hl, mix_get]
        cases g : env[v]? with
        | none =>
          rw [mix_len] at hl
          rw [List.getElem?_eq_none_iff] at g
          omega
        | some o =>
          cases o with
          | none => rfl
          | some a => rw [g] at h; cases h.1
      · rw [List.getElem?_eq_none (by rw [List.length_set]; omega), List.getElem?_eq_none (by omega)]
    · rw [List.getElem?_set_ne e]
theorem imp_lc {bg : Option Addr} {gt : TgF} {wt : Env → T Bool} {kx : KX} {env : Env} : ∀ (items acc : List A) (k : List D → Prop), (fLcGo gt wt f env items).wp bg (fun r => (acc ++ r).length ≤ big ∧ k (toDs cm (acc ++ r))) (fun _ => False) →
    lcGo (cG cm O gt) (cT cm bg O wt) (cE cm bg O f) (mix cm O env) kx (toDs cm items) (toDs cm acc) k
  | [], acc, k, hw => by
    obtain ⟨_, h2⟩ := hw
    rw [List.append_nil] at h2
    exact h2
  | a :: as, acc, k, hw => by
    unfold fLcGo at hw
    rw [toDs_cons]
    split at hw
    · exact hw.elim
    · rename_i e he
      refine ⟨a, env, e, rfl, rfl, he, e, rfl, ?_⟩
      rw [T.wp_bind] at hw
      refine T.wp_mono hw (fun b k1 => ⟨rfl, ?_⟩) fun _ k => k
      cases b with
      | true =>
        refine ⟨e, rfl, ?_⟩
        have k1 : ((f e).bind fun c => (fLcGo gt wt f env as).bind fun r => T.ret (c :: r)).wp bg (fun r => (acc ++ r).length ≤ big ∧ k (toDs cm (acc ++ r))) (fun _ => False) := k1
        rw [T.wp_bind] at k1
        refine T.wp_mono k1 (fun c k2 => ⟨rfl, ?_, ?_⟩) fun _ k => k
        · rw [T.wp_bind] at k2
          obtain ⟨r, hr, _⟩ := T.wp_some k2
          rw [List.length_append, List.length_cons] at hr
          rw [toDs_len]
          have hr : acc.length + (r.length + 1) ≤ 10000000 := hr
          omega
        · rw [T.wp_bind] at k2
          have e1 : toDs cm acc ++ [toD cm c] = toDs cm (acc ++ [c]) := by rw [toDs_app]; rfl
          rw [e1]
          refine imp_lc as (acc ++ [c]) k (T.wp_mono k2 (fun r k3 => ?_) fun _ k => k)
          have e2 : acc ++ [c] ++ r = acc ++ c :: r := by simp
          rw [e2]
          exact k3
      | false => exact imp_lc as acc k k1
theorem imp_Lc {bg : Option Addr} {it : Env → T (List A)} {gt : TgF} {wt : Env → T Bool} {vs : List Nat} : ∀ ρ kq kx, cL cm bg O (fLc it gt wt f vs) ρ kq kx → wLc (cL cm bg O it) (cG cm O gt) (cT cm bg O wt) (cE cm bg O f) vs ρ kq kx := fun ρ kq kx hw => by
  obtain ⟨env, rfl, hw⟩ := hw
  unfold fLc at hw
  split at hw
  · rename_i hv
    rw [T.wp_bind] at hw
    refine ⟨env, rfl, T.wp_mono hw (fun items k => ?_) fun x k => k⟩
    dsimp only
    rw [wipe_free hv]
    rw [T.wp_bind] at k
    have k := T.wp_calm0 k
    refine imp_lc items [] _ (T.wp_mono k (fun r k => ?_) fun _ k => k)
    obtain ⟨ys, e, k2⟩ := T.wp_opt k
    obtain ⟨hl, e2⟩ := small_eq e
    subst e2
    exact ⟨hl, k2⟩
  · exact hw.elim
abbrev FTs (cm : CM) (X : Cx) (F : Fm) (W : WX) (O : List Nat) (es : List Expr) (f : Env → T Bool) : Prop := DTs X F W es (cT cm F.bag O f)
theorem fts_nil : FTs cm X F W O [] fYes := by
  obtain ⟨t, p, q⟩ := (dts_nil (X := X) (F := F) (W := W)).ex
  refine ⟨t, p, fun S ρ σ H Q kq kx r hw => q S ρ σ H Q kq kx r ?_⟩
  obtain ⟨env, rfl, hw⟩ := hw
  exact hw
theorem fl_lc {own : List (Str × Nat)} {w : Env → T (List A)} {gt : TgF} {ts : List Nat} {gg : TG} {wt : Env → T Bool} (hc : X.calm = true) (hN : X.N.Nodup) (hi : FI cm X F W O tg iter w) (ok : BlkOk X.N X.env.scope scope own)
    (hg : ∀ (s : Shared) (H : Hp) (C : Addr) (cl : List (Str × Addr)) (fp : List Addr), FG cm (X.blk s H scope (compEnvC scope cl C X.env) fp) F O tg gt ts gg) (ht : ∀ (s : Shared) (H : Hp) (C : Addr) (cl : List (Str × Addr)) (fp : List Addr), FTs cm (X.blk s H scope (compEnvC scope cl C X.env) fp) F W0 O ifs wt)
    (he : ∀ (s : Shared) (H : Hp) (C : Addr) (cl : List (Str × Addr)) (fp : List Addr), FE cm (X.blk s H scope (compEnvC scope cl C X.env) fp) F W0 O elt f) (hts : ∀ j ∈ ts, j ∈ own.map (·.2) := by decide) (hs : ∀ x, foldedSetIterable iter X.env x = pure x := by intro _; rfl) :
    FL cm X F W O (.ListComp elt [⟨tg, iter, ifs, 0⟩] scope pos) (fLc w gt wt f (own.map (·.2))) := DL_imp (dl_lc hc hN hi ok hg ht he hts hs) imp_Lc
theorem fs_setLc {i : Nat} {y : Str} {py spos : Pos} {own : List (Str × Nat)} {w : Env → T (List A)} {gt : TgF} {ts : List Nat} {gg : TG} {wt : Env → T Bool} (hc : X.calm = true) (hN : X.N.Nodup) (hi : FI cm X F W O tg iter w) (ok : BlkOk X.N X.env.scope scope own)
    (hg : ∀ (s : Shared) (H : Hp) (C : Addr) (cl : List (Str × Addr)) (fp : List Addr), FG cm (X.blk s H scope (compEnvC scope cl C X.env) fp) F O tg gt ts gg) (ht : ∀ (s : Shared) (H : Hp) (C : Addr) (cl : List (Str × Addr)) (fp : List Addr), FTs cm (X.blk s H scope (compEnvC scope cl C X.env) fp) F W0 O ifs wt)
    (he : ∀ (s : Shared) (H : Hp) (C : Addr) (cl : List (Str × Addr)) (fp : List Addr), FE cm (X.blk s H scope (compEnvC scope cl C X.env) fp) F W0 O elt f) (ho : O.contains i = false := by decide) (hz : Z.nx = i :: O := by rfl) (hy : X.N[i]? = some y := by rfl) (hyl : X.env.scope.names.lookup y = some .local := by rfl)
    (hsw : swapsWith (.ListComp elt [⟨tg, iter, ifs, 0⟩] scope pos) (some (.Name y py)) spos.line X.env = pure true := by exact sw_true rfl rfl rfl (by decide +kernel)) (hts : ∀ j ∈ ts, j ∈ own.map (·.2) := by decide) (hs : ∀ x, foldedSetIterable iter X.env x = pure x := by intro _; rfl) :
    FS cm X F W O Z (.Assign [.Name y py] (.ListComp elt [⟨tg, iter, ifs, 0⟩] scope pos) spos) (fAsg i (fVal (fLc w gt wt f (own.map (·.2))))) := DS_imp (ds_setLc hc hN hi ok hg ht he hy hyl hsw hts hs) fun E ρ hw => by
  obtain ⟨env, rfl, hw⟩ := hw
  unfold fAsg fVal at hw
  rw [wp_lift, T.wp_bind] at hw
  refine imp_Lc _ _ _ ⟨env, rfl, T.wp_mono hw (fun a k => ?_) fun x k => ex_at O k⟩
  show E.nx ((mix cm O env).set i (some (ownD cm (.lst a))))
  rw [mix_setO ho (ownI_lst _)]
  have k : E.nx (mix cm Z.nx (env.set i (some (.lst a)))) := k
  rw [hz] at k
  exact k
end
end PF
namespace PF
open PySem PySem.Spec PyProof.Rows L2 PD
def startE (n : Nat) (as : List A) : Env := as.map some ++ List.replicate (n - as.length) none
def finC : Ct → T A
  | .nx _ => .ret .non
  | .rt a => .ret a
  | .ex x _ => .exc x
  | .bk _ => .bad
  | .ct _ => .bad
def T.fin : T Ct → T A
  | .ret c => finC c
  | .exc _ => .bad
  | .bad => .bad
  | .draw b m k => .draw b m fun i => (k i).fin
@[simp] theorem fin_nx (e : Env) : (T.ret (.nx e)).fin = .ret .non := rfl
@[simp] theorem fin_rt (a : A) : (T.ret (.rt a)).fin = .ret a := rfl
@[simp] theorem fin_ex (x : AX) (e : Env) : (T.ret (.ex x e)).fin = .exc x := rfl
@[simp] theorem fin_bad : (T.bad : T Ct).fin = .bad := rfl
theorem wp_fin {bg : Option Addr} (t : T Ct) (q : A → Prop) (z : AX → Prop) : t.fin.wp bg q z = t.wp bg (fun c => (finC c).wp bg q z) (fun _ => False) := by
  induction t with
  | ret c => rfl
  | exc x => rfl
  | bad => rfl
  | draw b m k ih =>
    show (_ ∧ _) = (_ ∧ _)
    simp only [ih]
def fdef (n : Nat) (b : Env → T Ct) : List A → T A := fun as => (b (startE n as)).fin
def spF (cm : CM) (np : Nat) (ow : Bool) (f : List A → T A) : SpD := fun β ds kq kx => ∃ as : List A, as.length = np ∧ ds = toDs cm as ∧ (f as).wp β (fun a => kq (rv cm ow a)) (fun x => kx (toX cm x))
theorem start_mix {cm : CM} {N : List Str} (as : List A) : startD N (toDs cm as) = mix cm [] (startE N.length as) := by
  have key : ∀ (x : Option A) (i : Nat), mixAt cm [] i x = x.map fun a => .val (toD cm a) := fun x i => by
    cases x <;> rfl
  apply List.ext_getElem?
  intro j
  rw [mix_get]
  unfold startD startE
  by_cases h : j < as.length
  · rw [List.getElem?_append_left (by simpa [toDs_len] using h), List.getElem?_append_left (by simpa using h), toDs_map, List.map_map, List.getElem?_map, List.getElem?_map, List.getElem?_eq_getElem h]
    rfl
  · rw [List.getElem?_append_right (by simpa [toDs_len] using h), List.getElem?_append_right (by simpa using h)]
    simp only [List.length_map, toDs_len, List.getElem?_replicate]
    split <;> rfl
section
variable {P : Program} {w : World} {K : PySem.W.Frag} {mg : Str → Option Value} {base : Heap} {cm : CM}
theorem okF {x qual : Str} {st : Stmt} {f : Addr} {fd : FuncData} {N ps : List Str} {k : Nat} {ow : Bool} {body : Env → T Ct} (F : Fun K x qual st f fd) (S : FnScope N ps (defScope st))
    (h : ∀ (cdv : Value) (A : Around) (outer : List PySem.Env) (s : Shared) (H : Hp) (E : XK) (Fm : Fm), Room k (cxD P w K mg base N qual (defScope st) f cdv A outer s H E).A →
      FSs cm (cxD P w K mg base N qual (defScope st) f cdv A outer s H E) Fm (wxD E) [] ⟨[], [], [], ow⟩ (defBody st) body) : FnOk P w K mg base (CXq P w) (k + 1) f fd ps (spD K (spF cm ps.length ow (fdef N.length body))) := by
  refine okD F S (fun β ds kq kx hs => ?_) (fun cdv A outer s H E Fm hr => ⟨_, h cdv A outer s H E Fm hr, fun ds kq kx hs => ?_⟩)
  · obtain ⟨as, hl, rfl, _⟩ := hs
    rw [toDs_len, hl]
  · obtain ⟨as, hl, rfl, hs⟩ := hs
    unfold fdef at hs
    rw [wp_fin] at hs
    have key : (body (startE N.length as)).wp Fm.bag (endC cm ⟨[], [], [], ow⟩ (endsOf kq kx)) (fun _ => False) := T.wp_mono hs (fun c k => by
      cases c with
      | nx e =>
        have k : kq (rv cm ow .non) := k
        cases ow <;> exact k
      | rt a => exact k
      | bk e => exact k.elim
      | ct e => exact k.elim
      | ex x e => exact fun _ => k) fun _ k => k
    exact ⟨_, start_mix as, key⟩
theorem okF_no {k : Nat} {f : Addr} {fd : FuncData} {ps : List Str} {np : Nat} {ow : Bool} : FnOk P w K mg base (CXq P w) k f fd ps (spD K (spF cm np ow fun _ => .bad)) := fnOk_no fun β ds kq kx ⟨_, _, _, h⟩ => h
theorem okF_imp {k : Nat} {f : Addr} {fd : FuncData} {ps : List Str} {sp sp' : SpD} (F : FnOk P w K mg base (CXq P w) k f fd ps (spD K sp)) (h : ∀ β ds kq kx, sp' β ds kq kx → sp β ds kq kx) : FnOk P w K mg base (CXq P w) k f fd ps (spD K sp') := F.imp fun vs H Q E hs => by
  obtain ⟨S, β, ds, kq, kx, a, b, c, d, r⟩ := hs
  exact ⟨S, β, ds, kq, kx, a, b, c, h _ _ _ _ d, r⟩
def fDraw : List A → T A
  | [.ref b, .int m] => if 0 < m ∧ m < 1073741824 then .draw b m fun i => .ret (.int i) else .bad
  | _ => .bad
theorem draw_F {β : Option Addr} {ds : List D} {kq : SV → Prop} {kx : DX → Prop} (h : spF cm 2 false fDraw β ds kq kx) : spDraw β ds kq kx := by
  obtain ⟨as, hl, rfl, h⟩ := h
  unfold fDraw at h
  split at h
  · rename_i b m
    split at h
    · rename_i hm
      exact ⟨b, m, h.1.1, rfl, hm.1, hm.2, h.2⟩
    · exact h.elim
  · exact h.elim
end
def fCallK (n m : Nat) (idx : List Nat) (dd : List A) (f : List A → T A) (u uk : Env → T (List A)) : Env → T A := fun env => (u env).bind fun as => (uk env).bind fun zs => if as.length = n ∧ zs.length = m then f (pick idx (as ++ zs ++ dd)) else .bad
section
variable {cm : CM} {X : Cx} {F : Fm} {W : WX} {O : List Nat} {k n m np : Nat} {f : Addr} {fd : FuncData} {ps ks : List Str} {ow : Bool} {ff : List A → T A} {dvs : List V} {dd : List A} {us : List Value} {x : Str} {p pos : Pos} {e : Expr} {es : List Expr} {kws : List Keyword} {idx : List Nat} {u uk : Env → T (List A)}
theorem toDs_pick (xs : List A) : ∀ idx : List Nat, toDs cm (pick idx xs) = pick idx (toDs cm xs)
  | [] => rfl
  | i :: idx => by
    have ih := toDs_pick xs idx
    unfold pick at ih ⊢
    cases h : xs[i]? with
    | none =>
      have h2 : (toDs cm xs)[i]? = none := by rw [toDs_get, h]; rfl
      rw [List.filterMap_cons_none h, List.filterMap_cons_none h2]
      exact ih
    | some a =>
      have h2 : (toDs cm xs)[i]? = some (toD cm a) := by rw [toDs_get, h]; rfl
      rw [List.filterMap_cons_some h, List.filterMap_cons_some h2, toDs_cons, ih]
end
def startB (n : Nat) (b : Addr) : Env := (List.replicate n none).set 1 (some (.ref b))
theorem startB_mix {cm : CM} {N : List Str} {b : Addr} : startL N b = mix cm [] (startB N.length b) := by
  unfold startL startB
  rw [← mix_set]
  have e : mix cm [] (List.replicate N.length none) = List.replicate N.length none := by
    apply List.ext_getElem?
    intro j
    rw [mix_get, List.getElem?_replicate, List.getElem?_replicate]
    split <;> rfl
  rw [e]
  rfl
section
variable {P : Program} {w : World} {K : PySem.W.Frag} {mg : Str → Option Value} {base : Heap} {cm : CM}
end
end PF
namespace PF
open PySem PySem.Spec PyProof.Rows L2 PD
@[simp] theorem wp_ret {α : Type} {bg : Option Addr} (a : α) (q : α → Prop) (e : AX → Prop) : (T.ret a).wp bg q e = q a := rfl
@[simp] theorem wp_exc {α : Type} {bg : Option Addr} (x : AX) (q : α → Prop) (e : AX → Prop) : (T.exc x : T α).wp bg q e = e x := rfl
@[simp] theorem wp_bad {α : Type} {bg : Option Addr} (q : α → Prop) (e : AX → Prop) : (T.bad : T α).wp bg q e = False := rfl
@[simp] theorem finC_rt (a : A) : finC (.rt a) = .ret a := rfl
@[simp] theorem finC_nx (e : Env) : finC (.nx e) = .ret .non := rfl
@[simp] theorem finC_ex (x : AX) (e : Env) : finC (.ex x e) = .exc x := rfl
section
variable (env : Env) (f g h : Env → T A) (s t : Env → T Ct) (w u : Env → T Bool) (fs gs : Env → T (List A))
@[simp] theorem e_C (a : A) : fC a env = .ret a := rfl
@[simp] theorem e_Var (i : Nat) : fVar i env = match env[i]? with | some (some a) => .ret a | _ => .bad := rfl
@[simp] theorem e_Pair : fPair f g env = (f env).bind fun a => (g env).bind fun b => .ret (a, b) := rfl
@[simp] theorem e_Op (o : G2) (p : Env → T (A × A)) : fOp o p env = (p env).bind fun p => T.opt (o p.1 p.2) := rfl
@[simp] theorem e_OpL (o : G2L) (p : Env → T (A × A)) : fOpL o p env = (p env).bind fun p => T.opt (o p.1 p.2) := rfl
@[simp] theorem e_asB (b : Bool) : asB (.bl b) = .ret b := rfl
@[simp] theorem e_Tst : fTst f env = (f env).bind asB := rfl
@[simp] theorem e_Or : fOr w u env = (w env).bind fun b => if b then .ret true else u env := rfl
@[simp] theorem e_Not : fNot w env = (w env).bind fun b => .ret (!b) := rfl
@[simp] theorem e_If : fIf w f g env = (w env).bind fun b => if b then f env else g env := rfl
@[simp] theorem e_AndV : fAndV f g env = (f env).bind fun a => (asB a).bind fun b => if b then g env else .ret (.bl false) := rfl
@[simp] theorem e_Nil : fNil env = .ret [] := rfl
@[simp] theorem e_Cons : fCons f fs env = (f env).bind fun a => (fs env).bind fun r => .ret (a :: r) := rfl
@[simp] theorem e_Tup : fTup fs env = (fs env).bind fun xs => (T.opt (small xs)).bind fun xs => .ret (.tup xs) := rfl
@[simp] theorem e_Lst : fLst fs env = (fs env).bind fun xs => T.opt (small xs) := rfl
@[simp] theorem e_Val : fVal fs env = (fs env).bind fun xs => .ret (.lst xs) := rfl
@[simp] theorem e_G1 (o : G1) : fG1 o f env = (f env).bind fun a => T.opt (o a) := rfl
@[simp] theorem e_Seq : fSeq s t env = (s env).bind (sq t) := rfl
@[simp] theorem e_sq (e : Env) : sq t (.nx e) = t e := rfl
@[simp] theorem e_sq_rt (a : A) : sq t (.rt a) = .ret (.rt a) := rfl
@[simp] theorem e_sq_ex (x : AX) (e : Env) : sq t (.ex x e) = .ret (.ex x e) := rfl
@[simp] theorem e_sq_bk (e : Env) : sq t (.bk e) = .ret (.bk e) := rfl
@[simp] theorem e_sq_ct (e : Env) : sq t (.ct e) = .ret (.ct e) := rfl
@[simp] theorem e_Next : fNext env = .ret (.nx env) := rfl
@[simp] theorem e_IfS : fIfS w s t env = (w env).lift env fun b => if b then s env else t env := rfl
@[simp] theorem e_Ret : fRet f env = (f env).lift env fun a => .ret (.rt a) := rfl
@[simp] theorem e_Asg (i : Nat) : fAsg i f env = (f env).lift env fun a => .ret (.nx (env.set i (some a))) := rfl
@[simp] theorem e_Par (i j : Nat) : fPar i j f g env = (f env).lift env fun a => (g env).lift env fun b => .ret (.nx ((env.set i (some a)).set j (some b))) := rfl
@[simp] theorem e_tName (i : Nat) (a : A) : tName i a env = some (env.set i (some a)) := rfl
@[simp] theorem e_tNils : tNils [] env = some env := rfl
@[simp] theorem e_tConss (k : TgF) (v : List A → Env → Option Env) (a : A) (r : List A) : tConss k v (a :: r) env = (k a env).bind (v r) := rfl
@[simp] theorem e_tTup (n : Nat) (v : List A → Env → Option Env) (xs : List A) : tTup n v (.tup xs) env = if xs.length = n then v xs env else none := rfl
@[simp] theorem e_Seqs : fSeqs f env = (f env).bind fun a => T.opt (seqF a) := rfl
@[simp] theorem e_Range (n : Int) : fRange (fC (.int n)) env = if -1000000000 < n ∧ n < 1000000000 then .ret (rangeA n) else .bad := rfl
theorem e_RangeF : fRange f env = (f env).bind fun a => match a with | .int n => if -1000000000 < n ∧ n < 1000000000 then .ret (rangeA n) else .bad | _ => .bad := rfl
@[simp] theorem e_For (k : TgF) : fFor fs k s env = (fs env).lift env fun items => fForGo k s items env := rfl
@[simp] theorem e_Drop (vs : List Nat) : fDrop vs s env = s (dropE vs env) := rfl
@[simp] theorem e_CallK (n m : Nat) (idx : List Nat) (dd : List A) (ff : List A → T A) : fCallK n m idx dd ff fs gs env = (fs env).bind fun as => (gs env).bind fun zs => if as.length = n ∧ zs.length = m then ff (pick idx (as ++ zs ++ dd)) else .bad := rfl
end
@[simp] theorem seqF_lst (xs : List A) : seqF (.lst xs) = some xs := rfl
@[simp] theorem seqF_tup (xs : List A) : seqF (.tup xs) = some xs := rfl
@[simp] theorem seqF_str (l : List Nat) : seqF (.str l) = some (l.map fun c => .str [c]) := rfl
@[simp] theorem pick_nil {α : Type} (xs : List α) : pick [] xs = [] := rfl
@[simp] theorem pick_cons {α : Type} (i : Nat) (r : List Nat) (xs : List α) (a : α) (h : xs[i]? = some a) : pick (i :: r) xs = a :: pick r xs := by
  unfold pick
  rw [List.filterMap_cons_some h]
@[simp] theorem gI_int (f : Int → Int → A) (i j : Int) : gI f (.int i) (.int j) = some (f i j) := rfl
@[simp] theorem gIC_int (C : Int → Int → Bool) (f : Int → Int → A) (i j : Int) : gIC C f (.int i) (.int j) = if C i j then some (f i j) else none := rfl
@[simp] theorem gCat_lst (a b : List A) : gCat (.lst a) (.lst b) = if a.length + b.length ≤ big then some (a ++ b) else none := rfl
@[simp] theorem gRep_lst (a : List A) (n : Int) : gRep (.lst a) (.int n) = if (0 ≤ n ∧ n < 1000000) ∧ a.length * n.toNat ≤ big then some (List.replicate n.toNat a).flatten else none := rfl
@[simp] theorem gIx_lst (xs : List A) (i : Int) : gIx (.lst xs) (.int i) = atI xs i := rfl
@[simp] theorem gIx_tup (xs : List A) (i : Int) : gIx (.tup xs) (.int i) = atI xs i := rfl
@[simp] theorem gIx_str (l : List Nat) (i : Int) : gIx (.str l) (.int i) = if l.length ≤ big then (atI l i).map fun c => .str [c] else none := rfl
@[simp] theorem gLen_str (l : List Nat) : gLen (.str l) = if l.length ≤ big then some (.int l.length) else none := rfl
@[simp] theorem gLen_lst (l : List A) : gLen (.lst l) = some (.int l.length) := rfl
@[simp] theorem gLen_tup (l : List A) : gLen (.tup l) = some (.int l.length) := rfl
@[simp] theorem gAll_lst (l : List A) : gAll (.lst l) = (blsF l).map fun bs => .bl (bs.all id) := rfl
@[simp] theorem blsF_nil : blsF [] = some [] := rfl
@[simp] theorem blsF_cons (b : Bool) (r : List A) : blsF (.bl b :: r) = (blsF r).map (b :: ·) := rfl
@[simp] theorem gIn_str (neg : Bool) (c : Nat) (y : List Nat) : gInG neg (.str [c]) (.str y) = some (.bl (if neg then !decide (c ∈ y) else decide (c ∈ y))) := rfl
@[simp] theorem small_nil : small [] = some [] := rfl
theorem small_of {xs : List A} (h : xs.length ≤ big) : small xs = some xs := by
  unfold small
  rw [if_pos h]
@[simp] theorem small_1 (a : A) : small [a] = some [a] := small_of (by simp [big])
@[simp] theorem small_2 (a b : A) : small [a, b] = some [a, b] := small_of (by simp [big])
@[simp] theorem small_3 (a b c : A) : small [a, b, c] = some [a, b, c] := small_of (by simp [big])
@[simp] theorem small_4 (a b c d : A) : small [a, b, c, d] = some [a, b, c, d] := small_of (by simp [big])
@[simp] theorem small_5 (a b c d e : A) : small [a, b, c, d, e] = some [a, b, c, d, e] := small_of (by simp [big])
@[simp] theorem small_6 (a b c d e f : A) : small [a, b, c, d, e, f] = some [a, b, c, d, e, f] := small_of (by simp [big])
@[simp] theorem small_7 (a b c d e f g : A) : small [a, b, c, d, e, f, g] = some [a, b, c, d, e, f, g] := small_of (by simp [big])
@[simp] theorem small_8 (a b c d e f g h : A) : small [a, b, c, d, e, f, g, h] = some [a, b, c, d, e, f, g, h] := small_of (by simp [big])
@[simp] theorem big_eq : big = 10000000 := rfl
@[simp] theorem atI_0 {α : Type} (a : α) (r : List α) : atI (a :: r) 0 = some a := PD.atI_hd a r
@[simp] theorem atI_nil {α : Type} (i : Int) : atI ([] : List α) i = none := by
  unfold atI
  cases ixN ([] : List α).length i <;> rfl
theorem atI_nat' {α : Type} (xs : List α) (n : Nat) : atI xs (n : Int) = xs[n]? := by
  unfold atI ixN
  rw [if_pos (by omega)]
  by_cases h : n < xs.length
  · rw [if_pos (by omega)]
    rfl
  · rw [if_neg (by omega), List.getElem?_eq_none (by omega)]
    rfl
@[simp] theorem atI_cast {α : Type} (xs : List α) (n : Nat) : atI xs (n : Int) = xs[n]? := atI_nat' xs n
@[simp] theorem atI_1 {α : Type} (xs : List α) : atI xs 1 = xs[1]? := atI_nat' xs 1
@[simp] theorem atI_2 {α : Type} (xs : List α) : atI xs 2 = xs[2]? := atI_nat' xs 2
@[simp] theorem atI_3 {α : Type} (xs : List α) : atI xs 3 = xs[3]? := atI_nat' xs 3
@[simp] theorem atI_last {α : Type} (xs : List α) : atI xs (-1) = xs.getLast? := by
  unfold atI ixN
  rw [if_neg (by decide), List.getLast?_eq_getElem?]
  by_cases h : xs.length = 0
  · rw [if_neg (by omega)]
    have e : xs = [] := List.length_eq_zero_iff.mp h
    rw [e]
    rfl
  · rw [if_pos (by omega)]
    show xs[(-1 + (xs.length : Int)).toNat]? = _
    rw [show (-1 + (xs.length : Int)).toNat = xs.length - 1 by omega]
@[simp] theorem cut_tail {α : Type} (xs : List α) : cutL xs (some 1) none = xs.tail := by
  rw [show (1 : Int) = ((1 : Nat) : Int) from rfl, PD.cut_from, List.drop_one]
@[simp] theorem cut_init {α : Type} (xs : List α) : cutL xs none (some (-1)) = xs.dropLast := PD.cut_neg1 xs
@[simp] theorem cut_whole {α : Type} (xs : List α) : cutL xs none none = xs := PD.cut_all xs
@[simp] theorem pos_1 (n : Nat) : ((n : Int) + 1 = 0) = False := eq_false (by omega)
@[simp] theorem pos_2 (n : Nat) : ((n : Int) + 1 + 1 = 0) = False := eq_false (by omega)
@[simp] theorem pos_3 (n : Nat) : ((n : Int) + 1 + 1 + 1 = 0) = False := eq_false (by omega)
@[simp] theorem pos_21 (n : Nat) : ((n : Int) + 1 + 1 = 1) = False := eq_false (by omega)
@[simp] theorem pos_10 (n : Nat) : ((n : Int) + 1 = 1) = (n = 0) := propext (by omega)
@[simp] theorem cast_0 (n : Nat) : ((n : Int) = 0) = (n = 0) := propext (by omega)
section
variable (f : A → Bool)
@[simp] theorem isi_non : gIsi f .non = some (.bl (f .non)) := rfl
@[simp] theorem isi_bl (x : Bool) : gIsi f (.bl x) = some (.bl (f (.bl x))) := rfl
@[simp] theorem isi_int (x : Int) : gIsi f (.int x) = some (.bl (f (.int x))) := rfl
@[simp] theorem isi_str (x : List Nat) : gIsi f (.str x) = some (.bl (f (.str x))) := rfl
@[simp] theorem isi_tup (x : List A) : gIsi f (.tup x) = some (.bl (f (.tup x))) := rfl
@[simp] theorem isi_lst (x : List A) : gIsi f (.lst x) = some (.bl (f (.lst x))) := rfl
@[simp] theorem isi_dic (x y : List A) : gIsi f (.dic x y) = some (.bl (f (.dic x y))) := rfl
end
@[simp] theorem okd_non (n : Nat) : okd n .non = true := by cases n <;> rfl
@[simp] theorem okd_bl (n : Nat) (b : Bool) : okd n (.bl b) = true := by cases n <;> rfl
@[simp] theorem okd_int (n : Nat) (b : Int) : okd n (.int b) = true := by cases n <;> rfl
@[simp] theorem okd_str (n : Nat) (b : List Nat) : okd n (.str b) = true := by cases n <;> rfl
@[simp] theorem okd_tup (n : Nat) (xs : List A) : okd (n + 1) (.tup xs) = xs.all (okd n) := rfl
@[simp] theorem okd_lst (n : Nat) (xs : List A) : okd (n + 1) (.lst xs) = xs.all (okd n) := rfl
@[simp] theorem gEq_str (a b : List Nat) : gEq (.str a) (.str b) = some (.bl (decide (a = b))) := rfl
@[simp] theorem gNe_str (a b : List Nat) : gNe (.str a) (.str b) = some (.bl (!decide (a = b))) := rfl
@[simp] theorem gEq_int (a b : Int) : gEq (.int a) (.int b) = some (.bl (decide (a = b))) := rfl
@[simp] theorem gNe_int (a b : Int) : gNe (.int a) (.int b) = some (.bl (!decide (a = b))) := rfl
@[simp] theorem gEq_bl (a b : Bool) : gEq (.bl a) (.bl b) = some (.bl (a == b)) := rfl
@[simp] theorem gNe_bl (a b : Bool) : gNe (.bl a) (.bl b) = some (.bl (!(a == b))) := rfl
@[simp] theorem eqv_non : eqv .non .non = true := rfl
@[simp] theorem eqv_str (a b : List Nat) : eqv (.str a) (.str b) = decide (a = b) := rfl
@[simp] theorem eqv_int (a b : Int) : eqv (.int a) (.int b) = decide (a = b) := rfl
@[simp] theorem eqv_bl (a b : Bool) : eqv (.bl a) (.bl b) = (a == b) := rfl
@[simp] theorem eqv_lst (a b : List A) : eqv (.lst a) (.lst b) = eqvs a b := rfl
@[simp] theorem eqv_tup (a b : List A) : eqv (.tup a) (.tup b) = eqvs a b := rfl
@[simp] theorem eqvs_nil : eqvs [] [] = true := rfl
@[simp] theorem eqvs_nc (a : A) (r : List A) : eqvs [] (a :: r) = false := rfl
@[simp] theorem eqvs_cn (a : A) (r : List A) : eqvs (a :: r) [] = false := rfl
@[simp] theorem eqvs_cons (a b : A) (r s : List A) : eqvs (a :: r) (b :: s) = (eqv a b && eqvs r s) := rfl
@[simp] theorem ite_and (b c : Bool) : (if b = true then T.ret (A.bl c) else T.ret (A.bl false)) = T.ret (A.bl (b && c)) := by cases b <;> rfl
@[simp] theorem ite_or (b c : Bool) : (if b = true then T.ret (A.bl true) else T.ret (A.bl c)) = T.ret (A.bl (b || c)) := by cases b <;> rfl
@[simp] theorem ite_andB (b c : Bool) : (if b = true then T.ret c else T.ret false) = T.ret (b && c) := by cases b <;> rfl
@[simp] theorem ite_orB (b c : Bool) : (if b = true then T.ret true else T.ret c) = T.ret (b || c) := by cases b <;> rfl
@[simp] theorem calm_ret {α : Type} (a : α) : (T.ret a).calm = .ret a := rfl
theorem lcGo_map {gt : TgF} {f : Env → T A} {env : Env} {β : Type} (φ h : β → A) (l : List β) (H : ∀ b ∈ l, ∃ e, gt (φ b) env = some e ∧ f e = .ret (h b)) : fLcGo gt fYes f env (l.map φ) = .ret (l.map h) := by
  induction l with
  | nil => rfl
  | cons b l ih =>
    rw [List.map_cons]
    unfold fLcGo
    obtain ⟨e, h1, h2⟩ := H b (List.mem_cons_self ..)
    rw [h1]
    show (f e).bind _ = _
    rw [h2, T.ret_bind, ih fun c hc => H c (List.mem_cons_of_mem _ hc)]
    rfl
theorem lc_map {it : Env → T (List A)} {gt : TgF} {f : Env → T A} {vs : List Nat} {env : Env} {β : Type} (φ h : β → A) (l : List β) (hi : it env = .ret (l.map φ)) (hv : free vs env = true) (hl : l.length ≤ big) (H : ∀ b ∈ l, ∃ e, gt (φ b) env = some e ∧ f e = .ret (h b)) : fLc it gt fYes f vs env = .ret (l.map h) := by
  unfold fLc
  rw [if_pos hv, hi, T.ret_bind, lcGo_map φ h l H, calm_ret, T.ret_bind, small_of (by simpa using hl)]
  rfl
theorem wp_seq {bg : Option Addr} {s t : Env → T Ct} {env : Env} {q : Ct → Prop} {z : AX → Prop} : (fSeq s t env).wp bg q z = (s env).wp bg (fun c => (sq t c).wp bg q z) z := T.wp_bind _ _ _ _
theorem wp_draw {b : Addr} {m : Int} {α : Type} {k : Int → T α} {q : α → Prop} {z : AX → Prop} (h0 : 0 < m) (h1 : m < 1073741824) (h : ∀ i, 0 ≤ i → i < m → (k i).wp (some b) q z) : (T.draw b m k).wp (some b) q z := ⟨⟨rfl, h0, h1⟩, h⟩
theorem fDraw_eq {b : Addr} {m : Int} (h0 : 0 < m) (h1 : m < 1073741824) : fDraw [.ref b, .int m] = .draw b m fun i => .ret (.int i) := by
  unfold fDraw
  dsimp only
  rw [if_pos ⟨h0, h1⟩]
theorem wp_fDraw {b : Addr} {m : Int} {q : A → Prop} {z : AX → Prop} (h0 : 0 < m) (h1 : m < 1073741824) (h : ∀ i, 0 ≤ i → i < m → q (.int i)) : (fDraw [.ref b, .int m]).wp (some b) q z := by
  rw [fDraw_eq h0 h1]
  exact wp_draw h0 h1 h
end PF
namespace PF
open PySem PySem.Spec PyProof.Rows L2 PD
def ofF : List A → T A := fdef 2 (fSeq (fRet (fOp gIx (fPair (fVar 1) (fCallK 2 0 [0, 1] [] fDraw (fCons (fVar 0) (fCons (fG1 gLen (fVar 1)) (fNil))) (fNil))))) (fNext))
theorem wp_of {b : Addr} {x : A} {xs : List A} {q : A → Prop} {z : AX → Prop} (hx : seqF x = some xs) (h0 : 0 < xs.length) (h1 : xs.length ≤ big) (h : ∀ y ∈ xs, q y) : (ofF [.ref b, x]).wp (some b) q z := by
  unfold ofF fdef
  have hl : gLen x = some (.int xs.length) := by
    cases x <;> cases hx
    · rename_i l
      rw [List.length_map] at h1
      simp at h1
      simp [h1]
    · rfl
    · rfl
  have hi : ∀ i : Int, 0 ≤ i → i < xs.length → ∃ y ∈ xs, gIx x (.int i) = some y := fun i a c => by
    obtain ⟨n, rfl⟩ := Int.eq_ofNat_of_zero_le a
    have hn : n < xs.length := by omega
    refine ⟨xs[n], List.getElem_mem hn, ?_⟩
    cases x <;> cases hx
    · rename_i l
      rw [List.length_map] at h1 hn
      simp at h1
      rw [gIx_str, atI_nat', List.getElem?_eq_getElem hn]
      simp [h1]
    · rw [gIx_tup, atI_nat', List.getElem?_eq_getElem hn]
    · rw [gIx_lst, atI_nat', List.getElem?_eq_getElem hn]
  rw [wp_fin]
  simp [startE, hl, pick_cons, T.wp_bind, wp_lift]
  refine wp_fDraw (by omega) (by simp at h1; omega) fun i a c => ?_
  obtain ⟨y, hy, e⟩ := hi i a c
  simp [e]
  exact h y hy
def sameB (self : List A → T A) : Env → T Ct :=
    fSeq (fIfS (fTst (fG1 (gIsi fun a => isList a || isTuple a) (fVar 1))) (fSeq (fIfS (fOr (fTst (fOp gNe (fPair (fG1 (gIsi isList) (fVar 0)) (fG1 (gIsi isList) (fVar 1))))) (fTst (fOp gNe (fPair (fG1 (gIsi isTuple) (fVar 0)) (fG1 (gIsi isTuple) (fVar 1)))))) (fSeq (fRet (fC (.bl false)))
    (fNext)) (fNext))
    (fSeq (fRet (fAndV (fOp gEq (fPair (fG1 gLen (fVar 0)) (fG1 gLen (fVar 1)))) (fG1 gAll (fVal (fLc (fZip (fVar 0) (fVar 1)) (tTup 2 (tConss (tName 2) (tConss (tName 3) (tNils)))) (fYes) (fCallK 2 0 [0, 1] [] self (fCons (fVar 2) (fCons (fVar 3) (fNil))) (fNil)) [2, 3])))))
    (fNext))) (fNext))
    (fSeq (fIfS (fOr (fTst (fOp (gIsN false) (fPair (fVar 1) (fC .non)))) (fTst (fOp (gIsN false) (fPair (fVar 0) (fC .non))))) (fSeq (fRet (fAndV (fOp (gIsN false) (fPair (fVar 1) (fC .non))) (fOp (gIsN false) (fPair (fVar 0) (fC .non)))))
    (fNext)) (fNext))
    (fSeq (fIfS (fOr (fTst (fOp gNe (fPair (fG1 (gIsi isBool) (fVar 0)) (fG1 (gIsi isBool) (fVar 1))))) (fTst (fOp gNe (fPair (fG1 (gIsi isInt) (fVar 0)) (fG1 (gIsi isInt) (fVar 1)))))) (fSeq (fRet (fC (.bl false)))
    (fNext)) (fNext))
    (fSeq (fRet (fAndV (fOp gEq (fPair (fG1 (gIsi isStr) (fVar 0)) (fG1 (gIsi isStr) (fVar 1)))) (fOp gEq (fPair (fVar 0) (fVar 1)))))
    (fNext))))
def sameF : Nat → List A → T A
  | 0 => fun _ => .bad
  | n + 1 => fdef 4 (sameB (sameF n))
def oks : Nat → A → Bool
  | _ + 1, .non => true
  | _ + 1, .bl _ => true
  | _ + 1, .int _ => true
  | _ + 1, .str _ => true
  | n + 1, .tup xs => decide (xs.length ≤ big) && xs.all (oks n)
  | n + 1, .lst xs => decide (xs.length ≤ big) && xs.all (oks n)
  | _, _ => false
theorem zipF_self (xs : List A) : zipF xs xs = xs.map fun x => .tup [x, x] := by
  unfold zipF
  rw [List.zip_eq_zipWith]
  induction xs with
  | nil => rfl
  | cons x xs ih => rw [List.zipWith_cons_cons, List.map_cons, List.map_cons, ih]
theorem same_all {n : Nat} {c : A} {xs : List A} (hl : xs.length ≤ big) (H : ∀ x ∈ xs, sameF n [x, x] = .ret (.bl true)) (hc : fZip (fVar 0) (fVar 1) [some c, some c, none, none] = .ret (zipF xs xs)) :
    fLc (fZip (fVar 0) (fVar 1)) (tTup 2 (tConss (tName 2) (tConss (tName 3) (tNils)))) (fYes) (fCallK 2 0 [0, 1] [] (sameF n) (fCons (fVar 2) (fCons (fVar 3) (fNil))) (fNil)) [2, 3] [some c, some c, none, none] = .ret (xs.map fun _ => .bl true) :=
  lc_map (fun x => .tup [x, x]) _ xs (by rw [hc, zipF_self]) rfl hl fun x hx => ⟨_, rfl, by simp [pick_cons, H x hx]⟩
theorem same_refl : ∀ (n : Nat) (a : A), oks n a = true → sameF n [a, a] = .ret (.bl true)
  | 0, a, h => by cases a <;> unfold oks at h <;> cases h
  | n + 1, .non, h => by unfold sameF fdef sameB; simp [startE, isList, isTuple, gIsN]
  | n + 1, .bl b, h => by unfold sameF fdef sameB; simp [startE, isList, isTuple, isBool, isInt, isStr, gIsN]
  | n + 1, .int i, h => by unfold sameF fdef sameB; simp [startE, isList, isTuple, isBool, isInt, isStr, gIsN]
  | n + 1, .str s, h => by unfold sameF fdef sameB; simp [startE, isList, isTuple, isBool, isInt, isStr, gIsN]
  | n + 1, .tup xs, h => by
    unfold oks at h
    rw [Bool.and_eq_true, decide_eq_true_eq, List.all_eq_true] at h
    have e := same_all (n := n) (c := .tup xs) h.1 (fun x hx => same_refl n x (h.2 x hx)) rfl
    unfold sameF fdef sameB
    simp [startE, isList, isTuple, isBool, isInt, isStr, gIsN, e]
  | n + 1, .lst xs, h => by
    unfold oks at h
    rw [Bool.and_eq_true, decide_eq_true_eq, List.all_eq_true] at h
    have e := same_all (n := n) (c := .lst xs) h.1 (fun x hx => same_refl n x (h.2 x hx)) rfl
    unfold sameF fdef sameB
    simp [startE, isList, isTuple, isBool, isInt, isStr, gIsN, e]
  | n + 1, .ty _, h => by unfold oks at h; cases h
  | n + 1, .ref _, h => by unfold oks at h; cases h
  | n + 1, .dic _ _, h => by unfold oks at h; cases h
  | n + 1, .obj _ _ _, h => by unfold oks at h; cases h
  | n + 1, .dit _ _, h => by unfold oks at h; cases h
  | n + 1, .exn _ _ _, h => by unfold oks at h; cases h
  | n + 1, .lam _, h => by unfold oks at h; cases h
  | n + 1, .cret _, h => by unfold oks at h; cases h
  | n + 1, .cexc _ _ _, h => by unfold oks at h; cases h
  | n + 1, .tk _, h => by unfold oks at h; cases h
inductive All2 {α β : Type} (P : α → β → Prop) : List α → List β → Prop
  | nil : All2 P [] []
  | cons {a : α} {b : β} {as : List α} {bs : List β} (h : P a b) (t : All2 P as bs) : All2 P (a :: as) (b :: bs)
theorem All2.len {α β : Type} {P : α → β → Prop} {as : List α} {bs : List β} (h : All2 P as bs) : bs.length = as.length := by
  induction h with
  | nil => rfl
  | cons _ _ ih => exact congrArg Nat.succ ih
theorem wp_step {bg : Option Addr} {s t : Env → T Ct} {env : Env} {q : Ct → Prop} {z : AX → Prop} (h : (s env).wp bg (fun c => match c with | .nx e => (t e).wp bg q z | .rt a => q (.rt a) | .bk e => q (.bk e) | .ct e => q (.ct e) | .ex x e => q (.ex x e)) z) : (fSeq s t env).wp bg q z := by
  rw [wp_seq]
  refine T.wp_mono h (fun c k => ?_) fun _ k => k
  cases c <;> exact k
theorem wp_cut {bg : Option Addr} {s t : Env → T Ct} {env : Env} {q : Ct → Prop} {z : AX → Prop} (h : ∀ N : Env → Prop, (∀ e, (t e).wp bg q z → N e) → (s env).wp bg (fun c => match c with | .nx e => N e | .rt a => q (.rt a) | .bk e => q (.bk e) | .ct e => q (.ct e) | .ex x e => q (.ex x e)) z) : (fSeq s t env).wp bg q z := wp_step (h _ fun _ k => k)
@[simp] theorem forGo_nil (g : TgF) (b : Env → T Ct) (env : Env) : fForGo g b [] env = .ret (.nx env) := rfl
theorem wp_forGo_cons {bg : Option Addr} {g : TgF} {b : Env → T Ct} {a : A} {as : List A} {env e : Env} {q : Ct → Prop} {z : AX → Prop} (hg : g a env = some e) (h : (b e).wp bg (fun c => match c with | .nx e => (fForGo g b as e).wp bg q z | .ct e => (fForGo g b as e).wp bg q z | .bk e => q (.nx e) | .rt a => q (.rt a) | .ex x e => q (.ex x e)) z) : (fForGo g b (a :: as) env).wp bg q z := by
  unfold fForGo
  rw [hg]
  show ((b e).bind _).wp bg q z
  rw [T.wp_bind]
  refine T.wp_mono h (fun c k => ?_) fun _ k => k
  cases c <;> exact k
end PF
namespace PF
open PySem PySem.Spec PyProof.Rows L2 PD
@[simp] theorem e_Zip (f g : Env → T A) (env : Env) : fZip f g env = (f env).bind fun a => (g env).bind fun b => match a, b with | .lst xs, .lst ys => .ret (zipF xs ys) | .tup xs, .tup ys => .ret (zipF xs ys) | _, _ => .bad := rfl
theorem range_of {f : Env → T A} {env : Env} {n : Int} (h : f env = .ret (.int n)) (h1 : -1000000000 < n) (h2 : n < 1000000000) : fRange f env = .ret (rangeA n) := by
  rw [e_RangeF, h]
  show (if -1000000000 < n ∧ n < 1000000000 then T.ret (rangeA n) else T.bad) = _
  rw [if_pos ⟨h1, h2⟩]
@[irreducible] def W {α : Type} (b : Addr) (t : T α) (q : α → Prop) (z : AX → Prop) : Prop := t.wp (some b) q z
abbrev Z0 : AX → Prop := fun _ => False
section
variable {α β : Type} {b : Addr} {z : AX → Prop}
theorem W_eq (t : T α) (q : α → Prop) (z : AX → Prop) : W b t q z = t.wp (some b) q z := by unfold W; rfl
@[simp] theorem W_ret (a : α) (q : α → Prop) (z : AX → Prop) : W b (T.ret a) q z = q a := by rw [W_eq]; rfl
@[simp] theorem W_exc (x : AX) (q : α → Prop) (z : AX → Prop) : W b (T.exc x) q z = z x := by rw [W_eq]; rfl
@[simp] theorem W_bad (q : α → Prop) (z : AX → Prop) : W b T.bad q z = False := by rw [W_eq]; rfl
theorem W_mono {t : T α} {q q' : α → Prop} {z' : AX → Prop} (h : W b t q z) (hq : ∀ a, q a → q' a) (hz : ∀ x, z x → z' x) : W b t q' z' := by
  rw [W_eq] at *
  exact T.wp_mono h hq hz
theorem W_bind (t : T α) (f : α → T β) (q : β → Prop) (z : AX → Prop) : W b (t.bind f) q z = W b t (fun a => W b (f a) q z) z := by
  simp only [W_eq]
  exact T.wp_bind _ _ _ _
theorem W_lift (t : T α) (e : Env) (k : α → T Ct) (q : Ct → Prop) (z : AX → Prop) : W b (t.lift e k) q z = W b t (fun a => W b (k a) q z) (fun x => q (.ex x e)) := by
  simp only [W_eq]
  exact wp_lift _ _ _ _ _
theorem W_fin (t : T Ct) (q : A → Prop) (z : AX → Prop) : W b t.fin q z = W b t (fun c => W b (finC c) q z) Z0 := by
  simp only [W_eq]
  exact wp_fin _ _ _
theorem W_opt {o : Option α} {q : α → Prop} {a : α} (h : o = some a) (hq : q a) : W b (T.opt o) q z := by
  rw [h]
  simp [hq]
theorem W_cut {s t : Env → T Ct} {env : Env} {q : Ct → Prop} (h : ∀ N : Env → Prop, (∀ e, W b (t e) q z → N e) → W b (s env) (fun c => match c with | .nx e => N e | .rt a => q (.rt a) | .bk e => q (.bk e) | .ct e => q (.ct e) | .ex x e => q (.ex x e)) z) : W b (fSeq s t env) q z := by
  rw [W_eq]
  refine wp_cut fun N hN => ?_
  have := h N fun e he => hN e (by rw [W_eq] at he; exact he)
  rw [W_eq] at this
  exact this
theorem W_step {s t : Env → T Ct} {env : Env} {q : Ct → Prop} (h : W b (s env) (fun c => match c with | .nx e => W b (t e) q z | .rt a => q (.rt a) | .bk e => q (.bk e) | .ct e => q (.ct e) | .ex x e => q (.ex x e)) z) : W b (fSeq s t env) q z := W_cut fun N hN => W_mono h (fun c k => by
  cases c with
  | nx e => exact hN e k
  | _ => exact k) fun _ k => k
theorem W_forGo_cons {g : TgF} {bd : Env → T Ct} {a : A} {as : List A} {env e : Env} {q : Ct → Prop} (hg : g a env = some e) (h : ∀ N : Env → Prop, (∀ e, W b (fForGo g bd as e) q z → N e) → W b (bd e) (fun c => match c with | .nx e => N e | .ct e => N e | .bk e => q (.nx e) | .rt a => q (.rt a) | .ex x e => q (.ex x e)) z) : W b (fForGo g bd (a :: as) env) q z := by
  have h := h (fun e => W b (fForGo g bd as e) q z) fun _ k => k
  rw [W_eq] at *
  refine wp_forGo_cons hg (T.wp_mono h (fun c k => ?_) fun _ k => k)
  cases c <;> first | exact k | (dsimp only at k; rw [W_eq] at k; exact k)
theorem W_fDraw {m : Int} {q : A → Prop} (h0 : 0 < m) (h1 : m < 1073741824) (h : ∀ i, 0 ≤ i → i < m → q (.int i)) : W b (fDraw [.ref b, .int m]) q z := by
  rw [W_eq]
  exact wp_fDraw h0 h1 h
theorem W_of {x : A} {xs : List A} {q : A → Prop} (hx : seqF x = some xs) (h0 : 0 < xs.length) (h1 : xs.length ≤ big) (h : ∀ y ∈ xs, q y) : W b (ofF [.ref b, x]) q z := by
  rw [W_eq]
  exact wp_of hx h0 h1 h
end
end PF
namespace PF
open PySem PySem.Spec PyProof.Rows L2 PD
section
variable {cm : CM} {X : Cx} {F : Fm} {W : WX} {O : List Nat} {e e2 : Expr} {f g : Env → T A} {pos dpos apos : Pos} {keys : List (Option Expr)} {values : List Expr}
end
end PF
namespace PF
open PySem PySem.Spec PyProof.Rows L2 PD
structure InS (ρo : DSt) (σ : L2.St) (ρ' : DSt) (σ' : L2.St) : Prop where
  ls : σ'.length = σ.length
  lr : ρ'.length = ρo.length
  kn : ∀ (j : Nat) y, ρo[j]? = some (some y) → ρ'[j]? = some (some y) ∧ σ'[j]? = σ[j]?
  ow : ∀ (i : Nat) (a : Addr), OwnAt ρ' σ' i a → OwnAt ρo σ i a
section
variable {K : PySem.W.Frag} {F : Fm} {S S' H H' : Hp} {ρ ρ1 ρ2 : DSt} {σ σ1 σ2 : L2.St}
theorem InS.refl : InS ρ σ ρ σ := ⟨rfl, rfl, fun _ _ h => ⟨h, rfl⟩, fun _ _ h => h⟩
theorem InS.trans (a : InS ρ σ ρ1 σ1) (b : InS ρ1 σ1 ρ2 σ2) : InS ρ σ ρ2 σ2 :=
  ⟨b.ls.trans a.ls, b.lr.trans a.lr, fun j y h => by
    obtain ⟨h1, h2⟩ := a.kn j y h
    obtain ⟨h3, h4⟩ := b.kn j y h1
    exact ⟨h3, h4.trans h2⟩, fun i a' h => a.ow i a' (b.ow i a' h)⟩
theorem InS.loose {p : Addr} (a : InS ρ σ ρ1 σ1) (l : Loose F S ρ σ p) : Loose F S ρ1 σ1 p := ⟨l.h0, l.s, fun i h => l.ap i (a.ow i p h)⟩
theorem InS.looseB {p : Addr} (a : InS ρ σ ρ1 σ1) (l : Loose F S ρ1 σ1 p) : Loose F S ρ σ p := ⟨l.h0, l.s, fun i h => by
  obtain ⟨⟨y, h1, hy⟩, h2⟩ := h
  obtain ⟨q1, q2⟩ := a.kn i _ h1
  exact l.ap i ⟨⟨y, q1, hy⟩, by rw [q2]; exact h2⟩⟩
theorem InS.rB (a : InS ρ σ ρ1 σ1) (r : R K F S ρ1 σ1 H) : R K F S ρ σ H := r.sub a.lr.symm a.ls.symm fun j y h => ⟨(a.kn j y h).1, (a.kn j y h).2.symm⟩
theorem InS.go (a : InS ρ σ ρ1 σ1) (g : Go K F σ1 S ρ1 H S' ρ1 H') : Go K F σ S ρ H S' ρ H' := ⟨g.ex, a.rB g.r, fun p o l h => by
  obtain ⟨l2, h2⟩ := g.kp p o (a.loose l) h
  exact ⟨a.looseB l2, h2⟩, g.up⟩
theorem InS.wipe {vs : List Nat} (h : ∀ (j : Nat) y, ρ[j]? = some (some y) → j ∉ vs) : InS ρ σ ρ (wipe σ vs) := by
  refine ⟨wipe_length _ _, rfl, fun j y hy => ⟨hy, wipe_ne (h j y hy)⟩, fun i a hi => ?_⟩
  obtain ⟨⟨y, q1, hy⟩, q2⟩ := hi
  exact ⟨⟨y, q1, hy⟩, by rw [← wipe_ne (h i _ q1)]; exact q2⟩
theorem InS.r (a : InS ρ σ ρ (L2.wipe σ vs)) (r : R K F S ρ σ H) (h : ∀ (j : Nat) y, ρ[j]? = some (some y) → j ∉ vs) : R K F S ρ (L2.wipe σ vs) H := r.sub rfl (wipe_length _ _) fun j y hy => ⟨hy, wipe_ne (h j y hy)⟩
end
end PF
namespace PF
open PySem PySem.Spec PyProof.Rows L2 PD
section
variable {cm : CM} {X : Cx} {F : Fm} {W : WX} {O : List Nat} {Z : Os} {e a b c tg iter elt tg1 iter1 : Expr} {es ifs ifs1 : List Expr} {f g : Env → T A} {pos p apos : Pos} {scope : Scope}
end
section
variable (env : Env) (f g : Env → T A) (gs : Env → T (List A))
end
end PF
namespace PF
open PySem PySem.Spec PyProof.Rows L2 PD
section
variable {X : Cx}
end
end PF
namespace PF
open PySem PySem.Spec PyProof.Rows L2 PD
section
variable {P : Program} {w : World} {K : PySem.W.Frag} {mg : Str → Option Value} {base : Heap} {cm : CM}
end
section
variable {X : Cx} {k n np : Nat} {f : Addr} {fd : FuncData} {ps ks : List Str} {pv : Str} {sp : Sp} {E : L2.St → XK} {x : Str} {p pos : Pos} {e : Expr} {es : List Expr} {kws : List Keyword} {t tk : TA} {idx : List Nat}
end
section
variable {cm : CM} {X : Cx} {F : Fm} {W : WX} {O : List Nat} {k n m np nq : Nat} {f : Addr} {fd : FuncData} {ps ks : List Str} {pv : Str} {ow : Bool} {ff : List A → T A} {x : Str} {p pos : Pos} {e : Expr} {es : List Expr} {kws : List Keyword} {idx : List Nat} {u uk : Env → T (List A)}
end
end PF
namespace PF
open PySem PySem.Spec PyProof.Rows L2 PD
section
variable {cm : CM} {X : Cx} {F : Fm} {W : WX} {O : List Nat} {e a : Expr} {f : Env → T A} {pos p apos : Pos}
end
end PF
namespace PF
open PySem PySem.Spec PyProof.Rows L2 PD
def fJs : List (Env → T A) → List Nat → Env → T (List Nat)
  | [], acc, _ => .ret acc
  | f :: fs, acc, env => (f env).bind fun a => match a with
    | .str l => if acc.length + l.length ≤ big then fJs fs (acc ++ l) env else .bad
    | _ => .bad
inductive FJ (cm : CM) (X : Cx) (F : Fm) (W : WX) (O : List Nat) : List Expr → List (Env → T A) → Prop
  | nil : FJ cm X F W O [] []
  | cons {e : Expr} {f : Env → T A} {es : List Expr} {fs : List (Env → T A)} (h : FE cm X F W O e f) (r : FJ cm X F W O es fs) : FJ cm X F W O (e :: es) (f :: fs)
section
variable {cm : CM} {X : Cx} {F : Fm} {W : WX} {O : List Nat} {e a b c : Expr} {f g h : Env → T A} {pos p apos : Pos}
theorem FJ.run {es : List Expr} {fs : List (Env → T A)} (j : FJ cm X F W O es fs) : ∃ ts, PJ X es ts ∧ ∀ (acc : List Nat) S env σ H (Q : Str → Hp → Prop) (kq : List Nat → Prop) (kx : KX), R X.K F S (mix cm O env) σ H → (fJs fs acc env).wp F.bag kq (fun x => kx (toX cm x) (mix cm O env)) →
    (∀ S' H' l, Go X.K F σ S (mix cm O env) H S' (mix cm O env) H' → kq l → Q (tx l) H') → XL X.K F W σ S kx → tJs ts (tx acc) σ H Q := by
  induction j with
  | nil => exact ⟨[], .nil, fun acc S env σ H Q kq kx r hw hk _ => hk S H acc (Go.refl r) hw⟩
  | cons h j ih =>
    rename_i e f es fs
    obtain ⟨ts, p2, q2⟩ := ih
    obtain ⟨t, p1, q1⟩ := h.ex
    refine ⟨t :: ts, .cons p1 p2, fun acc S env σ H Q kq kx r hw hk hx => ?_⟩
    unfold fJs at hw
    rw [T.wp_bind] at hw
    refine q1 S _ σ H _ (fun d ρ' => ρ' = mix cm O env ∧ ∃ l : List Nat, d = .str (tx l) ∧ acc.length + l.length ≤ big ∧ (fJs fs (acc ++ l) env).wp F.bag kq (fun x => kx (toX cm x) (mix cm O env))) kx r ⟨env, rfl, T.wp_mono hw (fun a k => ?_) fun _ k => k⟩ (fun S1 ρ1 H1 d v g1 rp k => ?_) hx
    · cases a with
      | str l =>
        have k : (if acc.length + l.length ≤ big then fJs fs (acc ++ l) env else .bad).wp F.bag kq (fun x => kx (toX cm x) (mix cm O env)) := k
        split at k
        · rename_i hl
          exact ⟨rfl, l, rfl, hl, k⟩
        · exact k.elim
      | _ => exact k.elim
    · obtain ⟨rfl, l, rfl, hl, k⟩ := k
      cases rp
      refine ⟨tx l, rfl, ?_, ?_⟩
      · rw [tx_app, tx_len, List.length_append]
        exact big_line hl
      · rw [tx_app]
        exact q2 (acc ++ l) S1 env σ H1 Q kq kx g1.r k (fun S2 H2 m g2 k2 => hk S2 H2 m (g1.trans g2) k2) (hx.mono g1.ex)
end
section
variable (env : Env) (f g h : Env → T A) (fs : List (Env → T A))
@[simp] theorem e_Js0 (acc : List Nat) : fJs [] acc env = .ret acc := rfl
@[simp] theorem e_Js (acc : List Nat) : fJs (f :: fs) acc env = (f env).bind fun a => match a with | .str l => if acc.length + l.length ≤ big then fJs fs (acc ++ l) env else .bad | _ => .bad := rfl
end
end PF
namespace PF
open PySem PySem.Spec PyProof.Rows L2 PD
def waF (cm : CM) (ow : Bool) (g : List A → List A → T A) : WAct := fun β ds zs kq kx => ∃ as bs : List A, ds = toDs cm as ∧ zs = toDs cm bs ∧ (g as bs).wp β (fun a => kq (rv cm ow a)) (fun x => kx (toX cm x))
abbrev FCal (cm : CM) (X : Cx) (F : Fm) (W : WX) (ow : Bool) (f : Addr) (ks : List Str) (g : List A → List A → T A) : Prop := DCal X F W f ks (waF cm ow g)
theorem ActD_imp {K : PySem.W.Frag} {F : Fm} {act : PD.Act} {wa wa' : WAct} (h : ActD K F act wa) (hw : ∀ ds zs kq kx, wa' F.bag ds zs kq kx → wa F.bag ds zs kq kx) : ActD K F act wa' :=
  fun S ρ σ H ds zs vs us Q E kq kx r rd rz hh hk hx => h S ρ σ H ds zs vs us Q E kq kx r rd rz (hw _ _ _ _ hh) hk hx
def bFix (n m : Nat) (idx : List Nat) (dd : List A) (f : List A → T A) : List A → List A → T A := fun as bs => if as.length = n ∧ bs.length = m then f (pick idx (as ++ bs ++ dd)) else .bad
theorem pick_all {α : Type} : ∀ (idx : List Nat) (xs : List α), (idx.all fun i => decide (i < xs.length)) = true → (pick idx xs).length = idx.length
  | [], _, _ => rfl
  | i :: idx, xs, h => by
    rw [List.all_cons, Bool.and_eq_true] at h
    have hi := of_decide_eq_true h.1
    unfold pick
    rw [List.filterMap_cons_some (List.getElem?_eq_getElem hi), List.length_cons, List.length_cons]
    exact congrArg Nat.succ (pick_all idx xs h.2)
section
variable {cm : CM} {X : Cx} {F : Fm} {W : WX} {O : List Nat} {k n m np nq : Nat} {f : Addr} {fd : FuncData} {ps ks : List Str} {pv : Str} {ow : Bool} {ff : List A → T A} {dvs : List V} {dd : List A} {us : List Value} {idx : List Nat} {c : Nat → Bool}
theorem fix_w {β : Option Addr} {ds zs : List D} {kq : SV → Prop} {kx : DX → Prop} (hnp : idx.length = np) (hall : (idx.all fun i => decide (i < n + m + dd.length)) = true) (h : waF cm ow (bFix n m idx dd ff) β ds zs kq kx) : waFix n m idx (spF cm np ow ff) (toDs cm dd) β ds zs kq kx := by
  obtain ⟨as, bs, rfl, rfl, h⟩ := h
  unfold bFix at h
  split at h
  · rename_i hl
    refine ⟨⟨by rw [toDs_len]; exact hl.1, by rw [toDs_len]; exact hl.2⟩, pick idx (as ++ bs ++ dd), ?_, ?_, h⟩
    · rw [pick_all idx _ (by rw [List.length_append, List.length_append, hl.1, hl.2]; exact hall)]
      exact hnp
    · rw [toDs_pick, toDs_app, toDs_app]
  · exact h.elim
theorem fc_fix (G : FnOk X.prog X.w X.K X.mg X.base (CXq X.prog X.w) k f fd ps (spD X.K (spF cm np ow ff))) (hr : Room k X.A) (hb : Bd X.K fd ps n ks idx us) (hv : Vals dvs us) (hd : ∀ S, Reps X.K S (toDs cm dd) dvs) (hx : Snk X W) (hnp : idx.length = np := by rfl) (hml : ks.length = m := by rfl)
    (hall : (idx.all fun i => decide (i < n + ks.length + dd.length)) = true := by decide) : FCal cm X F W ow f ks (bFix n m idx dd ff) := by
  subst hml
  exact ⟨_, act_code (code_fix G hb hv) hr hx, ActD_imp (actD_fix hd) fun ds zs kq kx h => fix_w hnp hall h⟩
end
section
variable {cm : CM} {X : Cx} {F : Fm} {W : WX} {O : List Nat} {k n m np nq C : Nat} {f : Addr} {fd : FuncData} {ps ks : List Str} {pv : Str} {dvs : List V} {dd : List A} {us : List Value} {idx : List Nat} {c : Nat → Bool} {nn : Nat} {b : Env → T Ct}
end
section
variable {P : Program} {w : World} {K : PySem.W.Frag} {mg : Str → Option Value} {base : Heap} {cm : CM}
end
end PF
namespace PF
open PySem PySem.Spec PyProof.Rows L2 PD
abbrev FArgs (cm : CM) (X : Cx) (F : Fm) (W : WX) (O : List Nat) (es : List Expr) (kws : List Keyword) (ks : List Str) (pos : Pos) (u uk : Env → T (List A)) : Prop := DArgs X F W es kws ks pos (cL cm F.bag O u) (cL cm F.bag O uk)
def fAct (g : List A → List A → T A) (u uk : Env → T (List A)) : Env → T A := fun env => (u env).bind fun as => (uk env).bind fun bs => g as bs
def altA {β : Type} : List (Nat × β) → Nat → Option β
  | [], _ => none
  | (c, g) :: r, C => if C = c then some g else altA r C
def fldA (n : Nat) : List Nat → List A → Option A
  | k :: ks, v :: vs => if k = n then some v else fldA n ks vs
  | _, _ => none
section
variable {cm : CM}
theorem fldA_some {n : Nat} {a : A} : ∀ {ks : List Nat} {vs : List A}, fldA n ks vs = some a → ((ks.map cm.fld).zip (toDs cm vs)).lookup (cm.fld n) = some (toD cm a)
  | [], _, h => by unfold fldA at h; cases h
  | k :: ks, [], h => by unfold fldA at h; cases h
  | k :: ks, v :: vs, h => by
    unfold fldA at h
    show List.lookup (cm.fld n) ((cm.fld k, toD cm v) :: (ks.map cm.fld).zip (toDs cm vs)) = _
    rw [List.lookup_cons]
    by_cases e : k = n
    · rw [if_pos e] at h
      cases h
      subst e
      simp
    · rw [if_neg e] at h
      have : (cm.fld n == cm.fld k) = false := by simpa using fun z => e (cm.inj _ _ z).symm
      rw [this]
      exact fldA_some h
end
section
variable {cm : CM} {X : Cx} {F : Fm} {W : WX} {O : List Nat} {Z : Os} {e o value : Expr} {es : List Expr} {kws : List Keyword} {ks : List Str} {pos p p' apos : Pos} {f : Env → T A} {u uk : Env → T (List A)} {x m : Str} {ow : Bool} {g : List A → List A → T A}
theorem DArgs_imp {u u' uk uk' : WA} (h : DArgs X F W es kws ks pos u uk) (hu : ∀ ρ kq kx, u' ρ kq kx → u ρ kq kx) (hk : ∀ ρ kq kx, uk' ρ kq kx → uk ρ kq kx) : DArgs X F W es kws ks pos u' uk' := by
  obtain ⟨t, tk, hr, q1, q2⟩ := h.ex
  exact ⟨t, tk, hr, fun S ρ σ H Q kq kx r h' => q1 S ρ σ H Q kq kx r (hu _ _ _ h'), fun S ρ σ H Q kq kx r h' => q2 S ρ σ H Q kq kx r (hk _ _ _ h')⟩
theorem nil_w {ρ : DSt} {kq : List D → DSt → Prop} {kx : KX} (h : cL cm F.bag O fNil ρ kq kx) : wNil ρ kq kx := by
  obtain ⟨env, rfl, h⟩ := h
  exact h
theorem fargs (ha : FA cm X F W O (e :: es) u) (hkw : FK cm X F W O kws uk) (hall : (backToKw pos (keywordEach kws X.env)).all (·.1.isSome) = true := by rfl) (hks : (backToKw pos (keywordEach kws X.env)).filterMap (·.1) = ks := by rfl) (he : starEach (e :: es) X.env = (false, eval e X.env) :: starEach es X.env := by rfl)
    (hpl : ((backTo pos (starEach (e :: es) X.env)).any (·.1) || (backToKw pos (keywordEach kws X.env)).any (·.1.isNone)) = false := by rfl) : FArgs cm X F W O (e :: es) kws ks pos u uk := dargs_kw ha hkw hall hks he hpl
theorem fargs0 (hkw : FK cm X F W O kws uk) (hall : (backToKw pos (keywordEach kws X.env)).all (·.1.isSome) = true := by rfl) (hks : (backToKw pos (keywordEach kws X.env)).filterMap (·.1) = ks := by rfl)
    (hpl : ((backTo pos (starEach [] X.env)).any (·.1) || (backToKw pos (keywordEach kws X.env)).any (·.1.isNone)) = false := by rfl) : FArgs cm X F W O [] kws ks pos fNil uk := DArgs_imp (dargs_kw0 hkw hall hks hpl) (fun _ _ _ h => nil_w h) fun _ _ _ h => h
theorem act_w {β : Option Addr} {env : Env} {kq : SV → DSt → Prop} {kx : KX} {k : List A → List A → T A} (hw : (fAct k u uk env).wp β (fun a => kq (rv cm ow a) (mix cm O env)) (fun x => kx (toX cm x) (mix cm O env))) : wAct β (waF cm ow k) (cL cm β O u) (cL cm β O uk) (mix cm O env) kq kx := by
  unfold fAct at hw
  rw [T.wp_bind] at hw
  refine ⟨env, rfl, T.wp_mono hw (fun as k1 => ?_) fun x k => k⟩
  rw [T.wp_bind] at k1
  exact ⟨env, rfl, T.wp_mono k1 (fun bs k2 => ⟨as, bs, rfl, rfl, k2⟩) fun x k => k⟩
theorem fv_name {ff : Addr} (h : FCal cm X F W ow ff ks g) (hm : X.mg x = some (.ref ff)) (hk : PySem.W.keepIn X.K (.ref ff) = true) (ha : FArgs cm X F W O es kws ks pos u uk) (hg : Gl X x := by rfl) (hdb : (x == ("__debug__" : Str)) = false := by decide) :
    FV cm X F W O ow (.Call (.Name x p) es kws pos) (fAct g u uk) := DV_imp (dv_name h hm hk ha hg hdb) fun ρ kq kx hw => by
  obtain ⟨env, rfl, hw⟩ := hw
  exact act_w hw
inductive FAlts (cm : CM) (X : Cx) (F : Fm) (W : WX) (ow : Bool) (m : Str) (ks : List Str) : List (Nat × (List A → List A → T A)) → Prop
  | nil : FAlts cm X F W ow m ks []
  | cons {C : Nat} {g : List A → List A → T A} {r : List (Nat × (List A → List A → T A))} {gg : Addr} (c : Cls X.K (cm.cls C)) (hm : Meth X.K (cm.cls C) m gg) (h : FCal cm X F W ow gg ks g) (hr : FAlts cm X F W ow m ks r) : FAlts cm X F W ow m ks ((C, g) :: r)
theorem FAlts.at_ {alts : List (Nat × (List A → List A → T A))} (h : FAlts cm X F W ow m ks alts) {C : Nat} {g : List A → List A → T A} (hg : altA alts C = some g) : Alt X F W m ks (cm.cls C) (waF cm ow g) := by
  induction h with
  | nil => cases hg
  | @cons C' g' r gg c hm h hr ih =>
    unfold altA at hg
    split at hg
    · rename_i e
      cases hg
      subst e
      obtain ⟨act, ho, hd⟩ := h.ex
      exact ⟨gg, act, c, hm, ho, hd⟩
    · exact ih hg
def FldOk (cm : CM) (K : PySem.W.Frag) (L : List Nat) (x : Str) : Prop := ∀ C ∈ L, Cls K (cm.cls C) ∧ NoAttr K (cm.cls C) x
theorem FldOk.at_ {L : List Nat} (h : FldOk cm X.K L x) : ∀ C, (∃ Cn ∈ L, C = cm.cls Cn) → Cls X.K C ∧ NoAttr X.K C x := fun C ⟨Cn, h1, h2⟩ => by
  subst h2
  exact h Cn h1
inductive FProps (cm : CM) (X : Cx) (m : Str) : List (Nat × (List A → T A)) → Prop
  | nil : FProps cm X m []
  | cons {C : Nat} {ff : List A → T A} {r : List (Nat × (List A → T A))} {k : Nat} {q g : Addr} {fd : FuncData} {ps : List Str} (c : Cls X.K (cm.cls C)) (hp : PropOf X.K (cm.cls C) m q g) (G : FnOk X.prog X.w X.K X.mg X.base (CXq X.prog X.w) k g fd ps (spD X.K (spF cm 1 false ff))) (hr : Room (k + 1) X.A) (hb : Binds X.K fd ps []) (h : FProps cm X m r) : FProps cm X m ((C, ff) :: r)
theorem FProps.at_ {alts : List (Nat × (List A → T A))} (h : FProps cm X m alts) {C : Nat} {g : List A → T A} (hg : altA alts C = some g) : AltP X m (cm.cls C) (spF cm 1 false g) := by
  induction h with
  | nil => cases hg
  | cons c hp G hr hb h ih =>
    unfold altA at hg
    split at hg
    · rename_i e
      cases hg
      subst e
      exact ⟨_, _, _, _, _, c, hp, G, hr, hb⟩
    · exact ih hg
inductive FFlds (cm : CM) (X : Cx) (F : Fm) (L : List Nat) (i : Nat) : List Expr → List Nat → Prop
  | nil : FFlds cm X F L i [] []
  | cons {es : List Expr} {ns : List Nat} {x m : Str} {n : Nat} {p p' : Pos} (h : FldOk cm X.K L m) (hx : m = cm.fld n) (hN : X.N[i]? = some x) (hv : Vis X.env.scope x) (hd : (x == ("__debug__" : Str)) = false) (hcd : (x == ("__classdict__" : Str)) = false)
      (hs : (assignEach (.Attribute (.Name x p) m p' :: es) X.env).map (·.2) = assign (.Attribute (.Name x p) m p') X.env :: (assignEach es X.env).map (·.2)) (r : FFlds cm X F L i es ns) : FFlds cm X F L i (.Attribute (.Name x p) m p' :: es) (n :: ns)
end
end PF
namespace PF
open PySem PySem.Spec PyProof.Rows L2 PD
structure IsoOk (cm : CM) (K : PySem.W.Frag) (C : Addr) (L : List (Nat × Bool)) : Prop where
  me : IsK K C
  at_ : ∀ C' b, altA L C' = some b → IsK K (cm.cls C') ∧ PySem.W.subIn K (.ref (cm.cls C')) (.ref C) = some b
inductive IsoOks (cm : CM) (K : PySem.W.Frag) : List Addr → List (List (Nat × Bool)) → Prop
  | nil : IsoOks cm K [] []
  | cons {C : Addr} {L : List (Nat × Bool)} {cs : List Addr} {Ls : List (List (Nat × Bool))} (h : IsoOk cm K C L) (r : IsoOks cm K cs Ls) : IsoOks cm K (C :: cs) (L :: Ls)
section
variable {cm : CM} {K : PySem.W.Frag} {C : Addr} {L : List (Nat × Bool)} {cs : List Addr} {Ls : List (List (Nat × Bool))}
end
section
variable {cm : CM} {X : Cx} {F : Fm} {W : WX} {O : List Nat} {e a b : Expr} {p pos : Pos} {f g : Env → T A} {C : Addr}
end
inductive NfRow (cm : CM) (K : PySem.W.Frag) (C : Nat) : List Nat → Prop
  | nil : NfRow cm K C []
  | cons {D : Nat} {Ty : List Nat} (h : IsK K (cm.cls D)) (hn : PySem.W.notFirst K (cm.cls C) (.ref (cm.cls D)) = true) (r : NfRow cm K C Ty) : NfRow cm K C (D :: Ty)
theorem NfRow.at_ {cm : CM} {K : PySem.W.Frag} {C : Nat} {Ty : List Nat} (h : NfRow cm K C Ty) : ∀ D ∈ Ty, IsK K (cm.cls D) ∧ PySem.W.notFirst K (cm.cls C) (.ref (cm.cls D)) = true := by
  induction h with
  | nil => exact fun D h => by cases h
  | cons h hn r ih =>
    intro D hD
    rcases List.mem_cons.mp hD with e | e
    · subst e; exact ⟨h, hn⟩
    · exact ih D e
inductive FOwn (cm : CM) (X : Cx) (m : Str) (np : Nat) (idx : List Nat) : List (Nat × (List A → T A)) → Prop
  | nil : FOwn cm X m np idx []
  | cons {C : Nat} {ff : List A → T A} {r : List (Nat × (List A → T A))} {k : Nat} {gg : Addr} {fd : FuncData} {ps : List Str} (hm : Meth X.K (cm.cls C) m gg) (G : FnOk X.prog X.w X.K X.mg X.base (CXq X.prog X.w) k gg fd ps (spD X.K (spF cm np false ff))) (hr : Room (k + 1) X.A) (hb : Bd X.K fd ps np [] idx []) (h : FOwn cm X m np idx r) : FOwn cm X m np idx ((C, ff) :: r)
section
variable {cm : CM} {X : Cx} {F : Fm} {W : WX} {O : List Nat} {e a b : Expr} {p pos : Pos} {f g : Env → T A} {C : Addr} {m : Str} {np : Nat} {idx : List Nat} {alts : List (Nat × (List A → T A))}
theorem FOwn.at_ (h : FOwn cm X m np idx alts) {C : Nat} {ff : List A → T A} (hg : altA alts C = some ff) (hnp : idx.length = np) (hall : (idx.all fun i => decide (i < np)) = true) : AltS X F m (cm.cls C) (waF cm false (bFix np 0 idx [] ff)) := by
  induction h with
  | nil => cases hg
  | @cons C' g' r k gg fd ps hm G hr hb h ih =>
    unfold altA at hg
    split at hg
    · rename_i e
      cases hg
      subst e
      exact ⟨k, gg, _, hm, code_fix G hb .nil, hr, ActD_imp (actD_fix (dds := []) fun _ => Reps.nil) fun ds zs kq kx h => fix_w (ow := false) (dd := []) hnp (by simpa using hall) h⟩
    · exact ih hg
def AltsOf (cm : CM) (np : Nat) (idx : List Nat) (alts : List (Nat × (List A → T A))) : ObjAlts := fun C wa => ∃ Cn ff, altA alts Cn = some ff ∧ C = cm.cls Cn ∧ wa = waF cm false (bFix np 0 idx [] ff)
theorem FOwn.all (h : FOwn cm X m np idx alts) (hnp : idx.length = np) (hall : (idx.all fun i => decide (i < np)) = true) : ∀ C wa, AltsOf cm np idx alts C wa → AltS X F m C wa := fun C wa ⟨Cn, ff, h1, h2, h3⟩ => by
  subst h2; subst h3
  exact h.at_ h1 hnp hall
end
end PF
namespace PF
open PySem PySem.Spec PyProof.Rows L2 PD
def insT (x : List Nat) : List (List Nat) → List (List Nat)
  | [] => [x]
  | y :: ys => if ltCps x y then x :: y :: ys else if x = y then y :: ys else y :: insT x ys
def setL (xs : List (List Nat)) : List (List Nat) := xs.foldr insT []
section
variable {cm : CM} {X : Cx} {F : Fm} {W : WX} {O : List Nat} {e a : Expr} {f : Env → T A} {pos p apos : Pos}
end
end PF
namespace PF
open PySem PySem.Spec PyProof.Rows L2 PD
def cmOf (names : List (List Nat)) (hd : names.Nodup) (hl : (names.all fun l => decide (2 ≤ l.length)) = true) (C : Nat → Addr) : CM := ⟨C, mkFld names, mkFld_inj hd hl, none, fun _ => noX, fun _ => noX, fun _ _ => noX, exnX⟩
theorem fld_of {cm : CM} {names : List (List Nat)} {x : Str} {l : List Nat} {n : Nat} (hc : cm.fld = mkFld names) (hx : x = tx l) (hn : names[n]? = some l) : x = cm.fld n := by
  rw [hc, hx]
  unfold mkFld
  rw [hn]
  rfl
section
variable {cm : CM} {K : PySem.W.Frag} {x : Str}
end
section
variable {cm : CM} {X : Cx} {F : Fm} {W : WX} {O : List Nat} {Z : Os} {e : Expr} {f : Env → T A} {p pos apos : Pos} {x m : Str}
end
theorem W_to {α : Type} {b : Addr} {t : T α} {q : α → Prop} {z : AX → Prop} (h : W b t q z) : t.wp (some b) q z := by
  rw [W_eq] at h
  exact h
section
variable {K : PySem.W.Frag} {x qual : Str} {st : Stmt} {f : Addr} {fd : FuncData} {ps ks : List Str} {pv : Str} {n np : Nat} {idx : List Nat}
end
@[simp] theorem e_bFix (n m : Nat) (idx : List Nat) (dd : List A) (f : List A → T A) (as bs : List A) : bFix n m idx dd f as bs = if as.length = n ∧ bs.length = m then f (pick idx (as ++ bs ++ dd)) else .bad := rfl
@[simp] theorem e_Act (g : List A → List A → T A) (u uk : Env → T (List A)) (env : Env) : fAct g u uk env = (u env).bind fun as => (uk env).bind fun bs => g as bs := rfl
end PF
namespace PF
open PySem PySem.Spec PyProof.Rows L2 PD
section
variable {cm : CM} {X : Cx} {F : Fm} {W : WX} {O : List Nat} {Z : Os} {e : Expr} {h : Env → T (List A)} {p pos pos' : Pos} {x g : Str} {code : List Nat} {f : Addr} {fd : FuncData} {k : Nat}
end
end PF
namespace PF
open PySem PySem.Spec PyProof.Rows L2 PD
structure CloCm (cm : CM) (tk : CTok) : Prop where
  r : ∀ d, cm.cret d = cloX tk (.ret d)
  e : ∀ C fs, cm.cexc C fs = cloX tk (.exc ⟨C, fs⟩)
section
variable {cm : CM} {X : Cx} {F : Fm} {W : WX} {O : List Nat} {Z : Os} {e : Expr} {f : Env → T A} {p pos apos : Pos} {x m : Str} {tk : CTok}
def XfOk (cm : CM) (K : PySem.W.Frag) (L : List Nat) (x : Str) : Prop := ∀ C ∈ L, XfC K (cm.cls C) ∧ PySem.W.findIn K (.ref (cm.cls C)) x = some none
end
section
variable {P : Program} {w : World} {K : PySem.W.Frag} {mg : Str → Option Value} {base : Heap} {cm : CM} {pp : Addr × Obj}
end
section
variable {X : Cx} {F : Fm} {W : WX} {k np : Nat} {f a : Addr} {oe : Obj} {fd : FuncData} {ps : List Str} {sp : Sp} {x : Str} {q pos : Pos} {e : Expr} {es : List Expr} {t : TA}
end
end PF
namespace PF
open PySem PySem.Spec PyProof.Rows L2 PD
section
variable {P : Program} {w : World} {K : PySem.W.Frag} {mg : Str → Option Value} {base : Heap} {cm : CM} {x an en x1 x2 x3 fn told : Str} {st : Stmt} {f ff0 : Addr} {fd ffd : FuncData} {k kq0 : Nat} {c1 c2 c3 : Value} {L : List Nat} {ci : Nat} {ff : List A → T A} {tl : List Nat} {tk : CTok}
end
end PF
namespace PD
open PySem PySem.Spec PyProof.Rows L2
def exO (o : Obj) : HO := .frz o (.ext fun _ => True)
def lessC (cs : List Addr) (H : Hp) : Hp := fun b => if b ∈ cs then none else H b
section
variable {P : Program} {w : World} {cs fs : List Addr} {os : Addr → Obj} {S H H' : Hp} {h h' B : Heap} {b : Addr} {o : HO}
theorem lessC_in (hb : b ∈ cs) : lessC cs H b = none := if_pos hb
theorem lessC_out (hb : b ∉ cs) : lessC cs H b = H b := if_neg hb
theorem lessC_some (e : lessC cs H b = some o) : b ∉ cs ∧ H b = some o := by
  by_cases hb : b ∈ cs
  · rw [lessC_in hb] at e
    cases e
  · rw [lessC_out hb] at e
    exact ⟨hb, e⟩
theorem Ex.less : Ex (lessC cs H) H := fun a u e => (lessC_some e).2
end
end PD
namespace PD
open PySem PySem.Spec PyProof.Rows L2
structure LamD where
  params : Arguments
  body : Expr
  scope : Scope
  dp : Option Str
def lamO (q : Str) (l : LamD) (cl : List (Str × Addr)) (dV doc pm : Value) (c' : Addr) (ctv : Value) : Obj := PySem.W.kdv_obj "<lambda>" q l.params (.expr l.body) l.scope cl dV doc pm c' ctv
def DflOk (S : Hp) (l : LamD) (dV : Value) : Prop := match l.dp with
  | none => dV = .none
  | some _ => ∃ t u, dV = .ref t ∧ S t = some (exO (PySem.W.kdv_tup [u]))
theorem DflOk.mono {S S' : Hp} {l : LamD} {dV : Value} (h : DflOk S l dV) (e : Ex S S') : DflOk S' l dV := by
  unfold DflOk at h ⊢
  split
  · rename_i z
    rw [z] at h
    exact h
  · rename_i x z
    rw [z] at h
    obtain ⟨t, u, h1, h2⟩ := h
    exact ⟨t, u, h1, e _ _ h2⟩
def lamX (q : Str) (l : LamD) (cells : List (Str × Addr)) : Xt where
  at_ := fun K S a => ∃ c' dV doc pm ctv, S a = some (exO (lamO q l (cloFrom cells l.scope.names []) dV doc pm c' ctv)) ∧ S c' = some (LamX.CodeO c' q) ∧ DflOk S l dV
  mono := fun K S S' a e h => by
    obtain ⟨c', dV, doc, pm, ctv, h1, h2, h3⟩ := h
    exact ⟨c', dV, doc, pm, ctv, e _ _ h1, e _ _ h2, h3.mono e⟩
structure LamOk (sc : Scope) (l : LamD) : Prop where
  kind : l.scope.kind = .function
  co : l.scope.isCoroutine = false
  gen : l.scope.isGenerator = false
  nocell : ∀ y ∈ l.scope.names, y.2 ≠ .cell
  free : ∀ y ∈ l.scope.names, y.2 = .free → sc.names.lookup y.1 = some .cell ∨ sc.names.lookup y.1 = some .free
  kw : l.params.kw_defaults = []
  dfl : match l.dp with
    | none => l.params.defaults = []
    | some x => (∃ i j p, l.params.defaults = [.Constant (.int i) j p]) ∧ l.scope.names.lookup x = some .local
  bind : ∀ (q : Str) (cl : List (Str × Addr)) (dV doc pm cv ctv : Value), match l.dp with
    | none => bindArgs (PySem.W.kdv_fn "<lambda>" q l.params (.expr l.body) l.scope cl .none doc pm cv ctv) ⟨[], []⟩ = pure []
    | some x => ∃ k : Option (Array Value) → Sem (List (Str × Value)), bindArgs (PySem.W.kdv_fn "<lambda>" q l.params (.expr l.body) l.scope cl dV doc pm cv ctv) ⟨[], []⟩ = seqItems? dV >>= k ∧ ∀ u : Value, k (some #[u]) = pure [(x, u)]
theorem LamOk.has {X : Cx} {l : LamD} (L : LamOk X.env.scope l) (ok : X.Ok) : ∀ y ∈ l.scope.names, y.2 = .free → ∃ c, X.env.cells.lookup y.1 = some c := fun y hy e => by
  rcases L.free y hy e with k | k
  · exact ok.has _ (.inl k)
  · exact ok.has _ (.inr k)
section
variable {X : Cx} {pins : List (Addr × Obj)} {σ : L2.St} {H : Hp} {s : Shared}
end
section
variable {K : PySem.W.Frag} {F : Fm} {S S' H H' : Hp} {ρ : DSt} {σ : L2.St}
end
section
variable {X : Cx} {F : Fm} {W : WX} {l : LamD} {pos : Pos} {c P : Addr}
end
end PD
namespace PD
open PySem PySem.Spec PyProof.Rows L2
structure CellsAt (X : Cx) (σ : L2.St) (os : Addr → Obj) : Prop where
  cell : ∀ y c, X.env.cells.lookup y = some c → ∃ v, (os c).data = .cell v
  val : ∀ (i : Nat) (y : Str) (v : V) (c : Addr), X.N[i]? = some y → σ[i]? = some (some v) → (X.env.scope.names.lookup y = some .cell ∨ X.env.scope.names.lookup y = some .free) → X.env.cells.lookup y = some c → ∃ u, RelV v u ∧ (os c).data = .cell (some u)
theorem RepX.mono {K : PySem.W.Frag} {S S' : Hp} {dx : DX} {cls : Value} {od : Option Addr} (r : RepX K S dx cls od) (e : Ex S S') : RepX K S' dx cls od := by
  obtain ⟨d, gs, h1, h2, h3, h4⟩ := r
  exact ⟨d, gs, h1, h2, e _ _ h3, h4.mono e⟩
section
variable {X : Cx} {F : Fm} {S H : Hp} {ρ ρm : DSt} {σ : L2.St} {os : Addr → Obj} {l : LamD} {lv : Nat} {w : WE} {o : Out} {f : Addr}
end
end PD
namespace PD
open PySem PySem.Spec PyProof.Rows L2
section
variable {X : Cx} {k : Nat} {f : Addr} {fd : FuncData} {ps : List Str} {sp : Sp} {x : Str} {p pos : Pos} {e : Expr} {es : List Expr} {t : TA}
end
section
variable {X : Cx} {F : Fm} {W : WX} {k : Nat} {f : Addr} {fd : FuncData} {ps : List Str} {sp : SpD} {x : Str} {p pos : Pos} {e : Expr} {es : List Expr} {u : WA}
end
section
variable {P : Program} {w : World} {K : PySem.W.Frag} {mg : Str → Option Value} {base : Heap}
def spLawT (K : PySem.W.Frag) (T : Addr) : Sp := fun vs H Q E => H T = some (.tbl #[]) ∧ spLaw K vs H Q E
theorem R.lawT {N : List Str} {H : Hp} {a b c T : Addr} {q : Str} {cells : List Int} (hl : cells.length ≤ 63) (cb : c ≠ b) (hc : H c = some (.lst (cells.map V.int))) (hb : H b = some (.lst [.ref c, .int 0, .int 0, .int 10043, .int 0])) (hN : 2 ≤ N.length) (hT : H T = some (.tbl #[])) :
    R K ⟨H, upd (fun _ => none) c (.lst (cells.map V.int)), some b, none, [(T, q)]⟩ (upd (fun _ => none) c (.lst (cells.map V.int))) (startL N b) ((L2.start N [.ref a]).set 1 (some (.ref b))) H := by
  have r := R.law (K := K) (a := a) hl cb hc hb hN
  refine ⟨⟨r.fz, r.s0, fun a o h n _ => r.keep a o h n (fun _ z => nomatch z), r.new, r.bag, fun p hp => ?_⟩, r.len, fun i => r.slot i, r.apart⟩
  obtain rfl : p = (T, q) := by simpa using hp
  have nT : T ≠ c := fun z => by
    rw [z, hc] at hT
    cases hT
  refine ⟨⟨by rw [upd_ne nT], #[], hT, True.intro, fun pos cv hcv => ?_⟩, ?_⟩
  · have z : codeAmong pos [] = some cv := hcv
    simp [codeAmong] at z
  · show H T ≠ none
    rw [hT]
    exact fun z => nomatch z
theorem ok_lawT {sn : Str} {N : List Str} {qn : Str} {k : Nat} {f co T : Addr} {params : Arguments} {body : List Stmt} {scope : Scope} {dV kV doc pm ct oc : Value} {an od : Option Addr} {osl : Array (Option Value)}
    (lk : K.lookup f = some ⟨oc, od, .func (PySem.W.fnOf "law" "law" params body scope dV kV doc pm an (.ref co) ct), osl⟩) (hcd : PySem.W.codeIn K (.ref co) "law" = true) (S : FnScope N [sn] scope) (hN : 2 ≤ N.length)
    (hbody : ∀ (A : Around) (outer : List Env) (s : Shared) (H : Hp) (E : XK), Room k (cxD P w K mg base N "law" scope f (.ref co) A outer s H E).A →
      ∃ st0 rest, body = st0 :: rest ∧ PS (cxD P w K mg base N "law" scope f (.ref co) A outer s H E) st0 (tAsg (tCallSD (spBag K) [] (fun _ _ _ _ => False) (tCons (tVar 0) tNil)) (gName 1)) ∧
        ∀ Fm : PD.Fm, Fm.tb = [(T, qn)] → ∃ wb, DSs (cxD P w K mg base N "law" scope f (.ref co) A outer s H E) Fm (wxD E) rest wb ∧ ∀ b, Fm.bag = some b → wb endsL (startL N b)) :
    FnOk P w K mg base (CXq P w) (k + 1) f (PySem.W.fnOf "law" "law" params body scope dV kV doc pm an (.ref co) ct) [sn] (spLawT K T) := by
  refine ⟨fun vs H Q E h => ?_, fun A outer s H args us vs Q E hr e0 hb r h => ?_⟩
  · obtain ⟨_, a, ns, rfl, _⟩ := h
    rfl
  · obtain ⟨hT, a, ns, rfl, hS, hlen, q⟩ := h
    refine LamX.run_ofS (N := N) (ps := [sn]) lk hcd S hr e0 hb r rfl fun hr' => ?_
    obtain ⟨st0, rest, hbd, h0, hr⟩ := hbody A outer s H E hr'
    rw [hbd]
    have key : ∀ Fm : PD.Fm, ∃ wb, DSs (cxD P w K mg base N "law" scope f (.ref co) A outer s H E) Fm (wxD E) rest wb ∧ (Fm.tb = [(T, qn)] → ∀ b, Fm.bag = some b → wb endsL (startL N b)) := fun Fm => by
      by_cases ht : Fm.tb = [(T, qn)]
      · obtain ⟨wb, h1, h2⟩ := hr Fm ht
        exact ⟨wb, h1, fun _ => h2⟩
      · exact ⟨fun _ _ => False, ⟨fun _ _ _ => False, ⟨fun _ _ _ _ _ _ z => z.elim⟩, fun _ _ _ _ _ _ _ z _ => z.elim⟩, fun z => absurd z ht⟩
    refine ⟨_, pss_cons h0 (pss_x (w := fun Fm => Classical.choose (key Fm)) fun Fm => (Classical.choose_spec (key Fm)).1), ?_⟩
    have st1 : (L2.start N [V.ref a])[0]? = some (some (.ref a)) := by
      unfold L2.start
      rfl
    refine ⟨.ref a, st1, a, ns, rfl, hS, fun c b cells H' hl hs cb hc hb' => ?_⟩
    have hT' : H' T = some (.tbl #[]) := hs _ _ hT
    refine ⟨_, _, _, endsL, R.lawT (q := qn) hl cb hc hb' hN hT', (Classical.choose_spec (key _)).2 rfl b rfl, ⟨fun _ _ _ _ _ _ z => z.elim, fun S2 H2 y v e r sv k => ?_, fun _ _ _ _ _ _ z => z.elim, fun _ _ _ _ _ _ z => z.elim, fun σ dx ρ S2 H2 cls od e r rx k => k.elim⟩⟩
    cases k
    cases sv
    exact q H2
end
end PD
namespace PF
open PySem PySem.Spec PyProof.Rows L2 PD
section
variable {K : PySem.W.Frag} {S : Hp} {cm : CM} {cs : List Addr} {os : Addr → Obj}
end
def turn1 (gs : List (Nat × (Env → T A))) (env : Env) : A → Option A
  | .lam i => match gs.lookup i with
    | some g => (match g env with
      | .ret a => some (.cret a)
      | .exc x => some (.cexc x.cls x.ks x.vs)
      | _ => none)
    | none => none
  | a => some a
def turns1 (gs : List (Nat × (Env → T A))) (env : Env) : List A → Option (List A)
  | [] => some []
  | x :: xs => match turn1 gs env x with
    | some y => (match turns1 gs env xs with
      | some ys => some (y :: ys)
      | none => none)
    | none => none
def turn (gs : List (Nat × (Env → T A))) (env : Env) : A → Option A
  | .lst xs => match turns1 gs env xs with
    | some ys => some (.lst ys)
    | none => none
  | a => turn1 gs env a
section
variable {cm : CM} {X : Cx} {F : Fm} {lv : Nat} {O : List Nat} {gs : List (Nat × (Env → T A))} {env : Env} {S H : Hp} {σ : L2.St} {os : Addr → Obj}
end
section
variable {cm : CM} {X : Cx} {F : Fm} {W : WX} {O : List Nat} {l : LamD} {pos : Pos} {c P : Addr}
end
section
variable {cm : CM} {X : Cx} {F : Fm} {W : WX} {O : List Nat} {k np lv : Nat} {f : Addr} {fd : FuncData} {ps : List Str} {ff : List A → T A} {x : Str} {p pos : Pos} {e : Expr} {es : List Expr} {u : Env → T (List A)} {gs : List (Nat × (Env → T A))}
end
section
variable {P : Program} {w : World} {K : PySem.W.Frag} {mg : Str → Option Value} {base : Heap}
theorem okF_lawT {sn : Str} {N : List Str} {qn : Str} {k : Nat} {f co Tb : Addr} {params : Arguments} {body : List Stmt} {scope : Scope} {dV kV doc pm ct oc : Value} {an od : Option Addr} {osl : Array (Option Value)} {fb : Env → T Ct}
    (lk : K.lookup f = some ⟨oc, od, .func (PySem.W.fnOf "law" "law" params body scope dV kV doc pm an (.ref co) ct), osl⟩) (hcd : PySem.W.codeIn K (.ref co) "law" = true) (S : FnScope N [sn] scope) (hN : 2 ≤ N.length)
    (hbody : ∀ (A : Around) (outer : List PySem.Env) (s : Shared) (H : Hp) (E : XK), Room k (cxD P w K mg base N "law" scope f (.ref co) A outer s H E).A →
      ∃ (cm : CM) (st0 : Stmt) (rest : List Stmt), body = st0 :: rest ∧ PS (cxD P w K mg base N "law" scope f (.ref co) A outer s H E) st0 (tAsg (tCallSD (spBag K) [] (fun _ _ _ _ => False) (tCons (tVar 0) tNil)) (gName 1)) ∧
        ∀ Fm : PD.Fm, Fm.tb = [(Tb, qn)] → FSs cm (cxD P w K mg base N "law" scope f (.ref co) A outer s H E) Fm (wxD E) [] ⟨[], [], [], false⟩ rest fb)
    (law : ∀ b : Addr, W b (fb (startB N.length b)).fin (fun a => a = .bl true) (fun _ => False)) :
    FnOk P w K mg base (CXq P w) (k + 1) f (PySem.W.fnOf "law" "law" params body scope dV kV doc pm an (.ref co) ct) [sn] (spLawT K Tb) :=
  ok_lawT (qn := qn) lk hcd S hN fun A outer s H E hr => by
    obtain ⟨cm, st0, rest, hb, h0, h1⟩ := hbody A outer s H E hr
    refine ⟨st0, rest, hb, h0, fun Fm htb => ⟨_, h1 Fm htb, fun b hb => ?_⟩⟩
    have hs := W_to (law b)
    rw [wp_fin] at hs
    refine ⟨_, startB_mix, ?_⟩
    rw [hb]
    exact T.wp_mono hs (fun c k => by
      cases c with
      | nx e => cases k
      | rt a =>
        have k : a = .bl true := k
        subst k
        rfl
      | bk e => exact k.elim
      | ct e => exact k.elim
      | ex x e => exact k.elim) fun _ k => k
end
end PF
namespace PF
open PySem PySem.Spec PyProof.Rows L2 PD
theorem _root_.L2H.RoomH.units {k : Nat} {A : Around} (r : L2H.RoomH k A) : A.units + 64 < cLine := by
  have := r.un
  omega
def exKids : Expr → List Expr
  | .BoolOp _ vs _ => vs
  | .BinOp l _ r _ => [l, r]
  | .UnaryOp _ x _ => [x]
  | .IfExp t b o _ => [t, b, o]
  | .Compare l _ cs _ => l :: cs
  | .Call f as _ _ => f :: as
  | .Subscript v s _ => [v, s]
  | .Attribute v _ _ => [v]
  | .List es _ => es
  | .Tuple es _ _ => es
  | _ => []
def stKids : Stmt → List Expr
  | .Return (some e) _ => [e]
  | .Assign _ v _ => [v]
  | .For _ it _ _ _ => [it]
  | .If t _ _ _ => [t]
  | .While t _ _ _ => [t]
  | .Expr e _ => [e]
  | _ => []
def stSubs : Stmt → List Stmt
  | .For _ _ b o _ => b ++ o
  | .If _ b o _ => b ++ o
  | .While _ b o _ => b ++ o
  | _ => []
def exAt : Expr → List Nat → Expr
  | e, [] => e
  | e, i :: is => match (exKids e)[i]? with
    | some x => exAt x is
    | none => e
def stAt : List Stmt → List Nat → Option Stmt
  | sts, i :: is => match sts[i]? with
    | some s => (match is with
      | [] => some s
      | j :: js => stAt (stSubs s) (j :: js))
    | none => none
  | _, [] => none
def lamOf (e : Expr) (dp : Option Str) : LamD := match e with
  | .Lambda p b s _ => ⟨p, b, s, dp⟩
  | e => ⟨⟨[], [], none, [], [], none, []⟩, e, default, dp⟩
def lamAt (sts : List Stmt) (sp : List Nat) (ep : List Nat) (dp : Option Str) : LamD := match stAt sts sp with
  | some s => (match ep with
    | i :: is => (match (stKids s)[i]? with
      | some e => lamOf (exAt e is) dp
      | none => lamOf (.List [] ⟨0, 0, 0, 0⟩) dp)
    | [] => lamOf (.List [] ⟨0, 0, 0, 0⟩) dp)
  | none => lamOf (.List [] ⟨0, 0, 0, 0⟩) dp
def errTxtB (s : Stmt) (g : Option Str) : Bool := decide ((defScope s).kind = .function) && (!(defScope s).isCoroutine && (!(defScope s).isGenerator && (decide ((errPs g).Nodup) && (((errPs g).all fun x => decide ((defScope s).names.lookup x = some .local)) && (((defScope s).names.all fun y => !decide (y.2 = .cell) && (!decide (y.2 = .free) || y.1 == "__class__")) &&
  (decide ((defScope s).names.lookup ("super" : Str) = some .globalImplicit) && (decide ((defScope s).names.lookup ("__class__" : Str) = some .free) && (match ((defArgs s).posonlyargs ++ (defArgs s).args).head? with
    | some ar => ar.arg == "self"
    | none => false))))))))
def fileIn (K : PySem.W.Frag) (cd : Value) (x : Str) : Bool := match cd with
  | .ref c => (match K.lookup c with
    | some ⟨_, _, .fields vs, _⟩ => (match (vs[2]? : Option Value) with
      | some (.str f _) => x == f
      | _ => false)
    | _ => false)
  | _ => false
theorem errD_mk {P : Program} {K : PySem.W.Frag} {mg : Str → Option Value} {C f cl : Addr} {code q : Str} {g : Option Str} {s : Stmt} {kV doc pm cdv ct oc oc2 : Value} {an od od2 : Option Addr} {osl osl2 : Array (Option Value)} {B newId initId : String} {bm : List Value}
    (b : ExB B newId initId bm) (hT : errTxtB s g = true) (hbody : errBody code g (defBody s)) (i : PySem.W.excInitIn K C bm newId = true) (o : PySem.W.excOver K C bm = true) (d : PySem.W.hasDictIn K C = true) (sa : PySem.W.findIn K (.ref C) "__setattr__" = some (some (.builtin "object.__setattr__")))
    (be : PySem.W.subIn K (.ref C) (.type "BaseException") = some true) (bb : PySem.W.subIn K (.ref C) (.type B) = some true) (ty : PySem.W.typeIn K (.ref C) = some (.type "type")) (kp : PySem.W.keepIn K (.ref C) = true) (su : PySem.W.ks_superIn K C C "__init__" = some (some (.builtin initId))) (op : PySem.W.nsIn K cStatics "thirdparty.any" = some none)
    (lk : K.lookup f = some ⟨oc, od, .func (PySem.W.fnX "__init__" q (defArgs s) (defBody s) (defScope s) [("__class__", cl)] .none kV doc pm an cdv ct), osl⟩) (hcd : PySem.W.codeIn K cdv q = true) (lcl : K.lookup cl = some ⟨oc2, od2, .cell (some (.ref C)), osl2⟩)
    (hfile : fileIn K cdv P.main.file = true) (ma : mg "super" = none) (to : (P.main.scope.names.lookup ("super" : Str)).isSome = false) (me : PySem.W.mroIn K C (.ref C) = some true) (t1 : PySem.W.takerIn K C "code" = some none) (t2 : ∀ x, g = some x → PySem.W.takerIn K C x = some none) :
    ErrD P K mg C code g f (PySem.W.fnX "__init__" q (defArgs s) (defBody s) (defScope s) [("__class__", cl)] .none kV doc pm an cdv ct) := by
  unfold errTxtB at hT
  simp only [Bool.and_eq_true] at hT
  obtain ⟨h1, h2, h3, h4, h5, h6, h7, h8, h9⟩ := hT
  have fr : ∀ y ∈ (defScope s).names, y.2 ≠ .cell ∧ (y.2 = .free → y.1 = "__class__") := fun y hy => by
    have := List.all_eq_true.mp h6 y hy
    simp only [Bool.and_eq_true, Bool.or_eq_true, Bool.not_eq_true', decide_eq_false_iff_not] at this
    refine ⟨this.1, fun e => ?_⟩
    rcases this.2 with z | z
    · exact absurd e z
    · exact beq_iff_eq.mp z
  refine ⟨⟨B, newId, initId, bm, b, i, o, d, sa, be, bb, ty, kp, su, op⟩, ⟨cl, defBody s, ⟨of_decide_eq_true h1, by simpa using h2, by simpa using h3, rfl, rfl, rfl, rfl, of_decide_eq_true h4, fun x hx => of_decide_eq_true (List.all_eq_true.mp h5 x hx), fun y hy => (fr y hy).1, fun y hy => (fr _ (PySem.mem_of_lookup hy)).2 rfl⟩, hbody, ⟨_, _, _, lcl⟩⟩, ⟨_, _, _, lk⟩, hcd, of_decide_eq_true h7, of_decide_eq_true h8, ?_, ?_, ma, to, me, t1, t2⟩
  · split at h9
    · rename_i ar har
      exact ⟨ar, har, beq_iff_eq.mp h9⟩
    · cases h9
  · unfold fileIn at hfile
    split at hfile
    · rename_i c
      split at hfile
      · rename_i hk
        split at hfile
        · rename_i hv
          exact ⟨_, _, _, _, _, _, _, rfl, hk, hv, hfile⟩
        · cases hfile
      · cases hfile
    · cases hfile
theorem xfOk_nil {cm : CM} {K : PySem.W.Frag} {x : Str} : XfOk cm K [] x := fun C h => absurd h (by simp)
theorem xfOk_cons {cm : CM} {K : PySem.W.Frag} {x : Str} {n : Nat} {L : List Nat} (h1 : XfC K (cm.cls n)) (h2 : PySem.W.findIn K (.ref (cm.cls n)) x = some none) (r : XfOk cm K L x) : XfOk cm K (n :: L) x := fun C h => by
  rcases List.mem_cons.mp h with e | e
  · rw [e]
    exact ⟨h1, h2⟩
  · exact r C e
theorem law_end {l : PySem.W.OpenLaw} {w : World} {K : PySem.W.Frag} {k : Nat} {x : Str} {mg : Str → Option Value} {fa co Tb : Addr} {h : Heap} {fd : FuncData} {ts : List Addr} (X : K.In h) (hts : ∀ P ∈ ts, h.get? P = some (PySem.W.tabObj #[])) (hin : ts.contains Tb = true) (hK : K.lookup Tb = none) (hC : PySem.W.codeHdIn K co Tb = true)
    (hb : ∀ (s : Shared) (u : Value), BindsTo s fd ⟨[u], []⟩ [(x, u)]) (F : ∀ base : Heap, K.In base → base.Ns mainGlobals mg → LamX.TabB base mg co Tb → FnOk l.prog w K mg base (CXq l.prog w) k fa fd [x] (spLawT K Tb)) :
    LamX.LawAtS l w K (CXq l.prog w) k 63 x mg fa h := by
  refine ⟨fd, [(co, Tb)], spLawT K Tb, fun p hp => ?_, fun p hp => ?_, fun p hp => ?_, hb, fun H a ns hl hbits hH hS => ⟨hH (co, Tb) (by simp), a, ns, rfl, hS, hl, fun _ => rfl⟩, fun base hB hG hTB => F base hB hG (hTB (co, Tb) (by simp))⟩
  · obtain rfl : p = (co, Tb) := by simpa using hp
    exact hts Tb (by simpa using hin)
  · obtain rfl : p = (co, Tb) := by simpa using hp
    exact hK
  · obtain rfl : p = (co, Tb) := by simpa using hp
    exact PySem.W.codeHd_of_K X hC
end PF
namespace PF
open PySem PySem.Spec PyProof.Rows L2 PD
end PF
namespace PF
open PySem PySem.Spec PyProof.Rows L2 PD
theorem fileIn_of {K : PySem.W.Frag} {c : Addr} {o : Value} {d : Option Addr} {vs : Array Value} {sl : Array (Option Value)} {x f : Str} {t : Tok} (h1 : K.lookup c = some ⟨o, d, .fields vs, sl⟩) (h2 : (vs[2]? : Option Value) = some (.str f t)) (h3 : (x == f) = true) : fileIn K (.ref c) x = true := by
  unfold fileIn
  dsimp only
  rw [h1]
  dsimp only
  rw [h2]
  exact h3
end PF
namespace PF
open PySem PySem.Spec PyProof.Rows L2 PD
section
variable {b : Addr} {z : AX → Prop} {q : Ct → Prop}
theorem W_asg {i : Nat} {f : Env → T A} {s : Env → T Ct} {env : Env} (a : A) (e : Env) (h : f env = .ret a) (he : env.set i (some a) = e) (k : W b (s e) q z) : W b (fSeq (fAsg i f) s env) q z := by
  subst he
  refine W_step ?_
  show W b ((f env).lift env _) _ z
  rw [h, PF.lift_ret, W_ret]
  exact k
theorem W_ifF {c : Env → T Bool} {t s : Env → T Ct} {env : Env} (h : c env = .ret false) (k : W b (s env) q z) : W b (fSeq (fIfS c t fNext) s env) q z := by
  refine W_step ?_
  show W b ((c env).lift env _) _ z
  rw [h, PF.lift_ret, if_neg Bool.false_ne_true]
  show W b (T.ret _) _ z
  rw [W_ret]
  exact k
theorem W_asgW {i : Nat} {f : Env → T A} {s : Env → T Ct} {env : Env} (h : W b (f env) (fun a => W b (s (env.set i (some a))) q z) (fun _ => False)) : W b (fSeq (fAsg i f) s env) q z := by
  refine W_step ?_
  show W b ((f env).lift env _) _ z
  rw [W_lift]
  refine W_mono h (fun a k => ?_) fun x k => k.elim
  rw [W_ret]
  exact k
theorem W_forN {g : TgF} {bd : Env → T Ct} (I : Nat → Env → Prop) : ∀ (items : List A) (k : Nat) (env : Env), I k env →
    (∀ k a, a ∈ items → ∀ e, I k e → ∃ e', g a e = some e' ∧ W b (bd e') (fun c => match c with | .nx e => I (k + 1) e | .ct e => I (k + 1) e | .bk e => q (.nx e) | .rt a => q (.rt a) | .ex x e => q (.ex x e)) z) →
    (∀ e, I (k + items.length) e → q (.nx e)) → W b (fForGo g bd items env) q z
  | [], k, env, h, _, hn => by
    unfold fForGo
    rw [W_ret]
    exact hn env h
  | a :: as, k, env, h, hs, hn => by
    obtain ⟨e', h1, h2⟩ := hs k a (List.mem_cons_self ..) env h
    refine W_forGo_cons h1 fun N hN => W_mono h2 (fun c hc => ?_) fun _ x => x
    have go : ∀ e, I (k + 1) e → N e := fun e he => hN e (W_forN I as (k + 1) e he (fun k a ha => hs k a (List.mem_cons_of_mem _ ha)) fun e he => hn e (by
      rw [List.length_cons, show k + (as.length + 1) = k + 1 + as.length by omega]
      exact he))
    cases c with
    | nx e => exact go e hc
    | ct e => exact go e hc
    | bk e => exact hc
    | rt a => exact hc
    | ex x e => exact hc
theorem W_par {i j : Nat} {f g : Env → T A} {s : Env → T Ct} {env : Env} (h : W b (f env) (fun a => W b (g env) (fun c => W b (s ((env.set i (some a)).set j (some c))) q z) (fun _ => False)) (fun _ => False)) : W b (fSeq (fPar i j f g) s env) q z := by
  refine W_step ?_
  show W b ((f env).lift env _) _ z
  rw [W_lift]
  refine W_mono h (fun a k => ?_) fun x k => k.elim
  rw [W_lift]
  refine W_mono k (fun a k => ?_) fun x k => k.elim
  rw [W_ret]
  exact k
theorem W_nx {env : Env} (h : q (.nx env)) : W b (fNext env) q z := by
  show W b (T.ret _) q z
  rw [W_ret]
  exact h
theorem W_retV {f : Env → T A} {s : Env → T Ct} {env : Env} {a : A} (h : f env = .ret a) (k : q (.rt a)) : W b (fSeq (fRet f) s env) q z := by
  refine W_step ?_
  show W b ((f env).lift env _) _ z
  rw [h, PF.lift_ret, W_ret]
  exact k
theorem W_draw2 {j : Nat} {fm : Env → T A} {env : Env} {m : Int} {q : A → Prop} (h1 : env[j]? = some (some (.ref b))) (hm : fm env = .ret (.int m)) (h0 : 0 < m) (hx : m < 1073741824) (h : ∀ k, 0 ≤ k → k < m → q (.int k)) :
    W b (fAct (bFix 2 0 [0, 1] [] fDraw) (fCons (fVar j) (fCons fm (fNil))) (fNil) env) q z := by
  simp [h1, hm]
  exact W_fDraw h0 hx h
theorem W_loop {it : Env → T (List A)} {g : TgF} {bd s : Env → T Ct} {env : Env} (I : Nat → Env → Prop) (items : List A) (hi : it env = .ret items) (h0 : I 0 env)
    (hs : ∀ k a, a ∈ items → ∀ e, I k e → ∃ e', g a e = some e' ∧ W b (bd e') (fun c => match c with | .nx e => I (k + 1) e | .ct e => I (k + 1) e | .bk e => W b (s e) q z | .rt a => q (.rt a) | .ex x e => q (.ex x e)) z)
    (hn : ∀ e, I items.length e → W b (s e) q z) : W b (fSeq (fFor it g bd) s env) q z := by
  refine W_step ?_
  show W b ((it env).lift env _) _ z
  rw [hi, PF.lift_ret]
  exact W_forN I items 0 env h0 hs fun e he => hn e (by rw [Nat.zero_add] at he; exact he)
end
@[simp] theorem e_fldA (n k : Nat) (v : A) (ks : List Nat) (vs : List A) : fldA n (k :: ks) (v :: vs) = if k = n then some v else fldA n ks vs := rfl
@[simp] theorem e_altA {β : Type} (C D : Nat) (g : β) (r : List (Nat × β)) : altA ((C, g) :: r) D = if D = C then some g else altA r D := rfl
end PF
namespace SR
open PySem PySem.Spec PyProof.Rows L2
abbrev Row := Int × Value
structure Mem {P : Program} {w : World} {κ : Type} [DecidableEq κ] (knd : HeapKind P w κ) : Prop where
  seq : ∀ {h : Heap} {k : κ} {b : Addr}, knd.is h k b → ∃ o its n, h.get? b = some o ∧ o.data = .seq its n
  stay : ∀ {h h' : Heap} {k : κ} {b : Addr}, knd.is h k b → (∀ o, h.get? b = some o → h'.get? b = some o) → knd.is h' k b
  seen : ∀ {A : Around} {E : Value → Shared → Prop} {s : Shared} {k : κ} {b : Addr} {ys : List Value} {Q : Bool → Shared → Prop}, knd.is s.heap k b → (∀ y ∈ ys, ∃ k' c, y = .ref c ∧ knd.is s.heap k' c) → Q false s → wpAny (model P w) A (searchCouldBeSeen (.ref b) ys) Q E s
  byv : ∀ {A : Around} {E : Value → Shared → Prop} {s : Shared} {k : κ} {b : Addr} {Q : Bool → Shared → Prop}, knd.is s.heap k b → (∀ c, Q c s) → wpAny (model P w) A (hashByValue 8 (.ref b)) Q E s
structure At (w : World) (h : Heap) (a : Addr) (rs : List Row) (ep : Nat) (t : SetTable) : Prop where
  ob : ∃ o, h.get? a = some o ∧ o.ExactSet ∧ o.data = .set rs.toArray ep t
  tab : TabOk t (rs.map (·.1))
  led : w.params.followText "set-order" = true ∨ t.led = true
  room : rs.length * 5 < t.mask * 3
  few : rs.length < 64
section
variable {P : Program} {w : World} {A : Around} {E : Value → Shared → Prop} {s : Shared} {a : Addr} {rs : List Row} {ep : Nat} {t : SetTable}
theorem At.len (M : At w s.heap a rs ep t) : t.place.toList.length = rs.length := by
  rw [Array.length_toList, M.tab.sz, List.length_map]
theorem all_at {α : Type} : ∀ l : List α, (List.range l.length).filterMap (fun i => l[i]?) = l
  | [] => rfl
  | x :: l => by
    have e : (fun i => (x :: l)[i]?) 0 = some x := rfl
    rw [List.length_cons, List.range_succ_eq_map, List.filterMap_cons_some e, List.filterMap_map]
    exact congrArg (x :: ·) (all_at l)
end
end SR
namespace SR
open PySem PySem.Spec PyProof.Rows L2
section
variable {P : Program} {w : World} {κ : Type} [DecidableEq κ] {knd : KeyKind P w κ} {A : Around} {E : Value → Shared → Prop} {s : Shared}
end
end SR
namespace TX
open PySem PySem.Spec PyProof.Rows L2
section
variable {P : Program} {w : World} {A : Around} {E : Value → Shared → Prop} {s : Shared}
end
end TX
namespace SR
open PySem PySem.Spec PyProof.Rows L2 PD
section
variable {P : Program} {w : World} {κ : Type} [DecidableEq κ]
abbrev rowOf (knd : HeapKind P w κ) (q : Addr × κ) : Row := (knd.hash q.2, .ref q.1)
structure Has (knd : HeapKind P w κ) (h : Heap) (a : Addr) (L : List (Addr × κ)) : Prop where
  at_ : ∃ rs ep t, At w h a rs ep t ∧ rs.Perm (L.map (rowOf knd))
  nd : (L.map (·.2)).Nodup
  is : ∀ q ∈ L, knd.is h q.2 q.1
structure Out (ks L : List (Addr × κ)) : Prop where
  sub : ∀ q ∈ L, q ∈ ks
  all : ∀ q ∈ ks, q.2 ∈ L.map (·.2)
variable {knd : HeapKind P w κ} {A : Around} {E : Value → Shared → Prop} {s : Shared} {a : Addr} {L : List (Addr × κ)}
theorem Has.keep {h h' : Heap} (M : Mem knd) (H : Has knd h a L) (ka : ∀ o, h.get? a = some o → h'.get? a = some o) (kq : ∀ q ∈ L, ∀ o, h.get? q.1 = some o → h'.get? q.1 = some o) : Has knd h' a L := by
  obtain ⟨rs, ep, t, ⟨⟨o, ho, r⟩, r1, r2, r3, r4⟩, pe⟩ := H.at_
  exact ⟨⟨rs, ep, t, ⟨⟨o, ka o ho, r⟩, r1, r2, r3, r4⟩, pe⟩, H.nd, fun q hq => M.stay (H.is q hq) (kq q hq)⟩
theorem Has.few (H : Has knd s.heap a L) : L.length < 64 := by
  obtain ⟨rs, ep, t, T, pe⟩ := H.at_
  have := T.few
  rw [pe.length_eq, List.length_map] at this
  exact this
end
end SR
namespace SR
open PySem PySem.Spec PyProof.Rows L2 PD
section
variable {P : Program} {w : World} {κ : Type} [DecidableEq κ] {knd : HeapKind P w κ} {A : Around}
end
section
variable {P : Program} {w : World} {κ : Type} [DecidableEq κ] {knd : HeapKind P w κ} {A : Around} {E : Value → Shared → Prop} {s : Shared}
end
end SR
namespace TX
open PySem PySem.Spec PyProof.Rows L2 PD SR
section
variable {P : Program} {w : World} {A : Around} {E : Value → Shared → Prop} {s : Shared}
end
end TX
namespace PySem
open Sem (wp)
section
variable {prog : Program} {w : World} {K : Type} [DecidableEq K] {knd : KeyKind prog w K} {A : Around} {E : Value → Shared → Prop} {s : Shared}
end
end PySem
namespace PD
open PySem PySem.Spec PyProof.Rows L2
end PD
namespace PD
open PySem PySem.Spec PyProof.Rows L2
theorem RepK.len {K : PySem.W.Frag} {S : Hp} {kvs : List (Key × D)} {es : List (Key × V)} (r : RepK K S kvs es) : es.length = kvs.length := by
  have := congrArg List.length r.1
  simpa using this
section
variable {X : Cx} {F : Fm} {W : WX} {a b e f o i : Expr} {w wa wb : WE} {u : WP2} {pos p apos : Pos} {lv : Nat}
variable {wo wk wx : WE}
end
end PD
namespace PF
open PySem PySem.Spec PyProof.Rows L2 PD
def eqKey : A → A → Bool
  | .int i, .int j => decide (i = j)
  | .str x, .str y => decide (x = y)
  | _, _ => false
section
variable {cm : CM}
end
end PF
namespace PF
open PySem PySem.Spec PyProof.Rows L2 PD
section
variable {cm : CM} {X : Cx} {F : Fm} {W : WX} {O : List Nat} {Z : Os} {a b e o i : Expr} {f g h : Env → T A} {pos p apos : Pos} {lv : Nat}
end
end PF
namespace PF
open PySem PySem.Spec PyProof.Rows L2 PD
structure FunA (K : PySem.W.Frag) (x qual : Str) (st : Stmt) (f : Addr) (fd : FuncData) : Prop where
  ex : ∃ (oc : Value) (od : Option Addr) (dV kV doc pm : Value) (an : Option Addr) (cdv ct : Value) (osl : Array (Option Value)),
    fd = PySem.W.fnOf x qual (defArgs st) (defBody st) (defScope st) dV kV doc pm an cdv ct ∧ K.lookup f = some ⟨oc, od, .func fd, osl⟩ ∧ PySem.W.codeIn K cdv qual = true
  kp : PySem.W.keepIn K (.ref f) = true
section
variable {P : Program} {w : World} {K : PySem.W.Frag} {mg : Str → Option Value} {base : Heap} {cm : CM} {x qual : Str} {st : Stmt} {f : Addr} {fd : FuncData} {N ps : List Str} {k : Nat}
theorem FunA.okQ {CX : CXT} {sp : Sp} (F : FunA K x qual st f fd) (S : FnScope N ps (defScope st)) (len : ∀ vs H Q E, sp vs H Q E → vs.length = ps.length)
    (hbody : ∀ (cdv : Value) (A : Around) (outer : List PySem.Env) (s : Shared) (H : Hp) (vs : List V) (Q : VK) (E : XK), Room k (A.deeper (envOfC qual (defScope st) s.heap.objs.size f cdv)) → sp vs H Q E →
      ∃ t, PSs (cxOf CX P w K mg base N qual (defScope st) f cdv A outer s H E) (defBody st) t ∧ t { nx := fun _ H' => Q .non H', rt := Q } (start N vs) H) : FnOk P w K mg base CX (k + 1) f fd ps sp := by
  obtain ⟨oc, od, dV, kV, doc, pm, an, cdv, ct, osl, rfl, lk, hcd⟩ := F.ex
  exact fn_of lk hcd S len fun A outer s H vs Q E hr hsp => hbody cdv A outer s H vs Q E hr hsp
end
structure FunW (K : PySem.W.Frag) (x qual : Str) (st : Stmt) (f : Addr) (fd : FuncData) (dd : List A) (kn : List Str) (dk : List A) : Prop where
  ex : ∃ (dvs zs : List V), zs.length = kn.length ∧ FunD K x qual (defArgs st) (defBody st) (defScope st) dvs (kn.zip zs) f fd ∧ (∀ cm S, Reps K S (toDs cm dd) dvs) ∧ ∀ cm S, Reps K S (toDs cm dk) zs
theorem FunW.a {K : PySem.W.Frag} {x qual : Str} {st : Stmt} {f : Addr} {fd : FuncData} {dd : List A} {kn : List Str} {dk : List A} (F : FunW K x qual st f fd dd kn dk) : FunA K x qual st f fd := by
  obtain ⟨dvs, zs, _, G, _⟩ := F.ex
  obtain ⟨oc, od, dV, kV, doc, pm, an, cdv, ct, osl, e, lk, hcd, _⟩ := G.ex
  exact ⟨⟨oc, od, dV, kV, doc, pm, an, cdv, ct, osl, e, lk, hcd⟩, G.kp⟩
structure BdW (K : PySem.W.Frag) (fd : FuncData) (ps : List Str) (n : Nat) (ks : List Str) (idx : List Nat) (dd : List A) : Prop where
  ex : ∃ (dvs : List V) (us : List Value), Vals dvs us ∧ (∀ cm S, Reps K S (toDs cm dd) dvs) ∧ Bd K fd ps n ks idx us
section
variable {K : PySem.W.Frag} {x qual : Str} {st : Stmt} {f : Addr} {fd : FuncData} {ps ks : List Str} {n : Nat} {idx : List Nat} {dd dk : List A} {kn : List Str}
end
end PF
namespace PF
open PySem PySem.Spec PyProof.Rows L2 PD
section
variable {K : PySem.W.Frag}
variable {x qual : Str} {st : Stmt} {f : Addr} {fd : FuncData} {oc doc pm cdv ct kV : Value} {od an : Option Addr} {osl : Array (Option Value)} {T D : Addr} {us : List Value} {dd dk : List A} {kn : List Str}
end
section
variable {cm : CM} {X : Cx} {F : Fm} {W : WX} {k n m np nn C : Nat} {ow : Bool} {f : Addr} {fd : FuncData} {ps ks : List Str} {idx : List Nat} {ff : List A → T A} {dd : List A} {b : Env → T Ct}
end
end PF
namespace PF
section
variable {b : PySem.Addr} {z : AX → Prop}
theorem big_of {n k : Nat} (h : n ≤ k) (hk : k ≤ 10000000 := by decide) : n ≤ big := by
  unfold big
  omega
theorem W_val {f : Env → T (List A)} {env : Env} {q : A → Prop} (h : W b (f env) (fun xs => q (.lst xs)) z) : W b (fVal f env) q z := by
  unfold fVal
  rw [W_bind]
  refine W_mono h (fun xs k => ?_) fun _ k => k
  rw [W_ret]
  exact k
theorem W_e {α : Type} {t : T α} {a : α} {q : α → Prop} (h : t = .ret a) (k : q a) : W b t q z := by
  rw [h, W_ret]
  exact k
end
end PF
namespace PySem.W
open Lean Elab Tactic Meta PySem PySem.Calls PyProof.Rows PyProof.V PySem.Spec
section
variable {prog : Program} {w : World} {K : Type} [DecidableEq K] {knd : KeyKind prog w K} {A : Around} {E : Value → Shared → Prop} {s : Shared}
end
end PySem.W
namespace PD
open PySem PySem.Spec PyProof.Rows L2
section
variable {X : Cx} {lv : Nat}
end
end PD
namespace PF
open PySem PySem.Spec PyProof.Rows L2 PD
end PF
namespace PD
open PySem PySem.Spec PyProof.Rows L2
end PD
namespace PySem
open Sem (wp)
section
variable {prog : Program} {w : World} {A : Around} {E : Value → Shared → Prop} {s : Shared}
end
section
variable {prog : Program} {w : World}
end
section
variable {K : Type} [DecidableEq K]
end
end PySem
namespace L2
open PySem PySem.Spec PyProof.Rows
section
variable {X : Cx} {e e2 : Expr} {ta : TA} {p p2 pos pos2 : Pos}
end
end L2
namespace PD
open PySem PySem.Spec PyProof.Rows L2
section
variable {X : Cx} {F : Fm} {W : WX} {a b : Expr} {wa wb : WE} {p p2 pos pos2 : Pos}
end
end PD
namespace PF
open PySem PySem.Spec PyProof.Rows L2 PD
variable {cm : CM} {X : Cx} {F : Fm} {W : WX} {O : List Nat} {a b : Expr} {f g : Env → T A} {p p2 pos pos2 : Pos}
end PF
namespace PF
open PySem PySem.Spec PyProof.Rows L2 PD
section
variable {X : Cx} {a : Expr} {p pos : Pos}
end
end PF
namespace PF
open PySem PySem.Spec PyProof.Rows L2 PD
section
variable {cm : CM} {X : Cx} {F : Fm} {W : WX} {O : List Nat} {e a : Expr} {f : Env → T A} {pos p apos : Pos}
end
end PF
namespace PF
open PySem PySem.Spec PyProof.Rows L2 PD
section
variable {cm : CM} {X : Cx} {F : Fm} {W : WX} {O : List Nat} {e : Expr} {f : Env → T A} {pos p : Pos}
end
end PF
namespace PD
open PySem PySem.Spec PyProof.Rows L2
section
variable {X : Cx} {F : Fm} {W : WX} {pos : Pos}
end
end PD
namespace PF
open PySem PySem.Spec PyProof.Rows L2 PD
section
variable {cm : CM} {X : Cx} {F : Fm} {W : WX} {O : List Nat} {pos : Pos}
end
end PF
namespace PD
open PySem PySem.Spec PyProof.Rows L2
section
variable {κ α : Type} [DecidableEq κ]
end
section
variable {K : PySem.W.Frag} {S : Hp}
theorem RepT.len {kvs : List (List Key × D)} {es : List (List Key × V)} (r : RepT K S kvs es) : es.length = kvs.length := by
  have := congrArg List.length r.1
  simpa using this
end
section
variable {X : Cx} {F : Fm} {W : WX} {a b e f o i : Expr} {wa wo wk wx : WE} {pos p apos : Pos} {lv : Nat}
end
end PD
namespace PF
open PySem PySem.Spec PyProof.Rows L2 PD
def eqKs : List A → List A → Bool
  | [], [] => true
  | x :: xs, y :: ys => eqKey x y && eqKs xs ys
  | _, _ => false
def eqTK : A → A → Bool
  | .tup xs, .tup ys => eqKs xs ys
  | _, _ => false
def getT : List A → List A → A → Option A
  | j :: ks, v :: vs, k => if eqTK j k then some v else getT ks vs k
  | _, _, _ => none
section
variable {cm : CM}
end
end PF
namespace PF
open PySem PySem.Spec PyProof.Rows L2 PD
section
variable {cm : CM} {X : Cx} {F : Fm} {W : WX} {O : List Nat} {Z : Os} {a b e o i : Expr} {f g h : Env → T A} {pos p apos : Pos} {lv : Nat}
end
end PF
namespace PySem.W
open PySem PySem.Calls PyProof.Rows
section
variable {prog : Program} {w : World} {A : Around} {E : Value → Shared → Prop} {s : Shared} {K : Frag} {x C L f : Addr} {h₀ : Heap} {m : Str → Option Value} {ox : Obj} {od : Option Obj}
end
end PySem.W
namespace PF
open PySem PySem.Spec PyProof.Rows L2 PD
section
variable {X : Cx} {F : Fm} {W : WX} {a b : Expr} {wa wb : WE} {pos : Pos} {op : Operator}
end
section
variable {cm : CM} {X : Cx} {F : Fm} {W : WX} {O : List Nat} {a b : Expr} {pos : Pos} {f g : Env → T A} {alts : List (Nat × (List A → List A → T A))}
end
end PF
namespace PF
open PySem PySem.Spec PyProof.Rows L2 PD
section
variable {X : Cx} {F : Fm} {W : WX} {e : Expr} {w : WE} {pos p1 p2 p3 : Pos} {k : Nat}
end
section
variable {cm : CM} {X : Cx} {F : Fm} {W : WX} {O : List Nat} {e : Expr} {f : Env → T A} {pos p1 p2 p3 : Pos} {k : Nat}
end
end PF
namespace PD
open PySem PySem.Spec PyProof.Rows L2
section
variable {X : Cx} {F : Fm} {W : WX} {pos : Pos}
end
end PD
namespace PF
open PySem PySem.Spec PyProof.Rows L2 PD
section
variable {cm : CM} {X : Cx} {F : Fm} {W : WX} {O : List Nat} {pos : Pos}
end
end PF
namespace PD
open PySem PySem.Spec PyProof.Rows L2
inductive Bare : D → Prop where
  | non : Bare .non
  | bl (b : Bool) : Bare (.bl b)
  | int (i : Int) : Bare (.int i)
  | str (s : Str) : Bare (.str s)
  | ty (n : String) : Bare (.ty n)
  | ref (a : Addr) : Bare (.ref a)
  | tup {xs : List D} (h : ∀ x ∈ xs, Bare x) : Bare (.tup xs)
  | lst {xs : List D} (h : ∀ x ∈ xs, Bare x) : Bare (.lst xs)
  | dic {kvs : List (Key × D)} (h : ∀ q ∈ kvs, Bare q.2) : Bare (.dic kvs)
  | obj {C : Addr} {fs : List (Str × D)} (h : ∀ q ∈ fs, Bare q.2) : Bare (.obj C fs)
structure Dif (p : Addr) (S S2 : Hp) : Prop where
  ne : ∀ a, a ≠ p → S2 a = S a
  at_ : ∃ es od, (S p = some (.dK es) ∧ S2 p = some (.frz od (.dK es))) ∨ (S p = some (.frz od (.dK es)) ∧ S2 p = some (.dK es))
theorem Dif.l {p : Addr} {S S2 : Hp} (h : Dif p S S2) : ∀ xs, S p ≠ some (.lst xs) := fun xs z => by
  obtain ⟨es, od, h | h⟩ := h.at_ <;> (rw [h.1] at z; cases z)
theorem Dif.o {p : Addr} {S S2 : Hp} (h : Dif p S S2) : ∀ C dx gs, S p ≠ some (.ins C dx gs) := fun C dx gs z => by
  obtain ⟨es, od, h | h⟩ := h.at_ <;> (rw [h.1] at z; cases z)
theorem Dif.t {p : Addr} {S S2 : Hp} (h : Dif p S S2) : ∀ xs, ¬ Rd S p (.tup xs) := fun xs z => by
  obtain ⟨es, od, h | h⟩ := h.at_ <;> rcases z with z | ⟨_, z⟩ <;> (rw [h.1] at z; cases z)
theorem Dif.k {p : Addr} {S S2 : Hp} (h : Dif p S S2) {a : Addr} {fs : List (Key × V)} (r : Rd S a (.dK fs)) : Rd S2 a (.dK fs) := by
  by_cases e : a = p
  · subst e
    obtain ⟨es, od, h | h⟩ := h.at_
    · rcases r with z | ⟨_, z⟩
      · rw [h.1] at z
        cases z
        exact .inr ⟨od, h.2⟩
      · rw [h.1] at z
        cases z
    · rcases r with z | ⟨_, z⟩
      · rw [h.1] at z
        cases z
      · rw [h.1] at z
        cases z
        exact .inl h.2
  · unfold Rd at r ⊢
    rw [h.ne a e]
    exact r
abbrev Fm.lk (F : Fm) (H0 S0 : Hp) : Fm := ⟨H0, S0, F.bag, none, []⟩
structure Thin (ρ ρ0 : DSt) (i : Nat) (d : Addr) : Prop where
  len : ρ0.length = ρ.length
  at_ : ρ0[i]? = some (some (.val (.ref d)))
  ot : ∀ (j : Nat) y, j ≠ i → ρ0[j]? = some (some y) → ∃ dd, y = .val dd ∧ Bare dd ∧ ρ[j]? = some (some (.val dd))
def tOr (t u : TE) : TE := fun σ H Q => t σ H Q ∨ u σ H Q
section
variable {X : Cx} {F : Fm} {W : WX} {elt tg iter : Expr} {ifs : List Expr} {scope : Scope} {pos apos cpos p : Pos} {elts : List Expr} {kk : Nat} {tpos : Pos}
variable {x : Str}
end
end PD
namespace PF
open PySem PySem.Spec PyProof.Rows L2 PD
section
variable {cm : CM} {O : List Nat}
end
section
variable {cm : CM} {X : Cx} {F : Fm} {W : WX} {O : List Nat} {elt tg : Expr} {ifs : List Expr} {scope : Scope} {pos apos cpos p : Pos} {elts : List Expr} {kk : Nat} {tpos : Pos} {f : Env → T A}
end
end PF
namespace PD
open PySem PySem.Spec PyProof.Rows L2
end PD
namespace PF
open PySem PySem.Spec PyProof.Rows L2 PD
end PF
namespace PD
open PySem PySem.Spec PyProof.Rows L2
section
variable {X : Cx} {F : Fm} {W : WX} {e : Expr} {w : WE} {pos p : Pos}
end
end PD
namespace PF
open PySem PySem.Spec PyProof.Rows L2 PD
section
variable {cm : CM} {X : Cx} {F : Fm} {W : WX} {O : List Nat} {e : Expr} {f : Env → T A} {pos p : Pos}
end
end PF
namespace PD
open PySem PySem.Spec PyProof.Rows L2
section
variable {X : Cx} {lv : Nat}
end
end PD
namespace PD
open PySem PySem.Spec PyProof.Rows L2
section
variable {X : Cx} {o : Expr} {t : TE} {p1 p2 p3 p4 : Pos}
end
section
variable {X : Cx} {F : Fm} {W : WX} {o : Expr} {w : WE} {p1 p2 p3 p4 : Pos}
end
end PD
namespace PF
open PySem PySem.Spec PyProof.Rows L2 PD
section
variable {cm : CM} {X : Cx} {F : Fm} {W : WX} {O : List Nat} {Z : Os} {o : Expr} {f : Env → T A} {p1 p2 p3 p4 pos apos cpos p : Pos}
end
end PF
namespace PD
open PySem PySem.Spec PyProof.Rows L2
section
variable {X : Cx} {F : Fm} {W : WX} {pos : Pos}
end
end PD
namespace PF
open PySem PySem.Spec PyProof.Rows L2 PD
section
variable {cm : CM} {X : Cx} {F : Fm} {W : WX} {O : List Nat} {Z : Os} {pos : Pos} {a b c : Expr} {f g h : Env → T A}
end
end PF
namespace PD
open PySem PySem.Spec PyProof.Rows L2
structure StatM (K : PySem.W.Frag) (C : Addr) (mc : Value) (m : Str) (p g : Addr) : Prop where
  at_ : PySem.W.findCls K (.ref C) mc m = some (.get (.builtin "staticmethod.__get__") (.ref p) .none (.ref C))
  rc : ∃ rest, PySem.W.recIn K p "staticmethod" = some (.ref g :: rest)
section
variable {X : Cx} {F : Fm} {W : WX} {o e : Expr} {wo we : WE} {pos apos p : Pos}
end
section
variable {X : Cx} {F : Fm} {W : WX} {es : List Expr} {kws : List Keyword} {ks : List Str} {pos p apos : Pos} {u uk : WA} {C q g : Addr} {mc : Value} {wa : WAct} {x m : Str}
end
end PD
namespace PF
open PySem PySem.Spec PyProof.Rows L2 PD
section
variable {cm : CM} {X : Cx} {F : Fm} {W : WX} {O : List Nat} {a b : Expr} {f g : Env → T A} {apos pos : Pos}
end
end PF
namespace PF
open PySem PySem.Spec PyProof.Rows L2 PD
end PF
namespace PD
open PySem PySem.Spec PySem.Calls PySem.HandSPX
section
variable {prog : Program} {w : World} {A : Around} {E : Value → Shared → Prop} {R : Result → Shared → Prop} {hp : Heap} {gs : Array GenState} {dw : Drawn} {tk : Nat} {os : OsState}
variable {nm q : Str} {C N : Addr} {bs bm mB : List Value} {hdct : Bool} {sn : List Str} {sub : List Value} {ab : Bool} {col : Option Bool} {dd : Option Addr} {k0 k1 k2 k3 k5 : Option Value} {B newId initId : String} {kw : List (Str × Value)}
theorem chk_newK {M : Model} {Q : Unit → Shared → Prop} (F : ExcBaseFacts B newId initId mB) (hT : ∀ X : String, bm.contains (.type X) = mB.contains (.type X))
    (hC : hp.get? C = some (excClassObj nm q C N bs bm hdct sn sub ab col dd k0 k1 k2 k3 k5 newId)) (hq : Q () ⟨hp, gs, dw, tk, os⟩) : wpAny M A (checkBuiltinCall newId ⟨[.ref C], kw⟩) Q E ⟨hp, gs, dw, tk, os⟩ := by
  have c1 : (Value.ref C :: bm).contains (.type B) = true := by
    rw [List.contains_cons, hT, F.hasB, Bool.or_true]
  have c2 := F.noStar
  simp only [checkBuiltinCall, F.newKind, F.newSplit, F.newRow]
  repeat (first
    | refine wpAny_staticBase_exc hC ?_
    | refine wpAny_madeBy_exc hC ?_
    | refine wpAny_loadPart_at hC ?_
    | (refine wpAny_isSubtype_exc hC ?_
       rw [c1])
    | simp only [bne_self_eq_false, Bool.false_eq_true, if_false]
    | wp_step)
  exact hq
theorem run_newK (F : ExcBaseFacts B newId initId mB) (hT : ∀ X : String, bm.contains (.type X) = mB.contains (.type X))
    (hC : hp.get? C = some (excClassObj nm q C N bs bm hdct sn sub ab col dd k0 k1 k2 k3 k5 newId))
    (hq : R (.ok (.ret (.ref (hp.objs.size + 1)))) ⟨(hp.push (PySem.W.kdv_tup [])).push (excO C hp.objs.size), gs, dw, tk, os⟩) : codeAny (model prog w) A (.builtin newId ⟨[.ref C], kw⟩) R ⟨hp, gs, dw, tk, os⟩ := by
  have ends := F.ends
  have c1 : (Value.ref C :: bm).contains (.type B) = true := by
    rw [List.contains_cons, hT, F.hasB, Bool.or_true]
  have c2 : (Value.ref C :: bm).contains (.type "AttributeError") = false := by
    rw [List.contains_cons, hT, F.noAttr]
    rfl
  have c3 : (Value.ref C :: bm).contains (.type "NameError") = false := by
    rw [List.contains_cons, hT, F.noName]
    rfl
  refine codeAny_builtinAt F.entry ?_
  unfold Builtin.«BaseException.__new__»
  refine wpAt_bind ?_
  show wpAt _ _ _ (stack >>= _) _ _ _
  refine wpAt_bind (wpAt_stack fun p below => wpAt_of_wpAny ?_)
  wp_walk
  refine wpAt_of_wpAny ?_
  rw [F.owner]
  repeat (first
    | with_reducible refine wpAny_loadPart_at hC ?_
    | with_reducible refine wpAny_madeHere_exc F.canon hC ?_
    | (with_reducible refine wpAny_isSubtype_exc hC ?_
       first | rw [c1] | rw [c2] | rw [c3])
    | wp_step)
  show R _ _
  rw [Heap.size_push]
  exact hq
theorem run_typeK {fI : Addr} {Q : Fin → Shared → Prop} (F : ExcBaseFacts B newId initId mB) (hT : ∀ X : String, bm.contains (.type X) = mB.contains (.type X))
    (hC : hp.get? C = some (excClassObj nm q C N bs bm hdct sn sub ab col dd k0 k1 k2 k3 k5 newId))
    (hi : PySem.W.Looks (model prog w) hp (typeLookup (.ref C) "__init__") (some (.ref fI))) (hb : ∀ self, PySem.W.Looks (model prog w) hp (bindSpecial (.ref fI) self) (.ref fI, [self]))
    (hq : codeAny (model prog w) A (.call (.ref fI) ⟨[.ref (hp.objs.size + 1)], kw⟩)
      (fun r s' => match r with | .ok (.ret v) => v = .none ∧ Q (.done (.ret (.ref (hp.objs.size + 1)))) s' | .ok _ => False | .error e => E e s')
      ⟨(hp.push (PySem.W.kdv_tup [])).push (excO C hp.objs.size), gs, dw, tk, os⟩) :
    wpAny (model prog w) A (Builtin.«type.__call__» ⟨[.ref C], kw⟩) Q E ⟨hp, gs, dw, tk, os⟩ := by
  repeat (first
    | with_reducible refine wpAny_madeBy_exc hC ?_
    | with_reducible refine wpAny_loadPart_at hC ?_
    | wp_step)
  refine codeAny_call_builtin_code (Code.quiet_builtin _ F.quiet) (chk_newK F hT hC ?_)
  refine run_newK F hT hC ?_
  show wpAny _ _ _ _ _ _
  have kp : ∀ b o, hp.get? b = some o → ((hp.push (PySem.W.kdv_tup [])).push (excO C hp.objs.size)).get? b = some o := fun b o e => Heap.get?_push_of_some _ (Heap.get?_push_of_some _ e)
  have hC2 := kp _ _ hC
  have hat : ((hp.push (PySem.W.kdv_tup [])).push (excO C hp.objs.size)).get? (hp.objs.size + 1) = some (excO C hp.objs.size) := by heap_get
  have cc : (Value.ref C :: bm).contains (.ref C) = true := by simp
  have l1 := hi.keeps kp
  have l2 := (hb (.ref (hp.objs.size + 1))).keeps kp
  unfold isInstance
  repeat (first
    | with_reducible refine wpAny_loadPart_at hat ?_
    | (with_reducible refine wpAny_isSubtype_exc hC2 ?_
       rw [cc])
    | wp_step)
  show wpAny _ _ (typeLookup (.ref C) _) _ _ _
  refine l1.at ?_
  refine wpAny_holding (wpAny_bind (l2.at ?_))
  refine wpAny_bind (wpAny_call (codeAny_mono hq fun r s' z => ?_))
  rcases r with e | (v | _ | _ | _) <;> first
    | exact z
    | exact z.elim
    | skip
  obtain ⟨rfl, z⟩ := z
  first
    | exact wpAny_pure (wpAny_pure z)
    | (wp_walk
       exact z)
theorem call_ownK {fI : Addr} (F : ExcBaseFacts B newId initId mB) (hT : ∀ X : String, bm.contains (.type X) = mB.contains (.type X))
    (hC : hp.get? C = some (excClassObj nm q C N bs bm hdct sn sub ab col dd k0 k1 k2 k3 k5 newId))
    (hi : PySem.W.Looks (model prog w) hp (typeLookup (.ref C) "__init__") (some (.ref fI))) (hb : ∀ self, PySem.W.Looks (model prog w) hp (bindSpecial (.ref fI) self) (.ref fI, [self]))
    (hq : codeAny (model prog w) (A.under (.builtin "type.__call__" ⟨[.ref C], kw⟩)) (.call (.ref fI) ⟨[.ref (hp.objs.size + 1)], kw⟩) (PySem.W.InitBack (hp.objs.size + 1) R)
      ⟨(hp.push (PySem.W.kdv_tup [])).push (excO C hp.objs.size), gs, dw, tk, os⟩) :
    codeAny (model prog w) A (.call (.ref C) ⟨[], kw⟩) R ⟨hp, gs, dw, tk, os⟩ := by
  have t1 := tc_lookup
  have t2 := tc_bind (.ref C)
  have ty : (⟨hp, gs, dw, tk, os⟩ : Shared).TypeIs (.ref C) "type" := ⟨_, hC, rfl⟩
  refine codeAny_of_tree ?_
  show wpAny _ _ (callAny (.ref C) _) _ _ _
  repeat (any_goals (first
    | assumption
    | with_reducible refine wpAny_loadPart_at hC ?_
    | wp_step))
  refine ⟨rfl, ?_⟩
  refine codeAny_call_builtin_at (Code.quiet_builtin _ (by decide +kernel)) entry_typeCall (wpAny_check_type_call_sub hC (run_typeK F hT hC hi hb ?_))
  refine codeAny_mono hq fun r s' z => ?_
  rcases r with e | (v | _ | _ | _) <;> exact z
end
end PD
namespace PD
open PySem PySem.Spec PyProof.Rows L2
def aErr (C : Addr) (code : Str) (g : Option Str) (n m : Nat) : Act := fun vs zs H Q _ => vs.length = n ∧ zs.length = m ∧ ∃ fs, errFs code g (vs ++ zs) = some fs ∧ ∀ a d, H a = none → H d = none → a ≠ d → Q (.ref a) (upd (upd H d (exd d fs)) a (exo a C (some d)))
section
variable {X : Cx} {C f : Addr} {code : Str} {g : Option Str} {fd : FuncData} {W : WX}
def errQ (H1 : Hp) (C b : Addr) (fs : List (Str × V)) : VK := fun v H2 => v = .non ∧ ∃ d, H1 d = none ∧ d ≠ b ∧ ErrAt (upd H1 b (exo b C none)) H2 b d C fs
theorem errQ_eq {H1 H2 : Hp} {C b : Addr} {fs : List (Str × V)} {v : V} (h : errQ H1 C b fs v H2) : v = .non ∧ ∃ d, H1 d = none ∧ b ≠ d ∧ H2 = upd (upd H1 d (exd d fs)) b (exo b C (some d)) := by
  obtain ⟨h1, d, h2, h3, e1, e2, e3⟩ := h
  refine ⟨h1, d, h2, h3.symm, ?_⟩
  funext c
  by_cases hb : c = b
  · subst hb
    rw [e1, upd_same]
  · rw [upd_ne hb]
    by_cases hd : c = d
    · subst hd
      rw [e2, upd_same]
    · rw [upd_ne hd, e3 c hb hd, upd_ne hb]
theorem act_err {n : Nat} (Z : ErrD X.prog X.K X.mg C code g f fd) (iC : PySem.W.findIn X.K (.ref C) "__init__" = some (some (.ref f))) (tI : PySem.W.typeIn X.K (.ref f) = some (.type "function")) (hb : Binds X.K fd (errPs g) []) (hr : L2H.RoomH 1 X.A) :
    ActOk X W C [] (aErr C code g n 0) := by
  intro pins σ H s Q us ws vs zs I r rz ⟨_, lz, fs, hfs, hq⟩
  obtain rfl : zs = [] := List.eq_nil_of_length_eq_zero lz
  obtain rfl : ws = [] := by
    cases rz
    rfl
  rw [List.append_nil] at hfs
  obtain ⟨B, newId, initId, bm, T⟩ := Z.ex
  obtain ⟨nm, N', qn, bs, bm', hdct, sn', sub, ab, col, dd, k0, k1, k2', k3, k5, hC, hT⟩ := PySem.W.excInit_of I.kIn T.i
  obtain ⟨hp, g1, dr, tk, os⟩ := s
  have kk : ∀ b o, hp.get? b = some o → ((hp.push (PySem.W.kdv_tup us)).push (PySem.HandSPX.excO C hp.objs.size)).get? b = some o := fun b o e => Heap.get?_push_of_some _ (Heap.get?_push_of_some _ e)
  have hat : ((hp.push (PySem.W.kdv_tup us)).push (PySem.HandSPX.excO C hp.objs.size)).get? (hp.objs.size + 1) = some (PySem.HandSPX.excO C hp.objs.size) := by heap_get
  have I2 := I.laid (t' := tk) (a := hp.objs.size + 1) (o := exo (hp.objs.size + 1) C none) kk (Nat.le_succ _) (exo_ok hat)
  have r2 : Vals (V.ref (hp.objs.size + 1) :: vs) (Value.ref (hp.objs.size + 1) :: us) := .cons rfl r
  have hlv : vs.length + 1 = (errPs g).length ∧ vs.length ≤ 1 := by
    unfold errPs
    cases g with
    | none =>
      obtain ⟨rfl, _⟩ := errFs_none hfs
      exact ⟨rfl, Nat.zero_le _⟩
    | some g =>
      obtain ⟨v, rfl, _⟩ := errFs_some hfs
      exact ⟨rfl, Nat.le_refl _⟩
  have hlu : us.length = vs.length := (Paired.length r).symm
  have hus : us.length ≤ sizeLine := by
    rw [hlu, sizeLine_eq]
    omega
  have bd := hb ⟨(hp.push (PySem.W.kdv_tup us)).push (PySem.HandSPX.excO C hp.objs.size), g1, dr, tk, os⟩ (Value.ref (hp.objs.size + 1) :: us) I2.kIn (by rw [List.append_nil, List.length_cons, hlu]; exact hlv.1)
  rw [List.append_nil] at bd
  have run := err_run (CX := fun _ _ _ _ _ _ => False) (base := X.base) (w := X.w) (A := X.A.under (.builtin "type.__call__" ⟨.ref C :: us, []⟩)) (outer := X.stack) (E := fun _ _ _ => True) (Q := errQ H C (hp.objs.size + 1) fs) Z (by have := hr.dp; rw [make_depth]; omega) (I2.env0.make C us []) bd r2 ⟨_, vs, fs, rfl, hfs, upd_same, fun d H' hn hne hE => ⟨rfl, d, by rw [upd_ne hne] at hn; exact hn, hne, hE⟩⟩
  refine wpAny_call (PySem.HandSPX.call_own T.b.fb hT hC (PySem.W.looks_findIn I.kIn iC) (fun self => PySem.W.bind_fn I.kIn self tI) hus (codeAny_mono run fun y s' hq' => ?_))
  cases y with
  | error er => exact hq'.elim
  | ok fl =>
    cases fl with
    | ret u =>
      obtain ⟨v, H2, I3, rv, ev⟩ := I2.after hq'
      obtain ⟨rfl, d, hd, hne, rfl⟩ := errQ_eq ev
      exact ⟨rv, V.ref (hp.objs.size + 1), _, I3, rfl, hq _ d (I.hok.fresh (Nat.le_succ _)) hd hne⟩
    | next => exact hq'.elim
    | brk => exact hq'.elim
    | cont => exact hq'.elim
theorem act_errK {gx : Str} (Z : ErrD X.prog X.K X.mg C code (some gx) f fd) (iC : PySem.W.findIn X.K (.ref C) "__init__" = some (some (.ref f))) (tI : PySem.W.typeIn X.K (.ref f) = some (.type "function")) (hb : Bd X.K fd (errPs (some gx)) 1 [gx] [0, 1] []) (hr : L2H.RoomH 1 X.A) :
    ActOk X W C [gx] (aErr C code (some gx) 0 1) := by
  intro pins σ H s Q us ws vs zs I r rz ⟨lv, lz, fs, hfs, hq⟩
  obtain rfl : vs = [] := List.eq_nil_of_length_eq_zero lv
  obtain rfl : us = [] := by
    cases r
    rfl
  rw [List.nil_append] at hfs
  obtain ⟨z, rfl, _⟩ := errFs_some hfs
  obtain ⟨u, rfl⟩ : ∃ u, ws = [u] := by
    cases rz with
    | cons _ t =>
      cases t
      exact ⟨_, rfl⟩
  obtain ⟨B, newId, initId, bm, T⟩ := Z.ex
  obtain ⟨nm, N', qn, bs, bm', hdct, sn', sub, ab, col, dd, k0, k1, k2', k3, k5, hC, hT⟩ := PySem.W.excInit_of I.kIn T.i
  obtain ⟨hp, g1, dr, tk, os⟩ := s
  have kk : ∀ b o, hp.get? b = some o → ((hp.push (PySem.W.kdv_tup [])).push (PySem.HandSPX.excO C hp.objs.size)).get? b = some o := fun b o e => Heap.get?_push_of_some _ (Heap.get?_push_of_some _ e)
  have hat : ((hp.push (PySem.W.kdv_tup [])).push (PySem.HandSPX.excO C hp.objs.size)).get? (hp.objs.size + 1) = some (PySem.HandSPX.excO C hp.objs.size) := by heap_get
  have I2 := I.laid (t' := tk) (a := hp.objs.size + 1) (o := exo (hp.objs.size + 1) C none) kk (Nat.le_succ _) (exo_ok hat)
  have r2 : Vals [V.ref (hp.objs.size + 1), z] [Value.ref (hp.objs.size + 1), u] := .cons rfl rz
  have bd : BindsTo _ fd ⟨[Value.ref (hp.objs.size + 1)], [(gx, u)]⟩ ((errPs (some gx)).zip [Value.ref (hp.objs.size + 1), u]) := hb ⟨(hp.push (PySem.W.kdv_tup [])).push (PySem.HandSPX.excO C hp.objs.size), g1, dr, tk, os⟩ [Value.ref (hp.objs.size + 1)] [u] I2.kIn rfl rfl
  have run := err_run (CX := fun _ _ _ _ _ _ => False) (base := X.base) (w := X.w) (A := X.A.under (.builtin "type.__call__" ⟨[.ref C], [(gx, u)]⟩)) (outer := X.stack) (E := fun _ _ _ => True) (Q := errQ H C (hp.objs.size + 1) fs) Z (by have := hr.dp; rw [make_depth]; omega) (I2.env0.make C [] [(gx, u)]) bd r2 ⟨_, [z], fs, rfl, hfs, upd_same, fun d H' hn hne hE => ⟨rfl, d, by rw [upd_ne hne] at hn; exact hn, hne, hE⟩⟩
  refine wpAny_call (call_ownK T.b.fb hT hC (PySem.W.looks_findIn I.kIn iC) (fun self => PySem.W.bind_fn I.kIn self tI) (codeAny_mono run fun y s' hq' => ?_))
  cases y with
  | error er => exact hq'.elim
  | ok fl =>
    cases fl with
    | ret u =>
      obtain ⟨v, H2, I3, rv, ev⟩ := I2.after hq'
      obtain ⟨rfl, d, hd, hne, rfl⟩ := errQ_eq ev
      exact ⟨rv, V.ref (hp.objs.size + 1), _, I3, rfl, hq _ d (I.hok.fresh (Nat.le_succ _)) hd hne⟩
    | next => exact hq'.elim
    | brk => exact hq'.elim
    | cont => exact hq'.elim
end
end PD
namespace PD
open PySem PySem.Spec PyProof.Rows L2
def waErr (C : Addr) (code : Str) (g : Option Str) (n m : Nat) : WAct := fun _ ds zs kq _ => (ds.length = n ∧ zs.length = m) ∧ ∃ fs, errFsD code g (ds ++ zs) = some fs ∧ kq (.val (.ext (exnX C fs)))
theorem actD_err {K : PySem.W.Frag} {F : Fm} {C : Addr} {code : Str} {g : Option Str} {n m : Nat} : ActD K F (aErr C code g n m) (waErr C code g n m) := fun S ρ σ H ds zs vs us Q E kq kx r rd rz h hk hx => by
  obtain ⟨⟨l1, l2⟩, fd, h1, h2⟩ := h
  obtain ⟨fs, h3, h4⟩ := errFsD_rep (rd.append rz) h1
  refine ⟨rd.1.trans l1, rz.1.trans l2, fs, h3, fun a d ha hd hne => ?_⟩
  have g1 := Go.laid r hd (o := exd d fs)
  have ha' : upd H d (exd d fs) a = none := by
    rw [upd_ne hne]
    exact ha
  have g2 := g1.trans (Go.laid g1.r ha' (o := exo a C (some d)))
  refine hk _ _ (.val (.ext (exnX C fd))) (.ref a) g2 (.ext ⟨d, fs, upd_same, ?_, h4.mono g2.ex⟩) (fun p _ hy => absurd rfl (hy _)) h2
  rw [upd_ne hne.symm, upd_same]
section
variable {X : Cx} {F : Fm} {W : WX} {C f : Addr} {code : Str} {g : Option Str} {fd : FuncData} {n : Nat}
end
def wXg (P : Addr → Prop) (f : Str) (w : WE) : WE := fun ρ kq kx => w ρ (fun d ρ' => ∃ C fs v, d = .ext (exnX C fs) ∧ P C ∧ fs.lookup f = some v ∧ kq v ρ') kx
section
variable {X : Cx} {F : Fm} {W : WX} {e : Expr} {pos p : Pos} {f : Str} {w : WE}
theorem exn_inst {pins : List (Addr × Obj)} {σ : L2.St} {H : Hp} {s : Shared} {a C dx : Addr} {gs : List (Str × V)} (I : Inv X pins σ H s) (h1 : H a = some (exo a C (some dx))) (h2 : H dx = some (exd dx gs)) :
    ∃ (t : Addr) (od : Obj) (mA : Str → Option Value), PySem.W.InstAt s.heap a (exR C t (some dx)) C (some od) ∧ (∀ f, PySem.W.lookIn f od = some (mA f)) ∧ ∀ f, RelO (gs.lookup f) (mA f) := by
  obtain ⟨t, ho⟩ := exo_at I.hok h1
  obtain ⟨mA, hns, hr⟩ := exd_at I.hok h2
  obtain ⟨od, hd, hl⟩ := lookIn_ns hns
  exact ⟨t, od, mA, ⟨ho, rfl, rfl, hd⟩, hl, hr⟩
theorem d_xg {P : Addr → Prop} (hP : ∀ C, P C → XfC X.K C ∧ PySem.W.findIn X.K (.ref C) f = some none) (h : DE X F W e w) (hb : attributeBase e f X.env (eval e X.env) = eval e X.env := by rfl) : DE X F W (.Attribute e f pos) (wXg P f w) := by
  obtain ⟨t, p1, q1⟩ := h.ex
  refine ⟨fun σ H Q => t σ H fun x H1 => ∃ a C dx gs v, x = .ref a ∧ (XfC X.K C ∧ PySem.W.findIn X.K (.ref C) f = some none) ∧ H1 a = some (exo a C (some dx)) ∧ H1 dx = some (exd dx gs) ∧ gs.lookup f = some v ∧ Q v H1, ⟨fun pins s σ H Q I hh => ?_⟩, fun S ρ σ H Q kq kx r hw hk hx => q1 S ρ σ H _ _ kx r hw (fun S1 ρ1 H1 d v g1 rp k1 => ?_) hx⟩
  · refine attr_of hb (thn (p1.run pins s σ H _ I hh) fun u s1 h1 => ?_)
    obtain ⟨x, H1, I1, rx, a, C, dx, gs, v, ex, ⟨T, hno⟩, ea, ed, l, q⟩ := h1
    subst ex
    obtain rfl : u = Value.ref a := rx
    obtain ⟨t1, od, mA, J, hl, hr⟩ := exn_inst I1 ea ed
    obtain ⟨u, hu, ru⟩ := RelO.some_of (v := v) (o := mA f) (by rw [← l]; exact hr f)
    exact HandSPX.exc_get I1.kIn J T.ga T.gg T.exC (PySem.W.findObj_own T.hdC hno rfl (by rw [hl, hu])) (handed_of ru) ⟨v, H1, I1.tok _, ru, q⟩
  · obtain ⟨C, fs, c, rfl, hC, hl, k⟩ := k1
    cases rp with
    | @ext _ a hx2 =>
    obtain ⟨dx, gs, e1, e2, rf⟩ := hx2
    obtain ⟨u, hu, ru⟩ := rf.lookup hl
    exact ⟨a, C, dx, gs, u, rfl, hP C hC, g1.r.fz _ _ e1, g1.r.fz _ _ e2, hu, hk S1 ρ1 H1 c u g1 ru k⟩
structure EsK (K : PySem.W.Frag) (C : Addr) : Prop where
  xf : XfC K C
  cl : (PySem.W.clsIn K C).isSome = true
  ca : PySem.W.findIn K (.ref C) "__class__" = some (some (.builtin "object.__class__"))
  cg : PySem.W.specialIn K (.builtin "object.__class__") "__get__" = some (some (.builtin "getset_descriptor.__get__"))
  ct : PySem.W.takesIn K (.builtin "object.__class__") = some true
  cm : PySem.W.mroIn K C (.type "object") = some true
def rIsx (K : PySem.W.Frag) : List V → Hp → VK → Prop := fun xs H Q => ∃ (a C dx : Addr) (gs : List (Str × V)) (c : V) (u : Value) (b : Bool), xs = [.ref a, c] ∧ ClsV c u ∧ H a = some (exo a C (some dx)) ∧ H dx = some (exd dx gs) ∧ EsK K C ∧ PySem.W.kitOne K (.ref C) u = some b ∧ Q (.bl b) H
theorem call_isx : CallR X (.builtin "isinstance") (rIsx X.K) := by
  intro pins s σ H xs us Q I r h
  obtain ⟨a, C, dx, gs, c, u, b, rfl, k, ea, ed, z, e, q⟩ := h
  obtain ⟨u1, u2, rfl, r1, r2⟩ := r.two
  obtain rfl : u1 = Value.ref a := r1
  have e2 := k.eq r2
  subst e2
  obtain ⟨t1, od, mA, J, hl, hr⟩ := exn_inst I ea ed
  exact PySem.W.kia_one (PySem.W.kitx_exc z.cl z.xf.ga z.xf.gg z.xf.exC z.ca z.cg z.ct z.cm) I.kIn J e (fun z => nomatch z) fun tk => ⟨.bl b, H, I.tok tk, rfl, q⟩
def oIsx (K : PySem.W.Frag) (u : Value) : O1 := fun d k => ∃ C fs b, d = .ext (exnX C fs) ∧ EsK K C ∧ PySem.W.kitOne K (.ref C) u = some b ∧ k (.bl b)
theorem run_isx {K : PySem.W.Frag} {c : V} {u : Value} (hc : ClsV c u) {t : TE} (h : RunE K F W t w) : RunE K F W (tCB (rIsx K) (tCons t (tCons (tC c) tNil))) (w1 (oIsx K u) w) := fun S ρ σ H Q kq kx rr hw hk hx =>
  h S ρ σ H _ _ kx rr hw (fun S1 ρ1 H1 d v g1 p1 k1 => by
    obtain ⟨C, fs, b, rfl, z, e, k1⟩ := k1
    cases p1 with
    | @ext _ a hx2 =>
    obtain ⟨dx, gs, e1, e2, rf⟩ := hx2
    exact ⟨a, C, dx, gs, c, u, b, rfl, hc, g1.r.fz _ _ e1, g1.r.fz _ _ e2, z, e, hk S1 ρ1 H1 _ _ g1 (.bl _) k1⟩) hx
theorem d_isx {x y : Str} {C : Addr} {p2 : Pos} (hm : X.mg x = none) (hm2 : X.mg y = some (.ref C)) (h : DE X F W e w) (hv : bootBuiltins x = some (.builtin "isinstance") := by decide +kernel) (hg : Gl X x := by rfl) (hg2 : Gl X y := by rfl)
    (hn : x ≠ "__name__" := by decide) (hdb : (x == ("__debug__" : Str)) = false := by decide) (hdb2 : (y == ("__debug__" : Str)) = false := by decide)
    (hs : starEach [e, .Name y p2] X.env = (false, eval e X.env) :: starEach [.Name y p2] X.env := by rfl) : DE X F W (.Call (.Name x p) [e, .Name y p2] [] pos) (w1 (oIsx X.K (.ref C)) w) := by
  obtain ⟨t, q1, q⟩ := h.ex
  exact ⟨_, pe_callB call_isx hg hm hv (pa_cons q1 (pa_cons (pe_glob hg2 hm2 (v := .ref C) rfl hdb2) pa_nil rfl) hs) hn hdb hs rfl, run_isx (.own C) q⟩
theorem d_isxB {x y : Str} (T : String) {p2 : Pos} (hm : X.mg x = none) (hm2 : X.mg y = none) (h : DE X F W e w) (hv : bootBuiltins x = some (.builtin "isinstance") := by decide +kernel) (hv2 : bootBuiltins y = some (.type T) := by decide +kernel) (hg : Gl X x := by rfl) (hg2 : Gl X y := by rfl)
    (hn : x ≠ "__name__" := by decide) (hn2 : y ≠ "__name__" := by decide) (hdb : (x == ("__debug__" : Str)) = false := by decide) (hdb2 : (y == ("__debug__" : Str)) = false := by decide)
    (hs : starEach [e, .Name y p2] X.env = (false, eval e X.env) :: starEach [.Name y p2] X.env := by rfl) : DE X F W (.Call (.Name x p) [e, .Name y p2] [] pos) (w1 (oIsx X.K (.type T)) w) := by
  obtain ⟨t, q1, q⟩ := h.ex
  exact ⟨_, pe_callB call_isx hg hm hv (pa_cons q1 (pa_cons (pe_bltn hg2 hm2 hv2 (v := .ty T) rfl hn2 hdb2) pa_nil rfl) hs) hn hdb hs rfl, run_isx (.ty T) q⟩
end
end PD
namespace PF
open PySem PySem.Spec PyProof.Rows L2 PD
def bErr (n m c : Nat) (ks code : List Nat) : List A → List A → T A := fun as bs => if as.length = n ∧ bs.length = m then .ret (.exn c ks (as ++ bs ++ [.str code])) else .bad
@[simp] theorem e_bErr (n m c : Nat) (ks code : List Nat) (as bs : List A) : bErr n m c ks code as bs = if as.length = n ∧ bs.length = m then .ret (.exn c ks (as ++ bs ++ [.str code])) else .bad := rfl
def fXg (L : List Nat) (n : Nat) (f : Env → T A) : Env → T A := fun env => (f env).bind fun x => match x with
  | .exn C ks vs => if L.contains C then T.opt (fldA n ks vs) else .bad
  | _ => .bad
@[simp] theorem e_Xg (L : List Nat) (n : Nat) (f : Env → T A) (env : Env) : fXg L n f env = (f env).bind fun x => match x with | .exn C ks vs => if L.contains C then T.opt (fldA n ks vs) else .bad | _ => .bad := rfl
def gIsx (L : List (Nat × Bool)) : G1
  | .exn C _ _ => (altA L C).map .bl
  | _ => none
structure IsxOk (cm : CM) (K : PySem.W.Frag) (u : Value) (L : List (Nat × Bool)) : Prop where
  at_ : ∀ C b, altA L C = some b → EsK K (cm.cls C) ∧ PySem.W.kitOne K (.ref (cm.cls C)) u = some b
section
variable {cm : CM} {X : Cx} {F : Fm} {W : WX} {O : List Nat} {e : Expr} {f : Env → T A} {p pos : Pos} {g x : Str} {code : List Nat} {a : Addr} {fd : FuncData}
theorem fc_err1 (n gi ci : Nat) (codeS : Str) (hcs : codeS = tx code) (hexn : cm.exn = exnX) (Z : ErrD X.prog X.K X.mg (cm.cls n) codeS (some g) a fd) (iC : PySem.W.findIn X.K (.ref (cm.cls n)) "__init__" = some (some (.ref a))) (tI : PySem.W.typeIn X.K (.ref a) = some (.type "function")) (hb : Binds X.K fd (errPs (some g)) []) (hr : Room 1 X.A)
    (hg : g = cm.fld gi) (hco : ("code" : Str) = cm.fld ci) : FCal cm X F W false (cm.cls n) [] (bErr 1 0 n [gi, ci] code) := by
  subst hcs
  refine ⟨_, act_err (n := 1) Z iC tI hb (L2H.roomH_of hr), ActD_imp actD_err fun ds zs kq kx h => ?_⟩
  obtain ⟨as, bs, rfl, rfl, h⟩ := h
  unfold bErr at h
  split at h
  · rename_i hl
    obtain ⟨v, rfl⟩ := List.length_eq_one_iff.mp hl.1
    obtain rfl := List.length_eq_zero_iff.mp hl.2
    refine ⟨⟨rfl, rfl⟩, [(g, toD cm v), (("code" : Str), .str (tx code))], rfl, ?_⟩
    have h : kq (.val (toD cm (.exn n [gi, ci] [v, .str code]))) := h
    have e : toD cm (.exn n [gi, ci] [v, .str code]) = .ext (exnX (cm.cls n) [(g, toD cm v), (("code" : Str), .str (tx code))]) := by
      rw [hg, hco, ← hexn]
      rfl
    rw [e] at h
    exact h
  · exact h.elim
theorem fc_errK (n gi ci : Nat) (codeS : Str) (hcs : codeS = tx code) (hexn : cm.exn = exnX) (Z : ErrD X.prog X.K X.mg (cm.cls n) codeS (some g) a fd) (iC : PySem.W.findIn X.K (.ref (cm.cls n)) "__init__" = some (some (.ref a))) (tI : PySem.W.typeIn X.K (.ref a) = some (.type "function")) (hb : Bd X.K fd (errPs (some g)) 1 [g] [0, 1] []) (hr : Room 1 X.A)
    (hg : g = cm.fld gi) (hco : ("code" : Str) = cm.fld ci) : FCal cm X F W false (cm.cls n) [g] (bErr 0 1 n [gi, ci] code) := by
  subst hcs
  refine ⟨_, act_errK Z iC tI hb (L2H.roomH_of hr), ActD_imp actD_err fun ds zs kq kx h => ?_⟩
  obtain ⟨as, bs, rfl, rfl, h⟩ := h
  unfold bErr at h
  split at h
  · rename_i hl
    obtain ⟨v, rfl⟩ := List.length_eq_one_iff.mp hl.2
    obtain rfl := List.length_eq_zero_iff.mp hl.1
    refine ⟨⟨rfl, rfl⟩, [(g, toD cm v), (("code" : Str), .str (tx code))], rfl, ?_⟩
    have h : kq (.val (toD cm (.exn n [gi, ci] [v, .str code]))) := h
    have e : toD cm (.exn n [gi, ci] [v, .str code]) = .ext (exnX (cm.cls n) [(g, toD cm v), (("code" : Str), .str (tx code))]) := by
      rw [hg, hco, ← hexn]
      rfl
    rw [e] at h
    exact h
  · exact h.elim
theorem fc_err0 (n ci : Nat) (codeS : Str) (hcs : codeS = tx code) (hexn : cm.exn = exnX) (Z : ErrD X.prog X.K X.mg (cm.cls n) codeS none a fd) (iC : PySem.W.findIn X.K (.ref (cm.cls n)) "__init__" = some (some (.ref a))) (tI : PySem.W.typeIn X.K (.ref a) = some (.type "function")) (hb : Binds X.K fd (errPs none) []) (hr : Room 1 X.A)
    (hco : ("code" : Str) = cm.fld ci) : FCal cm X F W false (cm.cls n) [] (bErr 0 0 n [ci] code) := by
  subst hcs
  refine ⟨_, act_err (n := 0) Z iC tI hb (L2H.roomH_of hr), ActD_imp actD_err fun ds zs kq kx h => ?_⟩
  obtain ⟨as, bs, rfl, rfl, h⟩ := h
  unfold bErr at h
  split at h
  · rename_i hl
    obtain rfl := List.length_eq_zero_iff.mp hl.1
    obtain rfl := List.length_eq_zero_iff.mp hl.2
    refine ⟨⟨rfl, rfl⟩, [(("code" : Str), .str (tx code))], rfl, ?_⟩
    have h : kq (.val (toD cm (.exn n [ci] [.str code]))) := h
    have e : toD cm (.exn n [ci] [.str code]) = .ext (exnX (cm.cls n) [(("code" : Str), .str (tx code))]) := by
      rw [hco, ← hexn]
      rfl
    rw [e] at h
    exact h
  · exact h.elim
theorem fe_xg (L : List Nat) (n : Nat) (hexn : cm.exn = exnX) (h : XfOk cm X.K L x) (hx : x = cm.fld n) (hp : FE cm X F W O e f) (hb : attributeBase e x X.env (eval e X.env) = eval e X.env := by rfl) :
    FE cm X F W O (.Attribute e x pos) (fXg L n f) := DE_imp (d_xg (P := fun C => ∃ Cn ∈ L, C = cm.cls Cn) (fun C hC => by obtain ⟨Cn, h1, rfl⟩ := hC; exact h Cn h1) hp hb) fun ρ kq kx hw => by
  obtain ⟨env, rfl, hw⟩ := hw
  unfold fXg at hw
  rw [T.wp_bind] at hw
  refine ⟨env, rfl, T.wp_mono hw (fun a k => ?_) fun x k => k⟩
  split at k
  · rename_i C ks vs
    split at k
    · rename_i hc
      obtain ⟨c, e, k⟩ := T.wp_opt k
      refine ⟨_, _, toD cm c, by unfold toD; rw [hexn], ⟨C, by simpa using hc, rfl⟩, ?_, k⟩
      rw [hx]
      exact fldA_some e
    · exact k.elim
  · exact k.elim
theorem isx_w {u : Value} {L : List (Nat × Bool)} (hexn : cm.exn = exnX) (h : IsxOk cm X.K u L) {a c : A} {k : D → Prop} (e : gIsx L a = some c) (hk : k (toD cm c)) : oIsx X.K u (toD cm a) k := by
  unfold gIsx at e
  split at e
  · rename_i C ks vs
    obtain ⟨b, e1, rfl⟩ := Option.map_eq_some_iff.mp e
    obtain ⟨h1, h2⟩ := h.at_ C b e1
    exact ⟨_, _, b, by unfold toD; rw [hexn], h1, h2, hk⟩
  · cases e
theorem fe_isx {y : Str} {C : Addr} {p2 : Pos} (L : List (Nat × Bool)) (hexn : cm.exn = exnX) (hi : IsxOk cm X.K (.ref C) L) (hm : X.mg "isinstance" = none) (hm2 : X.mg y = some (.ref C)) (h : FE cm X F W O e f) (hg : Gl X "isinstance" := by rfl) (hg2 : Gl X y := by rfl) (hdb2 : (y == ("__debug__" : Str)) = false := by decide)
    (hs : starEach [e, .Name y p2] X.env = (false, eval e X.env) :: starEach [.Name y p2] X.env := by rfl) : FE cm X F W O (.Call (.Name "isinstance" p) [e, .Name y p2] [] pos) (fG1 (gIsx L) f) := DE_imp (d_isx hm hm2 h (hg := hg) (hg2 := hg2) (hdb2 := hdb2) (hs := hs)) fun ρ kq kx hw => by
  obtain ⟨env, rfl, hw⟩ := hw
  unfold fG1 at hw
  rw [T.wp_bind] at hw
  refine ⟨env, rfl, T.wp_mono hw (fun x k => ?_) fun _ k => k⟩
  obtain ⟨c, e, k⟩ := T.wp_opt k
  exact isx_w hexn hi e k
theorem fe_isxB {y : Str} (t : String) {p2 : Pos} (L : List (Nat × Bool)) (hexn : cm.exn = exnX) (hi : IsxOk cm X.K (.type t) L) (hm : X.mg "isinstance" = none) (hm2 : X.mg y = none) (h : FE cm X F W O e f) (hv2 : bootBuiltins y = some (.type t) := by decide +kernel) (hg : Gl X "isinstance" := by rfl) (hg2 : Gl X y := by rfl) (hn2 : y ≠ "__name__" := by decide) (hdb2 : (y == ("__debug__" : Str)) = false := by decide)
    (hs : starEach [e, .Name y p2] X.env = (false, eval e X.env) :: starEach [.Name y p2] X.env := by rfl) : FE cm X F W O (.Call (.Name "isinstance" p) [e, .Name y p2] [] pos) (fG1 (gIsx L) f) := DE_imp (d_isxB t hm hm2 h (hv2 := hv2) (hg := hg) (hg2 := hg2) (hn2 := hn2) (hdb2 := hdb2) (hs := hs)) fun ρ kq kx hw => by
  obtain ⟨env, rfl, hw⟩ := hw
  unfold fG1 at hw
  rw [T.wp_bind] at hw
  refine ⟨env, rfl, T.wp_mono hw (fun x k => ?_) fun _ k => k⟩
  obtain ⟨c, e, k⟩ := T.wp_opt k
  exact isx_w hexn hi e k
end
theorem esB_ok {K : PySem.W.Frag} {C : Addr} (h : HP.esB K C = true) : EsK K C := by
  unfold HP.esB at h
  obtain ⟨h1, h⟩ := HP.ba h
  obtain ⟨h2, h⟩ := HP.ba h
  obtain ⟨h3, h⟩ := HP.ba h
  obtain ⟨h4, h⟩ := HP.ba h
  obtain ⟨h5, h⟩ := HP.ba h
  obtain ⟨h6, h⟩ := HP.ba h
  obtain ⟨h7, h⟩ := HP.ba h
  obtain ⟨h8, h9⟩ := HP.ba h
  exact ⟨⟨HP.eqO_ok h1, HP.eqO_ok h2, HP.eqB_ok h3, h4⟩, h5, HP.eqO_ok h6, HP.eqO_ok h7, HP.eqB_ok h8, HP.eqB_ok h9⟩
theorem altA_in {β : Type} {C : Nat} {b : β} : ∀ {L : List (Nat × β)}, altA L C = some b → (C, b) ∈ L
  | [], h => by cases h
  | (D, c) :: L, h => by
    unfold altA at h
    split at h
    · rename_i e
      cases h
      rw [e]
      exact List.mem_cons_self
    · exact List.mem_cons_of_mem _ (altA_in h)
theorem isxOk_of {cm : CM} {K : PySem.W.Frag} {u : Value} (cs : List Nat) (L : List (Nat × Bool)) (he : HP.esL K (cs.map cm.cls) = true) (hk : HP.kiL K u (L.map fun p => (cm.cls p.1, p.2)) = true) (hL : (L.all fun p => cs.contains p.1) = true := by decide) : IsxOk cm K u L := ⟨fun C b h => by
  have hm := altA_in h
  refine ⟨esB_ok ?_, HP.eqB_ok ?_⟩
  · have hc : C ∈ cs := by
      have := List.all_eq_true.mp hL (C, b) hm
      simpa using this
    exact List.all_eq_true.mp he (cm.cls C) (List.mem_map.mpr ⟨C, hc, rfl⟩)
  · exact List.all_eq_true.mp hk (cm.cls C, b) (List.mem_map.mpr ⟨(C, b), hm, rfl⟩)⟩
theorem bdK_of {K : PySem.W.Frag} {fd : FuncData} {gx : Str} (h : ∀ x u : Value, bindArgs fd ⟨[x], [(gx, u)]⟩ = pure [(("self" : Str), x), (gx, u)]) : Bd K fd (errPs (some gx)) 1 [gx] [0, 1] [] := fun s xs ws _ h1 h2 => by
  obtain ⟨x, rfl⟩ := List.length_eq_one_iff.mp h1
  obtain ⟨u, rfl⟩ := List.length_eq_one_iff.mp h2
  exact .of_eq (h x u)
@[simp] theorem e_gIsx (L : List (Nat × Bool)) (C : Nat) (ks : List Nat) (vs : List A) : gIsx L (.exn C ks vs) = (altA L C).map .bl := rfl
end PF
namespace PL
open PySem PySem.Spec PyProof.Rows L2 PD PF
def names : List (List Nat) := [[99, 111, 100, 101], [103, 105, 118, 101, 110], [97, 116], [108, 105, 110, 101], [109, 111, 115, 116], [108, 105, 109, 105, 116], [110, 97, 109, 101], [114, 111, 119], [111, 119, 110, 95, 108, 105, 115, 116, 95, 110, 97, 109, 101, 115], [111, 119, 110, 95, 98, 111, 111, 107, 115], [111, 119, 110, 95, 108, 105, 115, 116, 115], [111, 119, 110, 95, 119, 105, 100, 116, 104, 115], [111, 119, 110, 95, 115, 99, 104, 101, 109, 101], [111, 119, 110, 95, 114, 111, 119, 115], [111, 119, 110, 95, 108, 111, 111, 115, 101], [111, 119, 110, 95, 100, 111, 109, 97, 105, 110], [111, 119, 110, 95, 103, 114, 111, 117, 112, 115], [111, 119, 110, 95, 112, 108, 97, 99, 101, 115], [111, 119, 110, 95, 115, 116, 97, 110, 100, 105, 110, 103], [111, 119, 110, 95, 97, 116, 111, 109, 115], [111, 119, 110, 95, 110, 97, 109, 101], [111, 119, 110, 95, 118, 97, 114, 105, 97, 98, 108, 101, 115], [111, 119, 110, 95, 118, 97, 114, 105, 97, 98, 108, 101], [111, 119, 110, 95, 112, 97, 114, 116, 115], [111, 119, 110, 95, 102, 111, 114, 109, 117, 108, 97], [111, 119, 110, 95, 99, 111, 108, 117, 109, 110, 115], [111, 119, 110, 95, 116, 111, 108, 100], [101, 110, 116, 114, 105, 101, 115], [115, 116, 111, 99, 107], [111, 119, 110, 95, 100, 111, 110, 101], [109, 97, 110, 121], [114, 105, 103, 104, 116], [105, 109, 97, 103, 101, 115], [115, 104, 111, 119, 110, 95, 114, 111, 119, 115], [115, 104, 111, 119, 110, 95, 115, 116, 111, 99, 107], [111, 119, 110, 95, 102, 105, 108, 108, 105, 110, 103], [111, 119, 110, 95, 98, 97, 114], [111, 119, 110, 95, 113, 117, 101, 115, 116, 105, 111, 110], [111, 119, 110, 95, 98, 101, 102, 111, 114, 101], [111, 119, 110, 95, 98, 101, 104, 105, 110, 100], [111, 119, 110, 95, 109, 101, 97, 110, 105, 110, 103], [111, 119, 110, 95, 97, 110, 115, 119, 101, 114], [111, 119, 110, 95, 116, 97, 98, 108, 101], [111, 119, 110, 95, 111, 116, 104, 101, 114], [111, 119, 110, 95, 97, 110, 115, 119, 101, 114, 115], [111, 119, 110, 95, 112, 97, 105, 114, 115], [111, 119, 110, 95, 112, 97, 112, 101, 114, 115], [111, 119, 110, 95, 101, 109, 112, 116, 121], [111, 119, 110, 95, 121, 101, 115], [111, 119, 110, 95, 110, 111], [111, 119, 110, 95, 113, 117, 101, 115, 116, 105, 111, 110, 115], [111, 119, 110, 95, 108, 105, 109, 105, 116], [111, 119, 110, 95, 112, 97, 115, 116], [111, 119, 110, 95, 108, 97, 116, 101, 114], [111, 119, 110, 95, 107, 101, 112, 116], [111, 119, 110, 95, 99, 111, 109, 112, 117, 116, 101, 100], [111, 119, 110, 95, 98, 117, 115, 121], [111, 119, 110, 95, 98, 101, 110, 99, 104], [111, 119, 110, 95, 108, 111, 103]]
theorem names_nd : names.Nodup := by decide +kernel
theorem names_two : (names.all fun l => decide (2 ≤ l.length)) = true := by decide +kernel
theorem fld_code {cm : CM} (hc : cm.fld = mkFld names) : ("code" : Str) = cm.fld 0 := fld_of (l := [99, 111, 100, 101]) hc (by decide +kernel) rfl
theorem fld_given {cm : CM} (hc : cm.fld = mkFld names) : ("given" : Str) = cm.fld 1 := fld_of (l := [103, 105, 118, 101, 110]) hc (by decide +kernel) rfl
theorem fld_at {cm : CM} (hc : cm.fld = mkFld names) : ("at" : Str) = cm.fld 2 := fld_of (l := [97, 116]) hc (by decide +kernel) rfl
theorem fld_line {cm : CM} (hc : cm.fld = mkFld names) : ("line" : Str) = cm.fld 3 := fld_of (l := [108, 105, 110, 101]) hc (by decide +kernel) rfl
theorem fld_most {cm : CM} (hc : cm.fld = mkFld names) : ("most" : Str) = cm.fld 4 := fld_of (l := [109, 111, 115, 116]) hc (by decide +kernel) rfl
theorem fld_limit {cm : CM} (hc : cm.fld = mkFld names) : ("limit" : Str) = cm.fld 5 := fld_of (l := [108, 105, 109, 105, 116]) hc (by decide +kernel) rfl
theorem fld_name {cm : CM} (hc : cm.fld = mkFld names) : ("name" : Str) = cm.fld 6 := fld_of (l := [110, 97, 109, 101]) hc (by decide +kernel) rfl
theorem fld_row {cm : CM} (hc : cm.fld = mkFld names) : ("row" : Str) = cm.fld 7 := fld_of (l := [114, 111, 119]) hc (by decide +kernel) rfl
end PL
namespace PL
open PySem PySem.Spec PyProof.Rows L2 PD PF
def b__law_of : PF.Env → T Ct :=
    fSeq (fRet (fOp gIx (fPair (fVar 1) (fAct (bFix 2 0 [0, 1] [] fDraw) (fCons (fVar 0) (fCons (fG1 gLen (fVar 1)) (fNil))) (fNil)))))
    (fNext)
def f__law_of : List A → T A := fdef 2 b__law_of
def b__law_errors : PF.Env → T Ct :=
    fSeq (fAsg 1 (fVal (fLst (fCons (fAct (bErr 1 0 2 [1, 0] [73, 110, 118, 97, 108, 105, 100, 78, 97, 109, 101]) (fCons (fVar 0) (fNil)) (fNil)) (fCons (fAct (bErr 1 0 3 [2, 0] [73, 110, 118, 97, 108, 105, 100, 83, 99, 104, 101, 109, 101]) (fCons (fVar 0) (fNil)) (fNil)) (fCons (fAct (bErr 1 0 4 [2, 0] [73, 110, 118, 97, 108, 105, 100, 82, 111, 119]) (fCons (fVar 0) (fNil)) (fNil)) (fCons (fAct (bErr 1 0 5 [2, 0] [73, 110, 118, 97, 108, 105, 100, 76, 111, 111, 115, 101]) (fCons (fVar 0) (fNil)) (fNil)) (fCons (fAct (bErr 1 0 6 [1, 0] [73, 110, 118, 97, 108, 105, 100, 86, 97, 114, 105, 97, 98, 108, 101, 115]) (fCons (fVar 0) (fNil)) (fNil)) (fCons (fAct (bErr 1 0 7 [2, 0] [73, 110, 118, 97, 108, 105, 100, 80, 97, 114, 116]) (fCons (fVar 0) (fNil)) (fNil)) (fNil))))))))))
    (fSeq (fAsg 1 (fVal (fOpL gCat (fPair (fVar 1) (fVal (fLst (fCons (fAct (bErr 1 0 8 [1, 0] [73, 110, 118, 97, 108, 105, 100, 70, 111, 114, 109, 117, 108, 97]) (fCons (fVar 0) (fNil)) (fNil)) (fCons (fAct (bErr 1 0 9 [1, 0] [73, 110, 118, 97, 108, 105, 100, 67, 111, 108, 117, 109, 110, 115]) (fCons (fVar 0) (fNil)) (fNil)) (fCons (fAct (bErr 1 0 10 [1, 0] [73, 110, 118, 97, 108, 105, 100, 65, 110, 115, 119, 101, 114]) (fCons (fVar 0) (fNil)) (fNil)) (fCons (fAct (bErr 1 0 11 [1, 0] [73, 110, 118, 97, 108, 105, 100, 84, 114, 117, 116, 104, 115]) (fCons (fVar 0) (fNil)) (fNil)) (fCons (fAct (bErr 1 0 12 [1, 0] [73, 110, 118, 97, 108, 105, 100, 70, 105, 108, 108, 105, 110, 103]) (fCons (fVar 0) (fNil)) (fNil)) (fNil))))))))))))
    (fSeq (fAsg 1 (fVal (fOpL gCat (fPair (fVar 1) (fVal (fLst (fCons (fAct (bErr 1 0 13 [1, 0] [73, 110, 118, 97, 108, 105, 100, 77, 101, 97, 110, 105, 110, 103]) (fCons (fVar 0) (fNil)) (fNil)) (fCons (fAct (bErr 1 0 14 [2, 0] [73, 110, 118, 97, 108, 105, 100, 84, 101, 120, 116]) (fCons (fVar 0) (fNil)) (fNil)) (fCons (fAct (bErr 1 0 15 [2, 0] [73, 110, 118, 97, 108, 105, 100, 67, 111, 109, 109, 97, 110, 100]) (fCons (fVar 0) (fNil)) (fNil)) (fCons (fAct (bErr 1 0 16 [1, 0] [73, 110, 118, 97, 108, 105, 100, 76, 105, 109, 105, 116]) (fCons (fVar 0) (fNil)) (fNil)) (fCons (fAct (bErr 1 0 17 [3, 0] [73, 110, 118, 97, 108, 105, 100, 80, 97, 103, 101]) (fCons (fVar 0) (fNil)) (fNil)) (fCons (fAct (bErr 0 0 18 [0] [79, 116, 104, 101, 114, 83, 99, 104, 101, 109, 101]) (fNil) (fNil)) (fNil)))))))))))))
    (fSeq (fAsg 1 (fVal (fOpL gCat (fPair (fVar 1) (fVal (fLst (fCons (fAct (bErr 0 0 19 [0] [79, 116, 104, 101, 114, 67, 111, 108, 117, 109, 110, 115]) (fNil) (fNil)) (fCons (fAct (bErr 0 0 20 [0] [72, 97, 115, 67, 111, 108, 117, 109, 110, 115]) (fNil) (fNil)) (fCons (fAct (bErr 0 0 21 [0] [78, 111, 116, 83, 97, 102, 101]) (fNil) (fNil)) (fCons (fAct (bErr 1 0 22 [4, 0] [84, 111, 111, 77, 97, 110, 121]) (fCons (fVar 0) (fNil)) (fNil)) (fCons (fAct (bErr 1 0 23 [5, 0] [70, 117, 108, 108]) (fCons (fVar 0) (fNil)) (fNil)) (fCons (fAct (bErr 1 0 24 [6, 0] [85, 110, 107, 110, 111, 119, 110, 78, 97, 109, 101]) (fCons (fVar 0) (fNil)) (fNil)) (fCons (fAct (bErr 1 0 25 [7, 0] [85, 110, 107, 110, 111, 119, 110, 82, 111, 119]) (fCons (fVar 0) (fNil)) (fNil)) (fNil))))))))))))))
    (fSeq (fRet (fVal (fOpL gCat (fPair (fVar 1) (fVal (fLst (fCons (fAct (bErr 1 0 26 [1, 0] [85, 110, 107, 110, 111, 119, 110, 86, 97, 108, 117, 101]) (fCons (fVar 0) (fNil)) (fNil)) (fCons (fAct (bErr 0 0 27 [0] [78, 111, 116, 104, 105, 110, 103, 76, 101, 102, 116]) (fNil) (fNil)) (fNil)))))))))
    (fNext)))))
def f__law_errors : List A → T A := fdef 2 b__law_errors
def b__law_codes : PF.Env → T Ct :=
    fSeq (fAsg 0 (fVal (fLst (fCons (fC (.str [73, 110, 118, 97, 108, 105, 100, 78, 97, 109, 101])) (fCons (fC (.str [73, 110, 118, 97, 108, 105, 100, 83, 99, 104, 101, 109, 101])) (fCons (fC (.str [73, 110, 118, 97, 108, 105, 100, 82, 111, 119])) (fCons (fC (.str [73, 110, 118, 97, 108, 105, 100, 76, 111, 111, 115, 101])) (fCons (fC (.str [73, 110, 118, 97, 108, 105, 100, 86, 97, 114, 105, 97, 98, 108, 101, 115])) (fCons (fC (.str [73, 110, 118, 97, 108, 105, 100, 80, 97, 114, 116])) (fNil))))))))))
    (fSeq (fAsg 0 (fVal (fOpL gCat (fPair (fVar 0) (fVal (fLst (fCons (fC (.str [73, 110, 118, 97, 108, 105, 100, 70, 111, 114, 109, 117, 108, 97])) (fCons (fC (.str [73, 110, 118, 97, 108, 105, 100, 67, 111, 108, 117, 109, 110, 115])) (fCons (fC (.str [73, 110, 118, 97, 108, 105, 100, 65, 110, 115, 119, 101, 114])) (fCons (fC (.str [73, 110, 118, 97, 108, 105, 100, 84, 114, 117, 116, 104, 115])) (fCons (fC (.str [73, 110, 118, 97, 108, 105, 100, 70, 105, 108, 108, 105, 110, 103])) (fCons (fC (.str [73, 110, 118, 97, 108, 105, 100, 77, 101, 97, 110, 105, 110, 103])) (fNil)))))))))))))
    (fSeq (fAsg 0 (fVal (fOpL gCat (fPair (fVar 0) (fVal (fLst (fCons (fC (.str [73, 110, 118, 97, 108, 105, 100, 84, 101, 120, 116])) (fCons (fC (.str [73, 110, 118, 97, 108, 105, 100, 67, 111, 109, 109, 97, 110, 100])) (fCons (fC (.str [73, 110, 118, 97, 108, 105, 100, 76, 105, 109, 105, 116])) (fCons (fC (.str [73, 110, 118, 97, 108, 105, 100, 80, 97, 103, 101])) (fCons (fC (.str [79, 116, 104, 101, 114, 83, 99, 104, 101, 109, 101])) (fCons (fC (.str [79, 116, 104, 101, 114, 67, 111, 108, 117, 109, 110, 115])) (fNil)))))))))))))
    (fSeq (fAsg 0 (fVal (fOpL gCat (fPair (fVar 0) (fVal (fLst (fCons (fC (.str [72, 97, 115, 67, 111, 108, 117, 109, 110, 115])) (fCons (fC (.str [78, 111, 116, 83, 97, 102, 101])) (fCons (fC (.str [84, 111, 111, 77, 97, 110, 121])) (fCons (fC (.str [70, 117, 108, 108])) (fCons (fC (.str [85, 110, 107, 110, 111, 119, 110, 78, 97, 109, 101])) (fCons (fC (.str [85, 110, 107, 110, 111, 119, 110, 82, 111, 119])) (fCons (fC (.str [85, 110, 107, 110, 111, 119, 110, 86, 97, 108, 117, 101])) (fNil))))))))))))))
    (fSeq (fRet (fVal (fOpL gCat (fPair (fVar 0) (fVal (fLst (fCons (fC (.str [78, 111, 116, 104, 105, 110, 103, 76, 101, 102, 116])) (fNil))))))))
    (fNext)))))
def f__law_codes : List A → T A := fdef 1 b__law_codes
def b__law_same (self : List A → T A) : PF.Env → T Ct :=
    fSeq (fIfS (fTst (fG1 (gIsi fun a => isList a || isTuple a) (fVar 1))) (fSeq (fIfS (fOr (fTst (fOp gNe (fPair (fG1 (gIsi isList) (fVar 0)) (fG1 (gIsi isList) (fVar 1))))) (fTst (fOp gNe (fPair (fG1 (gIsi isTuple) (fVar 0)) (fG1 (gIsi isTuple) (fVar 1)))))) (fSeq (fRet (fC (.bl false)))
    (fNext)) (fNext))
    (fSeq (fRet (fAndV (fOp gEq (fPair (fG1 gLen (fVar 0)) (fG1 gLen (fVar 1)))) (fG1 gAll (fVal (fLc (fZip (fVar 0) (fVar 1)) (tTup 2 (tConss (tName 2) (tConss (tName 3) (tNils)))) (fYes) (fAct (bFix 2 0 [0, 1] [] self) (fCons (fVar 2) (fCons (fVar 3) (fNil))) (fNil)) [2, 3])))))
    (fNext))) (fNext))
    (fSeq (fIfS (fOr (fTst (fOp (gIsN false) (fPair (fVar 1) (fC .non)))) (fTst (fOp (gIsN false) (fPair (fVar 0) (fC .non))))) (fSeq (fRet (fAndV (fOp (gIsN false) (fPair (fVar 1) (fC .non))) (fOp (gIsN false) (fPair (fVar 0) (fC .non)))))
    (fNext)) (fNext))
    (fSeq (fIfS (fOr (fTst (fOp gNe (fPair (fG1 (gIsi isBool) (fVar 0)) (fG1 (gIsi isBool) (fVar 1))))) (fTst (fOp gNe (fPair (fG1 (gIsi isInt) (fVar 0)) (fG1 (gIsi isInt) (fVar 1)))))) (fSeq (fRet (fC (.bl false)))
    (fNext)) (fNext))
    (fSeq (fRet (fAndV (fOp gEq (fPair (fG1 (gIsi isStr) (fVar 0)) (fG1 (gIsi isStr) (fVar 1)))) (fOp gEq (fPair (fVar 0) (fVar 1)))))
    (fNext))))
def f__law_same : Nat → List A → T A
  | 0 => fun _ => .bad
  | n + 1 => fdef 4 (b__law_same (f__law_same n))
def b__law_field : PF.Env → T Ct :=
    fSeq (fIfS (fTst (fOp gIn (fPair (fXg [2, 3, 4, 5, 6, 7, 8, 9, 10, 11, 12, 13, 14, 15, 16, 17, 18, 19, 20, 21, 22, 23, 24, 25, 26, 27] 0 (fVar 0)) (fTup (fCons (fC (.str [73, 110, 118, 97, 108, 105, 100, 83, 99, 104, 101, 109, 101])) (fCons (fC (.str [73, 110, 118, 97, 108, 105, 100, 82, 111, 119])) (fCons (fC (.str [73, 110, 118, 97, 108, 105, 100, 76, 111, 111, 115, 101])) (fCons (fC (.str [73, 110, 118, 97, 108, 105, 100, 80, 97, 114, 116])) (fCons (fC (.str [73, 110, 118, 97, 108, 105, 100, 84, 101, 120, 116])) (fCons (fC (.str [73, 110, 118, 97, 108, 105, 100, 67, 111, 109, 109, 97, 110, 100])) (fNil))))))))))) (fSeq (fRet (fXg [3, 4, 5, 7, 14, 15] 2 (fVar 0)))
    (fNext)) (fNext))
    (fSeq (fIfS (fTst (fOp gIn (fPair (fXg [2, 3, 4, 5, 6, 7, 8, 9, 10, 11, 12, 13, 14, 15, 16, 17, 18, 19, 20, 21, 22, 23, 24, 25, 26, 27] 0 (fVar 0)) (fTup (fCons (fC (.str [79, 116, 104, 101, 114, 83, 99, 104, 101, 109, 101])) (fCons (fC (.str [79, 116, 104, 101, 114, 67, 111, 108, 117, 109, 110, 115])) (fCons (fC (.str [72, 97, 115, 67, 111, 108, 117, 109, 110, 115])) (fCons (fC (.str [78, 111, 116, 83, 97, 102, 101])) (fCons (fC (.str [78, 111, 116, 104, 105, 110, 103, 76, 101, 102, 116])) (fNil)))))))))) (fSeq (fRet (fC .non))
    (fNext)) (fNext))
    (fSeq (fIfS (fTst (fOp gIn (fPair (fXg [2, 3, 4, 5, 6, 7, 8, 9, 10, 11, 12, 13, 14, 15, 16, 17, 18, 19, 20, 21, 22, 23, 24, 25, 26, 27] 0 (fVar 0)) (fTup (fCons (fC (.str [84, 111, 111, 77, 97, 110, 121])) (fCons (fC (.str [70, 117, 108, 108])) (fNil))))))) (fSeq (fRet (fIf (fTst (fOp gEq (fPair (fXg [2, 3, 4, 5, 6, 7, 8, 9, 10, 11, 12, 13, 14, 15, 16, 17, 18, 19, 20, 21, 22, 23, 24, 25, 26, 27] 0 (fVar 0)) (fC (.str [84, 111, 111, 77, 97, 110, 121]))))) (fXg [22] 4 (fVar 0)) (fXg [23] 5 (fVar 0))))
    (fNext)) (fNext))
    (fSeq (fIfS (fTst (fOp gIn (fPair (fXg [2, 3, 4, 5, 6, 7, 8, 9, 10, 11, 12, 13, 14, 15, 16, 17, 18, 19, 20, 21, 22, 23, 24, 25, 26, 27] 0 (fVar 0)) (fTup (fCons (fC (.str [85, 110, 107, 110, 111, 119, 110, 78, 97, 109, 101])) (fCons (fC (.str [85, 110, 107, 110, 111, 119, 110, 82, 111, 119])) (fNil))))))) (fSeq (fRet (fIf (fTst (fOp gEq (fPair (fXg [2, 3, 4, 5, 6, 7, 8, 9, 10, 11, 12, 13, 14, 15, 16, 17, 18, 19, 20, 21, 22, 23, 24, 25, 26, 27] 0 (fVar 0)) (fC (.str [85, 110, 107, 110, 111, 119, 110, 78, 97, 109, 101]))))) (fXg [24] 6 (fVar 0)) (fXg [25] 7 (fVar 0))))
    (fNext)) (fNext))
    (fSeq (fRet (fIf (fTst (fOp gEq (fPair (fXg [2, 3, 4, 5, 6, 7, 8, 9, 10, 11, 12, 13, 14, 15, 16, 17, 18, 19, 20, 21, 22, 23, 24, 25, 26, 27] 0 (fVar 0)) (fC (.str [73, 110, 118, 97, 108, 105, 100, 80, 97, 103, 101]))))) (fXg [17] 3 (fVar 0)) (fXg [2, 6, 8, 9, 10, 11, 12, 13, 16, 26] 1 (fVar 0))))
    (fNext)))))
def f__law_field : List A → T A := fdef 1 b__law_field
def b__law_classes : PF.Env → T Ct :=
    fSeq (fAsg 1 (fVal (fLst (fCons (fG1 (gIsx [(2, true), (3, false), (4, false), (5, false), (6, false), (7, false), (8, false), (9, false), (10, false), (11, false), (12, false), (13, false), (14, false), (15, false), (16, false), (17, false), (18, false), (19, false), (20, false), (21, false), (22, false), (23, false), (24, false), (25, false), (26, false), (27, false)]) (fVar 0)) (fCons (fG1 (gIsx [(2, false), (3, true), (4, false), (5, false), (6, false), (7, false), (8, false), (9, false), (10, false), (11, false), (12, false), (13, false), (14, false), (15, false), (16, false), (17, false), (18, false), (19, false), (20, false), (21, false), (22, false), (23, false), (24, false), (25, false), (26, false), (27, false)]) (fVar 0)) (fCons (fG1 (gIsx [(2, false), (3, false), (4, true), (5, false), (6, false), (7, false), (8, false), (9, false), (10, false), (11, false), (12, false), (13, false), (14, false), (15, false), (16, false), (17, false), (18, false), (19, false), (20, false), (21, false), (22, false), (23, false), (24, false), (25, false), (26, false), (27, false)]) (fVar 0)) (fNil)))))))
    (fSeq (fAsg 1 (fVal (fOpL gCat (fPair (fVar 1) (fVal (fLst (fCons (fG1 (gIsx [(2, false), (3, false), (4, false), (5, true), (6, false), (7, false), (8, false), (9, false), (10, false), (11, false), (12, false), (13, false), (14, false), (15, false), (16, false), (17, false), (18, false), (19, false), (20, false), (21, false), (22, false), (23, false), (24, false), (25, false), (26, false), (27, false)]) (fVar 0)) (fCons (fG1 (gIsx [(2, false), (3, false), (4, false), (5, false), (6, true), (7, false), (8, false), (9, false), (10, false), (11, false), (12, false), (13, false), (14, false), (15, false), (16, false), (17, false), (18, false), (19, false), (20, false), (21, false), (22, false), (23, false), (24, false), (25, false), (26, false), (27, false)]) (fVar 0)) (fCons (fG1 (gIsx [(2, false), (3, false), (4, false), (5, false), (6, false), (7, true), (8, false), (9, false), (10, false), (11, false), (12, false), (13, false), (14, false), (15, false), (16, false), (17, false), (18, false), (19, false), (20, false), (21, false), (22, false), (23, false), (24, false), (25, false), (26, false), (27, false)]) (fVar 0)) (fNil))))))))))
    (fSeq (fAsg 1 (fVal (fOpL gCat (fPair (fVar 1) (fVal (fLst (fCons (fG1 (gIsx [(2, false), (3, false), (4, false), (5, false), (6, false), (7, false), (8, true), (9, false), (10, false), (11, false), (12, false), (13, false), (14, false), (15, false), (16, false), (17, false), (18, false), (19, false), (20, false), (21, false), (22, false), (23, false), (24, false), (25, false), (26, false), (27, false)]) (fVar 0)) (fCons (fG1 (gIsx [(2, false), (3, false), (4, false), (5, false), (6, false), (7, false), (8, false), (9, true), (10, false), (11, false), (12, false), (13, false), (14, false), (15, false), (16, false), (17, false), (18, false), (19, false), (20, false), (21, false), (22, false), (23, false), (24, false), (25, false), (26, false), (27, false)]) (fVar 0)) (fCons (fG1 (gIsx [(2, false), (3, false), (4, false), (5, false), (6, false), (7, false), (8, false), (9, false), (10, true), (11, false), (12, false), (13, false), (14, false), (15, false), (16, false), (17, false), (18, false), (19, false), (20, false), (21, false), (22, false), (23, false), (24, false), (25, false), (26, false), (27, false)]) (fVar 0)) (fNil))))))))))
    (fSeq (fAsg 1 (fVal (fOpL gCat (fPair (fVar 1) (fVal (fLst (fCons (fG1 (gIsx [(2, false), (3, false), (4, false), (5, false), (6, false), (7, false), (8, false), (9, false), (10, false), (11, true), (12, false), (13, false), (14, false), (15, false), (16, false), (17, false), (18, false), (19, false), (20, false), (21, false), (22, false), (23, false), (24, false), (25, false), (26, false), (27, false)]) (fVar 0)) (fCons (fG1 (gIsx [(2, false), (3, false), (4, false), (5, false), (6, false), (7, false), (8, false), (9, false), (10, false), (11, false), (12, true), (13, false), (14, false), (15, false), (16, false), (17, false), (18, false), (19, false), (20, false), (21, false), (22, false), (23, false), (24, false), (25, false), (26, false), (27, false)]) (fVar 0)) (fCons (fG1 (gIsx [(2, false), (3, false), (4, false), (5, false), (6, false), (7, false), (8, false), (9, false), (10, false), (11, false), (12, false), (13, true), (14, false), (15, false), (16, false), (17, false), (18, false), (19, false), (20, false), (21, false), (22, false), (23, false), (24, false), (25, false), (26, false), (27, false)]) (fVar 0)) (fNil))))))))))
    (fSeq (fAsg 1 (fVal (fOpL gCat (fPair (fVar 1) (fVal (fLst (fCons (fG1 (gIsx [(2, false), (3, false), (4, false), (5, false), (6, false), (7, false), (8, false), (9, false), (10, false), (11, false), (12, false), (13, false), (14, true), (15, false), (16, false), (17, false), (18, false), (19, false), (20, false), (21, false), (22, false), (23, false), (24, false), (25, false), (26, false), (27, false)]) (fVar 0)) (fCons (fG1 (gIsx [(2, false), (3, false), (4, false), (5, false), (6, false), (7, false), (8, false), (9, false), (10, false), (11, false), (12, false), (13, false), (14, false), (15, true), (16, false), (17, false), (18, false), (19, false), (20, false), (21, false), (22, false), (23, false), (24, false), (25, false), (26, false), (27, false)]) (fVar 0)) (fCons (fG1 (gIsx [(2, false), (3, false), (4, false), (5, false), (6, false), (7, false), (8, false), (9, false), (10, false), (11, false), (12, false), (13, false), (14, false), (15, false), (16, true), (17, false), (18, false), (19, false), (20, false), (21, false), (22, false), (23, false), (24, false), (25, false), (26, false), (27, false)]) (fVar 0)) (fNil))))))))))
    (fSeq (fAsg 1 (fVal (fOpL gCat (fPair (fVar 1) (fVal (fLst (fCons (fG1 (gIsx [(2, false), (3, false), (4, false), (5, false), (6, false), (7, false), (8, false), (9, false), (10, false), (11, false), (12, false), (13, false), (14, false), (15, false), (16, false), (17, true), (18, false), (19, false), (20, false), (21, false), (22, false), (23, false), (24, false), (25, false), (26, false), (27, false)]) (fVar 0)) (fCons (fG1 (gIsx [(2, false), (3, false), (4, false), (5, false), (6, false), (7, false), (8, false), (9, false), (10, false), (11, false), (12, false), (13, false), (14, false), (15, false), (16, false), (17, false), (18, true), (19, false), (20, false), (21, false), (22, false), (23, false), (24, false), (25, false), (26, false), (27, false)]) (fVar 0)) (fCons (fG1 (gIsx [(2, false), (3, false), (4, false), (5, false), (6, false), (7, false), (8, false), (9, false), (10, false), (11, false), (12, false), (13, false), (14, false), (15, false), (16, false), (17, false), (18, false), (19, true), (20, false), (21, false), (22, false), (23, false), (24, false), (25, false), (26, false), (27, false)]) (fVar 0)) (fNil))))))))))
    (fSeq (fAsg 1 (fVal (fOpL gCat (fPair (fVar 1) (fVal (fLst (fCons (fG1 (gIsx [(2, false), (3, false), (4, false), (5, false), (6, false), (7, false), (8, false), (9, false), (10, false), (11, false), (12, false), (13, false), (14, false), (15, false), (16, false), (17, false), (18, false), (19, false), (20, true), (21, false), (22, false), (23, false), (24, false), (25, false), (26, false), (27, false)]) (fVar 0)) (fCons (fG1 (gIsx [(2, false), (3, false), (4, false), (5, false), (6, false), (7, false), (8, false), (9, false), (10, false), (11, false), (12, false), (13, false), (14, false), (15, false), (16, false), (17, false), (18, false), (19, false), (20, false), (21, true), (22, false), (23, false), (24, false), (25, false), (26, false), (27, false)]) (fVar 0)) (fCons (fG1 (gIsx [(2, false), (3, false), (4, false), (5, false), (6, false), (7, false), (8, false), (9, false), (10, false), (11, false), (12, false), (13, false), (14, false), (15, false), (16, false), (17, false), (18, false), (19, false), (20, false), (21, false), (22, true), (23, false), (24, false), (25, false), (26, false), (27, false)]) (fVar 0)) (fCons (fG1 (gIsx [(2, false), (3, false), (4, false), (5, false), (6, false), (7, false), (8, false), (9, false), (10, false), (11, false), (12, false), (13, false), (14, false), (15, false), (16, false), (17, false), (18, false), (19, false), (20, false), (21, false), (22, false), (23, true), (24, false), (25, false), (26, false), (27, false)]) (fVar 0)) (fNil)))))))))))
    (fSeq (fRet (fVal (fOpL gCat (fPair (fVar 1) (fVal (fLst (fCons (fG1 (gIsx [(2, false), (3, false), (4, false), (5, false), (6, false), (7, false), (8, false), (9, false), (10, false), (11, false), (12, false), (13, false), (14, false), (15, false), (16, false), (17, false), (18, false), (19, false), (20, false), (21, false), (22, false), (23, false), (24, true), (25, false), (26, false), (27, false)]) (fVar 0)) (fCons (fG1 (gIsx [(2, false), (3, false), (4, false), (5, false), (6, false), (7, false), (8, false), (9, false), (10, false), (11, false), (12, false), (13, false), (14, false), (15, false), (16, false), (17, false), (18, false), (19, false), (20, false), (21, false), (22, false), (23, false), (24, false), (25, true), (26, false), (27, false)]) (fVar 0)) (fCons (fG1 (gIsx [(2, false), (3, false), (4, false), (5, false), (6, false), (7, false), (8, false), (9, false), (10, false), (11, false), (12, false), (13, false), (14, false), (15, false), (16, false), (17, false), (18, false), (19, false), (20, false), (21, false), (22, false), (23, false), (24, false), (25, false), (26, true), (27, false)]) (fVar 0)) (fCons (fG1 (gIsx [(2, false), (3, false), (4, false), (5, false), (6, false), (7, false), (8, false), (9, false), (10, false), (11, false), (12, false), (13, false), (14, false), (15, false), (16, false), (17, false), (18, false), (19, false), (20, false), (21, false), (22, false), (23, false), (24, false), (25, false), (26, false), (27, true)]) (fVar 0)) (fNil)))))))))))
    (fNext))))))))
def f__law_classes : List A → T A := fdef 2 b__law_classes
def b__law_named_errors : PF.Env → T Ct :=
    fSeq (fAsg 1 (fVal (fLst (fCons (fAct (bErr 0 1 2 [1, 0] [73, 110, 118, 97, 108, 105, 100, 78, 97, 109, 101]) (fNil) (fCons (fVar 0) (fNil))) (fCons (fAct (bErr 0 1 3 [2, 0] [73, 110, 118, 97, 108, 105, 100, 83, 99, 104, 101, 109, 101]) (fNil) (fCons (fVar 0) (fNil))) (fCons (fAct (bErr 0 1 4 [2, 0] [73, 110, 118, 97, 108, 105, 100, 82, 111, 119]) (fNil) (fCons (fVar 0) (fNil))) (fCons (fAct (bErr 0 1 5 [2, 0] [73, 110, 118, 97, 108, 105, 100, 76, 111, 111, 115, 101]) (fNil) (fCons (fVar 0) (fNil))) (fCons (fAct (bErr 0 1 6 [1, 0] [73, 110, 118, 97, 108, 105, 100, 86, 97, 114, 105, 97, 98, 108, 101, 115]) (fNil) (fCons (fVar 0) (fNil))) (fNil)))))))))
    (fSeq (fAsg 1 (fVal (fOpL gCat (fPair (fVar 1) (fVal (fLst (fCons (fAct (bErr 0 1 7 [2, 0] [73, 110, 118, 97, 108, 105, 100, 80, 97, 114, 116]) (fNil) (fCons (fVar 0) (fNil))) (fCons (fAct (bErr 0 1 8 [1, 0] [73, 110, 118, 97, 108, 105, 100, 70, 111, 114, 109, 117, 108, 97]) (fNil) (fCons (fVar 0) (fNil))) (fCons (fAct (bErr 0 1 9 [1, 0] [73, 110, 118, 97, 108, 105, 100, 67, 111, 108, 117, 109, 110, 115]) (fNil) (fCons (fVar 0) (fNil))) (fCons (fAct (bErr 0 1 10 [1, 0] [73, 110, 118, 97, 108, 105, 100, 65, 110, 115, 119, 101, 114]) (fNil) (fCons (fVar 0) (fNil))) (fNil)))))))))))
    (fSeq (fAsg 1 (fVal (fOpL gCat (fPair (fVar 1) (fVal (fLst (fCons (fAct (bErr 0 1 11 [1, 0] [73, 110, 118, 97, 108, 105, 100, 84, 114, 117, 116, 104, 115]) (fNil) (fCons (fVar 0) (fNil))) (fCons (fAct (bErr 0 1 12 [1, 0] [73, 110, 118, 97, 108, 105, 100, 70, 105, 108, 108, 105, 110, 103]) (fNil) (fCons (fVar 0) (fNil))) (fCons (fAct (bErr 0 1 13 [1, 0] [73, 110, 118, 97, 108, 105, 100, 77, 101, 97, 110, 105, 110, 103]) (fNil) (fCons (fVar 0) (fNil))) (fCons (fAct (bErr 0 1 14 [2, 0] [73, 110, 118, 97, 108, 105, 100, 84, 101, 120, 116]) (fNil) (fCons (fVar 0) (fNil))) (fNil)))))))))))
    (fSeq (fAsg 1 (fVal (fOpL gCat (fPair (fVar 1) (fVal (fLst (fCons (fAct (bErr 0 1 15 [2, 0] [73, 110, 118, 97, 108, 105, 100, 67, 111, 109, 109, 97, 110, 100]) (fNil) (fCons (fVar 0) (fNil))) (fCons (fAct (bErr 0 1 16 [1, 0] [73, 110, 118, 97, 108, 105, 100, 76, 105, 109, 105, 116]) (fNil) (fCons (fVar 0) (fNil))) (fCons (fAct (bErr 0 1 17 [3, 0] [73, 110, 118, 97, 108, 105, 100, 80, 97, 103, 101]) (fNil) (fCons (fVar 0) (fNil))) (fCons (fAct (bErr 0 1 22 [4, 0] [84, 111, 111, 77, 97, 110, 121]) (fNil) (fCons (fVar 0) (fNil))) (fCons (fAct (bErr 0 1 23 [5, 0] [70, 117, 108, 108]) (fNil) (fCons (fVar 0) (fNil))) (fNil))))))))))))
    (fSeq (fRet (fVal (fOpL gCat (fPair (fVar 1) (fVal (fLst (fCons (fAct (bErr 0 1 24 [6, 0] [85, 110, 107, 110, 111, 119, 110, 78, 97, 109, 101]) (fNil) (fCons (fVar 0) (fNil))) (fCons (fAct (bErr 0 1 25 [7, 0] [85, 110, 107, 110, 111, 119, 110, 82, 111, 119]) (fNil) (fCons (fVar 0) (fNil))) (fCons (fAct (bErr 0 1 26 [1, 0] [85, 110, 107, 110, 111, 119, 110, 86, 97, 108, 117, 101]) (fNil) (fCons (fVar 0) (fNil))) (fNil))))))))))
    (fNext)))))
def f__law_named_errors : List A → T A := fdef 2 b__law_named_errors
def b_law : PF.Env → T Ct :=
    fSeq (fAsg 2 (fAct (bFix 2 0 [0, 1] [] f__law_of) (fCons (fVar 1) (fCons (fVal (fLst (fCons (fC .non) (fCons (fC (.int 0)) (fCons (fC (.str [])) (fCons (fC (.str [120])) (fCons (fC (.bl true)) (fCons (fTup (fCons (fC (.int 1)) (fCons (fC (.str [97])) (fNil)))) (fCons (fVal (fLst (fNil))) (fCons (fVal (fLst (fCons (fC (.int 2)) (fNil)))) (fCons (fOp gPow (fPair (fC (.int 10)) (fC (.int 11)))) (fCons (fAct (bFix 2 0 [0, 1] [] fDraw) (fCons (fVar 1) (fCons (fOp gPow (fPair (fC (.int 10)) (fC (.int 9)))) (fNil))) (fNil)) (fNil))))))))))))) (fNil))) (fNil)))
    (fSeq (fPar 3 4 (fAct (bFix 1 0 [0] [] f__law_errors) (fCons (fVar 2) (fNil)) (fNil)) (fAct (bFix 0 0 [] [] f__law_codes) (fNil) (fNil)))
    (fSeq (fFor (fRange (fG1 gLen (fVar 3))) (tName 5)
    (fSeq (fAsg 6 (fOp gIx (fPair (fVar 3) (fVar 5))))
    (fSeq (fIfS (fNot (fTst (fAct (bFix 2 0 [0, 1] [] (f__law_same 40)) (fCons (fVal (fLst (fCons (fXg [2, 3, 4, 5, 6, 7, 8, 9, 10, 11, 12, 13, 14, 15, 16, 17, 18, 19, 20, 21, 22, 23, 24, 25, 26, 27] 0 (fVar 6)) (fCons (fAct (bFix 1 0 [0] [] f__law_field) (fCons (fVar 6) (fNil)) (fNil)) (fNil))))) (fCons (fVal (fLst (fCons (fOp gIx (fPair (fVar 4) (fVar 5))) (fCons (fIf (fTst (fOp gIn (fPair (fVar 5) (fVal (fLst (fCons (fC (.int 16)) (fCons (fC (.int 17)) (fCons (fC (.int 18)) (fCons (fC (.int 19)) (fCons (fC (.int 25)) (fNil))))))))))) (fC .non) (fVar 2)) (fNil))))) (fNil))) (fNil)))) (fSeq (fRet (fC (.bl false)))
    (fNext)) (fNext))
    (fSeq (fIfS (fTst (fOp gNe (fPair (fVal (fLst (fCons (fG1 (gIsx [(2, true), (3, true), (4, true), (5, true), (6, true), (7, true), (8, true), (9, true), (10, true), (11, true), (12, true), (13, true), (14, true), (15, true), (16, true), (17, true), (18, true), (19, true), (20, true), (21, true), (22, true), (23, true), (24, false), (25, false), (26, false), (27, false)]) (fVar 6)) (fCons (fG1 (gIsx [(2, true), (3, true), (4, true), (5, true), (6, true), (7, true), (8, true), (9, true), (10, true), (11, true), (12, true), (13, true), (14, true), (15, true), (16, true), (17, true), (18, true), (19, true), (20, true), (21, true), (22, true), (23, true), (24, false), (25, false), (26, false), (27, false)]) (fVar 6)) (fNil))))) (fVal (fLst (fCons (fOp gLt (fPair (fVar 5) (fC (.int 22)))) (fCons (fOp gLt (fPair (fVar 5) (fC (.int 22)))) (fNil)))))))) (fSeq (fRet (fC (.bl false)))
    (fNext)) (fNext))
    (fSeq (fIfS (fTst (fOp gNe (fPair (fVal (fLst (fCons (fG1 (gIsx [(2, false), (3, false), (4, false), (5, false), (6, false), (7, false), (8, false), (9, false), (10, false), (11, false), (12, false), (13, false), (14, false), (15, false), (16, false), (17, false), (18, false), (19, false), (20, false), (21, false), (22, false), (23, false), (24, true), (25, true), (26, true), (27, false)]) (fVar 6)) (fCons (fG1 (gIsx [(2, false), (3, false), (4, false), (5, false), (6, false), (7, false), (8, false), (9, false), (10, false), (11, false), (12, false), (13, false), (14, false), (15, false), (16, false), (17, false), (18, false), (19, false), (20, false), (21, false), (22, false), (23, false), (24, true), (25, true), (26, true), (27, true)]) (fVar 6)) (fNil))))) (fVal (fLst (fCons (fOp gIn (fPair (fVar 5) (fVal (fLst (fCons (fC (.int 22)) (fCons (fC (.int 23)) (fCons (fC (.int 24)) (fNil)))))))) (fCons (fOp gGt (fPair (fVar 5) (fC (.int 21)))) (fNil)))))))) (fSeq (fRet (fC (.bl false)))
    (fNext)) (fNext))
    (fSeq (fIfS (fOr (fTst (fOp gNe (fPair (fG1 (gIsx [(2, false), (3, false), (4, false), (5, false), (6, false), (7, false), (8, false), (9, false), (10, false), (11, false), (12, false), (13, false), (14, false), (15, false), (16, false), (17, false), (18, false), (19, false), (20, false), (21, false), (22, false), (23, false), (24, false), (25, false), (26, false), (27, true)]) (fVar 6)) (fOp gEq (fPair (fVar 5) (fC (.int 25))))))) (fTst (fOp gNe (fPair (fAct (bFix 1 0 [0] [] f__law_classes) (fCons (fVar 6) (fNil)) (fNil)) (fVal (fLc (fRange (fC (.int 26))) (tName 8) (fYes) (fOp gEq (fPair (fVar 8) (fVar 5))) [8])))))) (fSeq (fRet (fC (.bl false)))
    (fNext)) (fNext))
    (fNext)))))))
    (fSeq (fDrop [6] (fAsg 7 (fVal (fLc (fSeqs (fAct (bFix 1 0 [0] [] f__law_named_errors) (fCons (fVar 2) (fNil)) (fNil))) (tName 6) (fYes) (fAct (bFix 1 0 [0] [] f__law_field) (fCons (fVar 6) (fNil)) (fNil)) [6]))))
    (fSeq (fIfS (fOr (fNot (fTst (fAct (bFix 2 0 [0, 1] [] (f__law_same 40)) (fCons (fVar 7) (fCons (fVal (fOpL gRep (fPair (fVal (fLst (fCons (fVar 2) (fNil)))) (fC (.int 21))))) (fNil))) (fNil)))) (fTst (fOp gNe (fPair (fG1 gLen (fVar 3)) (fC (.int 26)))))) (fSeq (fRet (fC (.bl false)))
    (fNext)) (fNext))
    (fSeq (fRet (fC (.bl true)))
    (fNext))))))
end PL
namespace PL
open PF
theorem of_F : f__law_of = ofF := rfl
theorem same_F : ∀ n, f__law_same n = sameF n
  | 0 => rfl
  | n + 1 => by
    show fdef 4 (b__law_same (f__law_same n)) = fdef 4 (sameB (sameF n))
    rw [same_F n]
    rfl
theorem same_ok {a : A} (h : oks 40 a = true) : f__law_same 40 [a, a] = .ret (.bl true) := by
  rw [same_F]
  exact same_refl 40 a h
end PL
namespace PL
open PF
section
variable {env : Env}
theorem r_or {f g : Env → T Bool} {c : Bool} (h : f env = .ret false) (h2 : g env = .ret c) : fOr f g env = .ret c := by
  unfold fOr
  rw [h, T.ret_bind, if_neg Bool.false_ne_true, h2]
theorem r_not {f : Env → T Bool} {c : Bool} (h : f env = .ret c) : fNot f env = .ret (!c) := by
  unfold fNot
  rw [h]
  rfl
theorem r_tst {f : Env → T A} {c : Bool} (h : f env = .ret (.bl c)) : fTst f env = .ret c := by
  unfold fTst
  rw [h]
  rfl
theorem r_act0 {g : List A → T A} {r : T A} (h : g [] = r) : fAct (bFix 0 0 [] [] g) fNil fNil env = r := by
  simp [h]
theorem r_act1 {g : List A → T A} {X : Env → T A} {a : A} {r : T A} (hx : X env = .ret a) (h : g [a] = r) : fAct (bFix 1 0 [0] [] g) (fCons X fNil) fNil env = r := by
  simp [hx, h]
theorem r_act2 {g : List A → T A} {X Y : Env → T A} {a c : A} {r : T A} (hx : X env = .ret a) (hy : Y env = .ret c) (h : g [a, c] = r) : fAct (bFix 2 0 [0, 1] [] g) (fCons X (fCons Y fNil)) fNil env = r := by
  simp [hx, hy, h]
theorem r_op {o : G2} {f g : Env → T A} {x y c : A} (hx : f env = .ret x) (hy : g env = .ret y) (h : o x y = some c) : fOp o (fPair f g) env = .ret c := by
  simp [hx, hy, h]
theorem r_g1 {o : G1} {f : Env → T A} {x c : A} (hx : f env = .ret x) (h : o x = some c) : fG1 o f env = .ret c := by
  simp [hx, h]
theorem r_var {i : Nat} {a : A} (h : env[i]? = some (some a)) : fVar i env = .ret a := by simp [h]
theorem r_nil : fNil env = .ret [] := rfl
theorem r_cons {f : Env → T A} {g : Env → T (List A)} {a : A} {as : List A} (h : f env = .ret a) (h2 : g env = .ret as) : fCons f g env = .ret (a :: as) := by
  simp [h, h2]
theorem r_lst {g : Env → T (List A)} {as : List A} (h : g env = .ret as) (hl : as.length ≤ 1000) : fVal (fLst g) env = .ret (.lst as) := by
  have : small as = some as := small_of (big_of hl)
  simp [h, this]
theorem r_val {g : Env → T (List A)} {as : List A} (h : g env = .ret as) : fVal g env = .ret (.lst as) := by
  unfold fVal
  rw [h]
  rfl
theorem r_seq {f : Env → T A} {xs : List A} (h : f env = .ret (.lst xs)) : fSeqs f env = .ret xs := by
  rw [e_Seqs, h]
  rfl
theorem oks_lst2 {n : Nat} {xs : List A} (hl : xs.length ≤ 1000) (h : ∀ x ∈ xs, oks n x = true) : oks (n + 1) (.lst xs) = true ∧ oks (n + 1) (.tup xs) = true := by
  have e1 : oks (n + 1) (.lst xs) = (decide (xs.length ≤ big) && xs.all (oks n)) := by rw [oks]
  have e2 : oks (n + 1) (.tup xs) = (decide (xs.length ≤ big) && xs.all (oks n)) := by rw [oks]
  have h1 : xs.all (oks n) = true := List.all_eq_true.mpr h
  rw [e1, e2, h1, decide_eq_true (big_of hl)]
  exact ⟨rfl, rfl⟩
theorem r_same {f g : Env → T A} {x : A} (h1 : f env = .ret x) (h2 : g env = .ret x) (o : oks 40 x = true) : (fNot (fTst (fAct (bFix 2 0 [0, 1] [] (f__law_same 40)) (fCons f (fCons g (fNil))) (fNil)))) env = .ret false :=
  r_not (r_tst (r_act2 h1 h2 (same_ok o)))
end
end PL
namespace K01
open PF PL
def tab : List (Nat × Option Nat × List Nat) := [
  (2, some 1, [73, 110, 118, 97, 108, 105, 100, 78, 97, 109, 101]),
  (3, some 2, [73, 110, 118, 97, 108, 105, 100, 83, 99, 104, 101, 109, 101]),
  (4, some 2, [73, 110, 118, 97, 108, 105, 100, 82, 111, 119]),
  (5, some 2, [73, 110, 118, 97, 108, 105, 100, 76, 111, 111, 115, 101]),
  (6, some 1, [73, 110, 118, 97, 108, 105, 100, 86, 97, 114, 105, 97, 98, 108, 101, 115]),
  (7, some 2, [73, 110, 118, 97, 108, 105, 100, 80, 97, 114, 116]),
  (8, some 1, [73, 110, 118, 97, 108, 105, 100, 70, 111, 114, 109, 117, 108, 97]),
  (9, some 1, [73, 110, 118, 97, 108, 105, 100, 67, 111, 108, 117, 109, 110, 115]),
  (10, some 1, [73, 110, 118, 97, 108, 105, 100, 65, 110, 115, 119, 101, 114]),
  (11, some 1, [73, 110, 118, 97, 108, 105, 100, 84, 114, 117, 116, 104, 115]),
  (12, some 1, [73, 110, 118, 97, 108, 105, 100, 70, 105, 108, 108, 105, 110, 103]),
  (13, some 1, [73, 110, 118, 97, 108, 105, 100, 77, 101, 97, 110, 105, 110, 103]),
  (14, some 2, [73, 110, 118, 97, 108, 105, 100, 84, 101, 120, 116]),
  (15, some 2, [73, 110, 118, 97, 108, 105, 100, 67, 111, 109, 109, 97, 110, 100]),
  (16, some 1, [73, 110, 118, 97, 108, 105, 100, 76, 105, 109, 105, 116]),
  (17, some 3, [73, 110, 118, 97, 108, 105, 100, 80, 97, 103, 101]),
  (18, none, [79, 116, 104, 101, 114, 83, 99, 104, 101, 109, 101]),
  (19, none, [79, 116, 104, 101, 114, 67, 111, 108, 117, 109, 110, 115]),
  (20, none, [72, 97, 115, 67, 111, 108, 117, 109, 110, 115]),
  (21, none, [78, 111, 116, 83, 97, 102, 101]),
  (22, some 4, [84, 111, 111, 77, 97, 110, 121]),
  (23, some 5, [70, 117, 108, 108]),
  (24, some 6, [85, 110, 107, 110, 111, 119, 110, 78, 97, 109, 101]),
  (25, some 7, [85, 110, 107, 110, 111, 119, 110, 82, 111, 119]),
  (26, some 1, [85, 110, 107, 110, 111, 119, 110, 86, 97, 108, 117, 101]),
  (27, none, [78, 111, 116, 104, 105, 110, 103, 76, 101, 102, 116])]
def exA (a : A) (t : Nat × Option Nat × List Nat) : A := match t.2.1 with
  | some g => .exn t.1 [g, 0] [a, .str t.2.2]
  | none => .exn t.1 [0] [.str t.2.2]
def fvA (a : A) (t : Nat × Option Nat × List Nat) : A := match t.2.1 with
  | some _ => a
  | none => .non
theorem errors_ok (a : A) : f__law_errors [a] = .ret (.lst (tab.map (exA a))) := by kernel_rfl
theorem codes_ok : f__law_codes [] = .ret (.lst (tab.map fun t => A.str t.2.2)) := by kernel_rfl
theorem named_ok (a : A) : f__law_named_errors [a] = .ret (.lst ((tab.filter fun t => t.2.1.isSome).map (exA a))) := by kernel_rfl
def AllFrom {α : Type} (P : Nat → α → Prop) : Nat → List α → Prop
  | _, [] => True
  | k, x :: xs => P k x ∧ AllFrom P (k + 1) xs
theorem all_at {α : Type} {P : Nat → α → Prop} : ∀ (l : List α) (k : Nat), AllFrom P k l → ∀ (i : Nat) (t : α), l[i]? = some t → P (k + i) t
  | [], _, _, i, t, h => by cases h
  | x :: xs, k, h, 0, t, e => by cases e; exact h.1
  | x :: xs, k, h, i + 1, t, e => by
    have := all_at xs (k + 1) h.2 i t e
    rw [show k + 1 + i = k + (i + 1) by omega] at this
    exact this
theorem all0 {α : Type} {P : Nat → α → Prop} {l : List α} (h : AllFrom P 0 l) {i : Nat} {t : α} (e : l[i]? = some t) : P i t := by
  have := all_at l 0 h i t e
  rw [Nat.zero_add] at this
  exact this
theorem field_all (a : A) : AllFrom (fun _ t => f__law_field [exA a t] = .ret (fvA a t)) 0 tab := ⟨by kernel_rfl, by kernel_rfl, by kernel_rfl, by kernel_rfl, by kernel_rfl, by kernel_rfl, by kernel_rfl, by kernel_rfl, by kernel_rfl, by kernel_rfl, by kernel_rfl, by kernel_rfl, by kernel_rfl, by kernel_rfl, by kernel_rfl, by kernel_rfl, by kernel_rfl, by kernel_rfl, by kernel_rfl, by kernel_rfl, by kernel_rfl, by kernel_rfl, by kernel_rfl, by kernel_rfl, by kernel_rfl, by kernel_rfl, trivial⟩
end K01
namespace K01
open PF PL
abbrev E1 (x0 x1 x3 x7 x8 : Option A) (a : A) (i : Nat) (t : Nat × Option Nat × List Nat) : Env := [x0, x1, some a, x3, some (.lst (tab.map fun t => A.str t.2.2)), some (.int (i : Nat)), some (exA a t), x7, x8]
theorem parts_all (x0 x1 x3 x7 : Option A) (a : A) : AllFrom (fun i t => (fXg [2, 3, 4, 5, 6, 7, 8, 9, 10, 11, 12, 13, 14, 15, 16, 17, 18, 19, 20, 21, 22, 23, 24, 25, 26, 27] 0 (fVar 6)) (E1 x0 x1 x3 x7 none a i t) = .ret (.str t.2.2) ∧ (fOp gIx (fPair (fVar 4) (fVar 5))) (E1 x0 x1 x3 x7 none a i t) = .ret (.str t.2.2) ∧
    (fIf (fTst (fOp gIn (fPair (fVar 5) (fVal (fLst (fCons (fC (.int 16)) (fCons (fC (.int 17)) (fCons (fC (.int 18)) (fCons (fC (.int 19)) (fCons (fC (.int 25)) (fNil))))))))))) (fC .non) (fVar 2)) (E1 x0 x1 x3 x7 none a i t) = .ret (fvA a t) ∧ (fTst (fOp gNe (fPair (fVal (fLst (fCons (fG1 (gIsx [(2, true), (3, true), (4, true), (5, true), (6, true), (7, true), (8, true), (9, true), (10, true), (11, true), (12, true), (13, true), (14, true), (15, true), (16, true), (17, true), (18, true), (19, true), (20, true), (21, true), (22, true), (23, true), (24, false), (25, false), (26, false), (27, false)]) (fVar 6)) (fCons (fG1 (gIsx [(2, true), (3, true), (4, true), (5, true), (6, true), (7, true), (8, true), (9, true), (10, true), (11, true), (12, true), (13, true), (14, true), (15, true), (16, true), (17, true), (18, true), (19, true), (20, true), (21, true), (22, true), (23, true), (24, false), (25, false), (26, false), (27, false)]) (fVar 6)) (fNil))))) (fVal (fLst (fCons (fOp gLt (fPair (fVar 5) (fC (.int 22)))) (fCons (fOp gLt (fPair (fVar 5) (fC (.int 22)))) (fNil)))))))) (E1 x0 x1 x3 x7 none a i t) = .ret false ∧ (fTst (fOp gNe (fPair (fVal (fLst (fCons (fG1 (gIsx [(2, false), (3, false), (4, false), (5, false), (6, false), (7, false), (8, false), (9, false), (10, false), (11, false), (12, false), (13, false), (14, false), (15, false), (16, false), (17, false), (18, false), (19, false), (20, false), (21, false), (22, false), (23, false), (24, true), (25, true), (26, true), (27, false)]) (fVar 6)) (fCons (fG1 (gIsx [(2, false), (3, false), (4, false), (5, false), (6, false), (7, false), (8, false), (9, false), (10, false), (11, false), (12, false), (13, false), (14, false), (15, false), (16, false), (17, false), (18, false), (19, false), (20, false), (21, false), (22, false), (23, false), (24, true), (25, true), (26, true), (27, true)]) (fVar 6)) (fNil))))) (fVal (fLst (fCons (fOp gIn (fPair (fVar 5) (fVal (fLst (fCons (fC (.int 22)) (fCons (fC (.int 23)) (fCons (fC (.int 24)) (fNil)))))))) (fCons (fOp gGt (fPair (fVar 5) (fC (.int 21)))) (fNil)))))))) (E1 x0 x1 x3 x7 none a i t) = .ret false ∧ (fOr (fTst (fOp gNe (fPair (fG1 (gIsx [(2, false), (3, false), (4, false), (5, false), (6, false), (7, false), (8, false), (9, false), (10, false), (11, false), (12, false), (13, false), (14, false), (15, false), (16, false), (17, false), (18, false), (19, false), (20, false), (21, false), (22, false), (23, false), (24, false), (25, false), (26, false), (27, true)]) (fVar 6)) (fOp gEq (fPair (fVar 5) (fC (.int 25))))))) (fTst (fOp gNe (fPair (fAct (bFix 1 0 [0] [] f__law_classes) (fCons (fVar 6) (fNil)) (fNil)) (fVal (fLc (fRange (fC (.int 26))) (tName 8) (fYes) (fOp gEq (fPair (fVar 8) (fVar 5))) [8])))))) (E1 x0 x1 x3 x7 none a i t) = .ret false) 0 tab :=
  ⟨⟨by kernel_rfl, by kernel_rfl, by kernel_rfl, by kernel_rfl, by kernel_rfl, by kernel_rfl⟩, ⟨by kernel_rfl, by kernel_rfl, by kernel_rfl, by kernel_rfl, by kernel_rfl, by kernel_rfl⟩, ⟨by kernel_rfl, by kernel_rfl, by kernel_rfl, by kernel_rfl, by kernel_rfl, by kernel_rfl⟩, ⟨by kernel_rfl, by kernel_rfl, by kernel_rfl, by kernel_rfl, by kernel_rfl, by kernel_rfl⟩, ⟨by kernel_rfl, by kernel_rfl, by kernel_rfl, by kernel_rfl, by kernel_rfl, by kernel_rfl⟩, ⟨by kernel_rfl, by kernel_rfl, by kernel_rfl, by kernel_rfl, by kernel_rfl, by kernel_rfl⟩, ⟨by kernel_rfl, by kernel_rfl, by kernel_rfl, by kernel_rfl, by kernel_rfl, by kernel_rfl⟩, ⟨by kernel_rfl, by kernel_rfl, by kernel_rfl, by kernel_rfl, by kernel_rfl, by kernel_rfl⟩, ⟨by kernel_rfl, by kernel_rfl, by kernel_rfl, by kernel_rfl, by kernel_rfl, by kernel_rfl⟩, ⟨by kernel_rfl, by kernel_rfl, by kernel_rfl, by kernel_rfl, by kernel_rfl, by kernel_rfl⟩, ⟨by kernel_rfl, by kernel_rfl, by kernel_rfl, by kernel_rfl, by kernel_rfl, by kernel_rfl⟩, ⟨by kernel_rfl, by kernel_rfl, by kernel_rfl, by kernel_rfl, by kernel_rfl, by kernel_rfl⟩, ⟨by kernel_rfl, by kernel_rfl, by kernel_rfl, by kernel_rfl, by kernel_rfl, by kernel_rfl⟩, ⟨by kernel_rfl, by kernel_rfl, by kernel_rfl, by kernel_rfl, by kernel_rfl, by kernel_rfl⟩, ⟨by kernel_rfl, by kernel_rfl, by kernel_rfl, by kernel_rfl, by kernel_rfl, by kernel_rfl⟩, ⟨by kernel_rfl, by kernel_rfl, by kernel_rfl, by kernel_rfl, by kernel_rfl, by kernel_rfl⟩, ⟨by kernel_rfl, by kernel_rfl, by kernel_rfl, by kernel_rfl, by kernel_rfl, by kernel_rfl⟩, ⟨by kernel_rfl, by kernel_rfl, by kernel_rfl, by kernel_rfl, by kernel_rfl, by kernel_rfl⟩, ⟨by kernel_rfl, by kernel_rfl, by kernel_rfl, by kernel_rfl, by kernel_rfl, by kernel_rfl⟩, ⟨by kernel_rfl, by kernel_rfl, by kernel_rfl, by kernel_rfl, by kernel_rfl, by kernel_rfl⟩, ⟨by kernel_rfl, by kernel_rfl, by kernel_rfl, by kernel_rfl, by kernel_rfl, by kernel_rfl⟩, ⟨by kernel_rfl, by kernel_rfl, by kernel_rfl, by kernel_rfl, by kernel_rfl, by kernel_rfl⟩, ⟨by kernel_rfl, by kernel_rfl, by kernel_rfl, by kernel_rfl, by kernel_rfl, by kernel_rfl⟩, ⟨by kernel_rfl, by kernel_rfl, by kernel_rfl, by kernel_rfl, by kernel_rfl, by kernel_rfl⟩, ⟨by kernel_rfl, by kernel_rfl, by kernel_rfl, by kernel_rfl, by kernel_rfl, by kernel_rfl⟩, ⟨by kernel_rfl, by kernel_rfl, by kernel_rfl, by kernel_rfl, by kernel_rfl, by kernel_rfl⟩, trivial⟩
theorem same_ok1 {x0 x1 x3 x7 : Option A} {a : A} {i : Nat} {t : Nat × Option Nat × List Nat} (ho : oks 39 a = true) (ht : tab[i]? = some t) : (fNot (fTst (fAct (bFix 2 0 [0, 1] [] (f__law_same 40)) (fCons (fVal (fLst (fCons (fXg [2, 3, 4, 5, 6, 7, 8, 9, 10, 11, 12, 13, 14, 15, 16, 17, 18, 19, 20, 21, 22, 23, 24, 25, 26, 27] 0 (fVar 6)) (fCons (fAct (bFix 1 0 [0] [] f__law_field) (fCons (fVar 6) (fNil)) (fNil)) (fNil))))) (fCons (fVal (fLst (fCons (fOp gIx (fPair (fVar 4) (fVar 5))) (fCons (fIf (fTst (fOp gIn (fPair (fVar 5) (fVal (fLst (fCons (fC (.int 16)) (fCons (fC (.int 17)) (fCons (fC (.int 18)) (fCons (fC (.int 19)) (fCons (fC (.int 25)) (fNil))))))))))) (fC .non) (fVar 2)) (fNil))))) (fNil))) (fNil)))) (E1 x0 x1 x3 x7 none a i t) = .ret false := by
  obtain ⟨p1, p2, p3, _⟩ := all0 (parts_all x0 x1 x3 x7 a) ht
  have hf := all0 (field_all a) ht
  refine r_same (x := .lst [.str t.2.2, fvA a t]) (r_lst (r_cons p1 (r_cons (r_act1 (r_var rfl) hf) r_nil)) (by simp)) (r_lst (r_cons p2 (r_cons p3 r_nil)) (by simp)) ?_
  refine (oks_lst2 (n := 39) (by simp) fun x hx => ?_).1
  simp only [List.mem_cons, List.not_mem_nil, or_false] at hx
  rcases hx with rfl | rfl
  · rfl
  · unfold fvA
    split
    · exact ho
    · rfl
end K01
namespace K01
open PF PL
section
variable {b : PySem.Addr} {z : AX → Prop} {e : Env}
theorem W_drp {vs : List Nat} {s1 s : Env → T Ct} {q : Ct → Prop} (h : W b (fSeq s1 s (dropE vs e)) q z) : W b (fSeq (fDrop vs s1) s e) q z := h
theorem W_consE {f : Env → T A} {g : Env → T (List A)} {a : A} {q : List A → Prop} (h : f e = .ret a) (k : W b (g e) (fun as => q (a :: as)) z) : W b (fCons f g e) q z := by
  unfold fCons
  rw [h, T.ret_bind, W_bind]
  refine W_mono k (fun as h => ?_) fun _ h => h
  rw [W_ret]
  exact h
theorem W_consW {f : Env → T A} {g : Env → T (List A)} {q : List A → Prop} (k : W b (f e) (fun a => W b (g e) (fun as => q (a :: as)) z) z) : W b (fCons f g e) q z := by
  unfold fCons
  rw [W_bind]
  refine W_mono k (fun a h => ?_) fun _ h => h
  rw [W_bind]
  refine W_mono h (fun as h => ?_) fun _ h => h
  rw [W_ret]
  exact h
theorem W_nil {q : List A → Prop} (h : q []) : W b (fNil e) q z := by
  show W b (T.ret _) q z
  rw [W_ret]
  exact h
theorem W_lstv {g : Env → T (List A)} {q : A → Prop} (h : W b (g e) (fun as => as.length ≤ 1000 ∧ q (.lst as)) z) : W b (fVal (fLst g) e) q z := by
  refine W_val ?_
  unfold fLst
  rw [W_bind]
  refine W_mono h (fun as k => ?_) fun _ h => h
  exact W_opt (small_of (big_of k.1)) k.2
theorem W_of3 {fl : Env → T A} {q : A → Prop} (h1 : e[1]? = some (some (.ref b))) (h : W b (fl e) (fun x => ∃ xs, seqF x = some xs ∧ 0 < xs.length ∧ xs.length ≤ big ∧ ∀ y ∈ xs, q y) z) : W b (fAct (bFix 2 0 [0, 1] [] f__law_of) (fCons (fVar 1) (fCons fl (fNil))) (fNil) e) q z := by
  have hv := r_var h1
  show W b (((fCons (fVar 1) (fCons fl (fNil))) e).bind fun as => (fNil e).bind fun bs => bFix 2 0 [0, 1] [] f__law_of as bs) q z
  rw [W_bind]
  refine W_consE hv (W_consW (W_mono h (fun x k => W_nil ?_) fun _ h => h))
  obtain ⟨xs, k1, k2, k3, k4⟩ := k
  show W b (f__law_of [.ref b, x]) q z
  rw [of_F]
  exact W_of k1 k2 k3 k4
theorem drawn (h1 : e[1]? = some (some (.ref b))) : W b ((fAct (bFix 2 0 [0, 1] [] f__law_of) (fCons (fVar 1) (fCons (fVal (fLst (fCons (fC .non) (fCons (fC (.int 0)) (fCons (fC (.str [])) (fCons (fC (.str [120])) (fCons (fC (.bl true)) (fCons (fTup (fCons (fC (.int 1)) (fCons (fC (.str [97])) (fNil)))) (fCons (fVal (fLst (fNil))) (fCons (fVal (fLst (fCons (fC (.int 2)) (fNil)))) (fCons (fOp gPow (fPair (fC (.int 10)) (fC (.int 11)))) (fCons (fAct (bFix 2 0 [0, 1] [] fDraw) (fCons (fVar 1) (fCons (fOp gPow (fPair (fC (.int 10)) (fC (.int 9)))) (fNil))) (fNil)) (fNil))))))))))))) (fNil))) (fNil)) e) (fun a => oks 39 a = true) z := by
  refine W_of3 h1 (W_lstv ?_)
  refine W_consE rfl (W_consE rfl (W_consE rfl (W_consE rfl (W_consE rfl (W_consE (a := .tup [.int 1, .str [97]]) rfl (W_consE (a := .lst []) rfl (W_consE (a := .lst [.int 2]) rfl (W_consE (a := .int 100000000000) (by kernel_rfl) (W_consW (W_draw2 (m := 1000000000) h1 (by kernel_rfl) (by decide) (by decide) fun k k0 k1 => W_nil ?_))))))))))
  refine ⟨by simp, _, rfl, by simp, by simp only [List.length_cons, List.length_nil]; decide, fun y hy => ?_⟩
  simp only [List.mem_cons, List.not_mem_nil, or_false] at hy
  rcases hy with rfl | rfl | rfl | rfl | rfl | rfl | rfl | rfl | rfl | rfl <;> rfl
end
def Inv (b : PySem.Addr) (a : A) (e : Env) : Prop := ∃ x0 x5 x6, e = [x0, some (.ref b), some a, some (.lst (tab.map (exA a))), some (.lst (tab.map fun t => A.str t.2.2)), x5, x6, none, none]
theorem plain_law (b : PySem.Addr) : W b (b_law (startB 9 b)).fin (fun a => a = .bl true) (fun _ => False) := by
  rw [W_fin]
  unfold b_law
  refine W_asgW (W_mono (drawn (e := startB 9 b) (z := fun _ => False) rfl) (fun a ho => ?_) fun _ h => h)
  refine W_par (W_e (a := .lst (tab.map (exA a))) (r_act1 (r_var rfl) (errors_ok a)) (W_e (a := .lst (tab.map fun t => A.str t.2.2)) (r_act0 codes_ok) ?_))
  refine W_loop (fun _ e => Inv b a e) (rangeA 26) (range_of (n := 26) (r_g1 (r_var rfl) rfl) (by decide) (by decide)) ⟨_, _, _, rfl⟩ ?_ ?_
  · intro k c hc e he
    obtain ⟨x0, x5, x6, rfl⟩ := he
    obtain ⟨i, hi, rfl⟩ := List.mem_map.mp (show c ∈ (List.range 26).map fun i => A.int ((i : Nat) : Int) from hc)
    have hi := List.mem_range.mp hi
    obtain ⟨t, ht⟩ : ∃ t, tab[i]? = some t := ⟨_, List.getElem?_eq_getElem (show i < tab.length from hi)⟩
    refine ⟨[x0, some (.ref b), some a, some (.lst (tab.map (exA a))), some (.lst (tab.map fun t => A.str t.2.2)), some (.int (i : Nat)), x6, none, none], rfl, ?_⟩
    have e6 : (fOp gIx (fPair (fVar 3) (fVar 5))) [x0, some (.ref b), some a, some (.lst (tab.map (exA a))), some (.lst (tab.map fun t => A.str t.2.2)), some (.int (i : Nat)), x6, none, none] = .ret (exA a t) := r_op (r_var rfl) (r_var rfl) ((gIx_lst _ _).trans ((atI_nat' _ _).trans (by rw [List.getElem?_map, ht]; rfl)))
    refine W_asg (exA a t) (E1 x0 (some (.ref b)) (some (.lst (tab.map (exA a)))) none none a i t) e6 rfl ?_
    obtain ⟨_, _, _, p4, p5, p6⟩ := all0 (parts_all x0 (some (.ref b)) (some (.lst (tab.map (exA a)))) none a) ht
    refine W_ifF (same_ok1 ho ht) ?_
    refine W_ifF p4 ?_
    refine W_ifF p5 ?_
    refine W_ifF p6 ?_
    exact W_nx ⟨_, _, _, rfl⟩
  · intro e he
    obtain ⟨x0, x5, x6, rfl⟩ := he
    have hd : dropE [6] [x0, some (.ref b), some a, some (.lst (tab.map (exA a))), some (.lst (tab.map fun t => A.str t.2.2)), x5, x6, none, none] = [x0, some (.ref b), some a, some (.lst (tab.map (exA a))), some (.lst (tab.map fun t => A.str t.2.2)), x5, none, none, none] := rfl
    refine W_drp ?_
    rw [hd]
    have e7 : (fVal (fLc (fSeqs (fAct (bFix 1 0 [0] [] f__law_named_errors) (fCons (fVar 2) (fNil)) (fNil))) (tName 6) (fYes) (fAct (bFix 1 0 [0] [] f__law_field) (fCons (fVar 6) (fNil)) (fNil)) [6])) [x0, some (.ref b), some a, some (.lst (tab.map (exA a))), some (.lst (tab.map fun t => A.str t.2.2)), x5, none, none, none] = .ret (.lst (List.replicate 21 a)) := by
      have hm : (tab.filter fun t => t.2.1.isSome).map (fun _ => a) = List.replicate 21 a := by kernel_rfl
      rw [← hm]
      refine r_val (lc_map (exA a) (fun _ => a) (tab.filter fun t => t.2.1.isSome) (r_seq (r_act1 (r_var rfl) (named_ok a))) rfl (big_of (k := 26) (List.length_filter_le _ _)) fun t ht => ⟨[x0, some (.ref b), some a, some (.lst (tab.map (exA a))), some (.lst (tab.map fun t => A.str t.2.2)), x5, some (exA a t), none, none], rfl, ?_⟩)
      obtain ⟨h1, h2⟩ := List.mem_filter.mp ht
      obtain ⟨i, hi⟩ := List.getElem?_of_mem h1
      have hf := all0 (field_all a) hi
      have hv : fvA a t = a := by
        unfold fvA
        split
        · rfl
        · rename_i h
          rw [h] at h2
          cases h2
      rw [hv] at hf
      exact r_act1 (r_var rfl) hf
    refine W_asg (.lst (List.replicate 21 a)) [x0, some (.ref b), some a, some (.lst (tab.map (exA a))), some (.lst (tab.map fun t => A.str t.2.2)), x5, none, some (.lst (List.replicate 21 a)), none] e7 rfl ?_
    have c1 : (fNot (fTst (fAct (bFix 2 0 [0, 1] [] (f__law_same 40)) (fCons (fVar 7) (fCons (fVal (fOpL gRep (fPair (fVal (fLst (fCons (fVar 2) (fNil)))) (fC (.int 21))))) (fNil))) (fNil)))) [x0, some (.ref b), some a, some (.lst (tab.map (exA a))), some (.lst (tab.map fun t => A.str t.2.2)), x5, none, some (.lst (List.replicate 21 a)), none] = .ret false := by
      refine r_same (x := .lst (List.replicate 21 a)) (r_var rfl) (by kernel_rfl) ?_
      refine (oks_lst2 (n := 39) (by simp) fun x hx => ?_).1
      rw [(List.mem_replicate.mp hx).2]
      exact ho
    have c2 : (fTst (fOp gNe (fPair (fG1 gLen (fVar 3)) (fC (.int 26))))) [x0, some (.ref b), some a, some (.lst (tab.map (exA a))), some (.lst (tab.map fun t => A.str t.2.2)), x5, none, some (.lst (List.replicate 21 a)), none] = .ret false := r_tst (r_op (r_g1 (r_var rfl) (c := .int 26) rfl) rfl rfl)
    refine W_ifF (r_or c1 c2) ?_
    refine W_retV (a := .bl true) rfl ?_
    show W b (finC (.rt (.bl true))) _ _
    show W b (T.ret _) _ _
    rw [W_ret]
end K01
namespace K01
open PySem PySem.Spec PyProof.Rows L2 PD PF
open PL
theorem sc__law_bag : FnScope ["_law_script"] ["_law_script"] (defScope s__law_bag) := ⟨rfl, rfl, rfl, by decide +kernel, rfl, by decide +kernel, by decide +kernel⟩
theorem sc__law_draw : FnScope ["_law_bag_here", "_law_many", "_law_cell", "_law_digit", "_law_seed"] ["_law_bag_here", "_law_many"] (defScope s__law_draw) := ⟨rfl, rfl, rfl, by decide +kernel, rfl, by decide +kernel, by decide +kernel⟩
theorem sc__law_of : FnScope ["_law_bag_here", "_law_some"] ["_law_bag_here", "_law_some"] (defScope s__law_of) := ⟨rfl, rfl, rfl, by decide +kernel, rfl, by decide +kernel, by decide +kernel⟩
theorem sc__law_errors : FnScope ["_law_a", "_law_found"] ["_law_a"] (defScope s__law_errors) := ⟨rfl, rfl, rfl, by decide +kernel, rfl, by decide +kernel, by decide +kernel⟩
theorem sc__law_codes : FnScope ["_law_found"] [] (defScope s__law_codes) := ⟨rfl, rfl, rfl, by decide +kernel, rfl, by decide +kernel, by decide +kernel⟩
theorem sc__law_same : FnScope ["_law_found", "_law_due", "_law_one", "_law_two"] ["_law_found", "_law_due"] (defScope s__law_same) := ⟨rfl, rfl, rfl, by decide +kernel, rfl, by decide +kernel, by decide +kernel⟩
theorem sc__law_field : FnScope ["_law_e"] ["_law_e"] (defScope s__law_field) := ⟨rfl, rfl, rfl, by decide +kernel, rfl, by decide +kernel, by decide +kernel⟩
theorem sc__law_classes : FnScope ["_law_e", "_law_found"] ["_law_e"] (defScope s__law_classes) := ⟨rfl, rfl, rfl, by decide +kernel, rfl, by decide +kernel, by decide +kernel⟩
theorem sc__law_named_errors : FnScope ["_law_a", "_law_found"] ["_law_a"] (defScope s__law_named_errors) := ⟨rfl, rfl, rfl, by decide +kernel, rfl, by decide +kernel, by decide +kernel⟩
theorem sc_law : FnScope ["_law_script", "_law_bag_here", "_law_a", "_law_made", "_law_codes_here", "_law_k", "_law_e", "_law_named", "_law_j"] ["_law_script"] (defScope s_law) := ⟨rfl, rfl, rfl, by decide +kernel, rfl, by decide +kernel, by decide +kernel⟩
theorem et_InvalidName : errTxtB s_InvalidName___init__ (some "given") = true := by decide +kernel
theorem ebd_InvalidName : errBody "InvalidName" (some "given") (defBody s_InvalidName___init__) := ⟨_, _, _, _, _, _, _, _, _, _, _, _, _, _, rfl, rfl, _, _, _, _, rfl, by decide, by decide⟩
theorem et_InvalidScheme : errTxtB s_InvalidScheme___init__ (some "at") = true := by decide +kernel
theorem ebd_InvalidScheme : errBody "InvalidScheme" (some "at") (defBody s_InvalidScheme___init__) := ⟨_, _, _, _, _, _, _, _, _, _, _, _, _, _, rfl, rfl, _, _, _, _, rfl, by decide, by decide⟩
theorem et_InvalidRow : errTxtB s_InvalidRow___init__ (some "at") = true := by decide +kernel
theorem ebd_InvalidRow : errBody "InvalidRow" (some "at") (defBody s_InvalidRow___init__) := ⟨_, _, _, _, _, _, _, _, _, _, _, _, _, _, rfl, rfl, _, _, _, _, rfl, by decide, by decide⟩
theorem et_InvalidLoose : errTxtB s_InvalidLoose___init__ (some "at") = true := by decide +kernel
theorem ebd_InvalidLoose : errBody "InvalidLoose" (some "at") (defBody s_InvalidLoose___init__) := ⟨_, _, _, _, _, _, _, _, _, _, _, _, _, _, rfl, rfl, _, _, _, _, rfl, by decide, by decide⟩
theorem et_InvalidVariables : errTxtB s_InvalidVariables___init__ (some "given") = true := by decide +kernel
theorem ebd_InvalidVariables : errBody "InvalidVariables" (some "given") (defBody s_InvalidVariables___init__) := ⟨_, _, _, _, _, _, _, _, _, _, _, _, _, _, rfl, rfl, _, _, _, _, rfl, by decide, by decide⟩
theorem et_InvalidPart : errTxtB s_InvalidPart___init__ (some "at") = true := by decide +kernel
theorem ebd_InvalidPart : errBody "InvalidPart" (some "at") (defBody s_InvalidPart___init__) := ⟨_, _, _, _, _, _, _, _, _, _, _, _, _, _, rfl, rfl, _, _, _, _, rfl, by decide, by decide⟩
theorem et_InvalidFormula : errTxtB s_InvalidFormula___init__ (some "given") = true := by decide +kernel
theorem ebd_InvalidFormula : errBody "InvalidFormula" (some "given") (defBody s_InvalidFormula___init__) := ⟨_, _, _, _, _, _, _, _, _, _, _, _, _, _, rfl, rfl, _, _, _, _, rfl, by decide, by decide⟩
theorem et_InvalidColumns : errTxtB s_InvalidColumns___init__ (some "given") = true := by decide +kernel
theorem ebd_InvalidColumns : errBody "InvalidColumns" (some "given") (defBody s_InvalidColumns___init__) := ⟨_, _, _, _, _, _, _, _, _, _, _, _, _, _, rfl, rfl, _, _, _, _, rfl, by decide, by decide⟩
theorem et_InvalidAnswer : errTxtB s_InvalidAnswer___init__ (some "given") = true := by decide +kernel
theorem ebd_InvalidAnswer : errBody "InvalidAnswer" (some "given") (defBody s_InvalidAnswer___init__) := ⟨_, _, _, _, _, _, _, _, _, _, _, _, _, _, rfl, rfl, _, _, _, _, rfl, by decide, by decide⟩
theorem et_InvalidTruths : errTxtB s_InvalidTruths___init__ (some "given") = true := by decide +kernel
theorem ebd_InvalidTruths : errBody "InvalidTruths" (some "given") (defBody s_InvalidTruths___init__) := ⟨_, _, _, _, _, _, _, _, _, _, _, _, _, _, rfl, rfl, _, _, _, _, rfl, by decide, by decide⟩
theorem et_InvalidFilling : errTxtB s_InvalidFilling___init__ (some "given") = true := by decide +kernel
theorem ebd_InvalidFilling : errBody "InvalidFilling" (some "given") (defBody s_InvalidFilling___init__) := ⟨_, _, _, _, _, _, _, _, _, _, _, _, _, _, rfl, rfl, _, _, _, _, rfl, by decide, by decide⟩
theorem et_InvalidMeaning : errTxtB s_InvalidMeaning___init__ (some "given") = true := by decide +kernel
theorem ebd_InvalidMeaning : errBody "InvalidMeaning" (some "given") (defBody s_InvalidMeaning___init__) := ⟨_, _, _, _, _, _, _, _, _, _, _, _, _, _, rfl, rfl, _, _, _, _, rfl, by decide, by decide⟩
theorem et_InvalidText : errTxtB s_InvalidText___init__ (some "at") = true := by decide +kernel
theorem ebd_InvalidText : errBody "InvalidText" (some "at") (defBody s_InvalidText___init__) := ⟨_, _, _, _, _, _, _, _, _, _, _, _, _, _, rfl, rfl, _, _, _, _, rfl, by decide, by decide⟩
theorem et_InvalidCommand : errTxtB s_InvalidCommand___init__ (some "at") = true := by decide +kernel
theorem ebd_InvalidCommand : errBody "InvalidCommand" (some "at") (defBody s_InvalidCommand___init__) := ⟨_, _, _, _, _, _, _, _, _, _, _, _, _, _, rfl, rfl, _, _, _, _, rfl, by decide, by decide⟩
theorem et_InvalidLimit : errTxtB s_InvalidLimit___init__ (some "given") = true := by decide +kernel
theorem ebd_InvalidLimit : errBody "InvalidLimit" (some "given") (defBody s_InvalidLimit___init__) := ⟨_, _, _, _, _, _, _, _, _, _, _, _, _, _, rfl, rfl, _, _, _, _, rfl, by decide, by decide⟩
theorem et_InvalidPage : errTxtB s_InvalidPage___init__ (some "line") = true := by decide +kernel
theorem ebd_InvalidPage : errBody "InvalidPage" (some "line") (defBody s_InvalidPage___init__) := ⟨_, _, _, _, _, _, _, _, _, _, _, _, _, _, rfl, rfl, _, _, _, _, rfl, by decide, by decide⟩
theorem et_OtherScheme : errTxtB s_OtherScheme___init__ none = true := by decide +kernel
theorem ebd_OtherScheme : errBody "OtherScheme" none (defBody s_OtherScheme___init__) := ⟨_, _, _, _, _, _, _, _, _, _, _, _, _, _, rfl, rfl, rfl⟩
theorem et_OtherColumns : errTxtB s_OtherColumns___init__ none = true := by decide +kernel
theorem ebd_OtherColumns : errBody "OtherColumns" none (defBody s_OtherColumns___init__) := ⟨_, _, _, _, _, _, _, _, _, _, _, _, _, _, rfl, rfl, rfl⟩
theorem et_HasColumns : errTxtB s_HasColumns___init__ none = true := by decide +kernel
theorem ebd_HasColumns : errBody "HasColumns" none (defBody s_HasColumns___init__) := ⟨_, _, _, _, _, _, _, _, _, _, _, _, _, _, rfl, rfl, rfl⟩
theorem et_NotSafe : errTxtB s_NotSafe___init__ none = true := by decide +kernel
theorem ebd_NotSafe : errBody "NotSafe" none (defBody s_NotSafe___init__) := ⟨_, _, _, _, _, _, _, _, _, _, _, _, _, _, rfl, rfl, rfl⟩
theorem et_TooMany : errTxtB s_TooMany___init__ (some "most") = true := by decide +kernel
theorem ebd_TooMany : errBody "TooMany" (some "most") (defBody s_TooMany___init__) := ⟨_, _, _, _, _, _, _, _, _, _, _, _, _, _, rfl, rfl, _, _, _, _, rfl, by decide, by decide⟩
theorem et_Full : errTxtB s_Full___init__ (some "limit") = true := by decide +kernel
theorem ebd_Full : errBody "Full" (some "limit") (defBody s_Full___init__) := ⟨_, _, _, _, _, _, _, _, _, _, _, _, _, _, rfl, rfl, _, _, _, _, rfl, by decide, by decide⟩
theorem et_UnknownName : errTxtB s_UnknownName___init__ (some "name") = true := by decide +kernel
theorem ebd_UnknownName : errBody "UnknownName" (some "name") (defBody s_UnknownName___init__) := ⟨_, _, _, _, _, _, _, _, _, _, _, _, _, _, rfl, rfl, _, _, _, _, rfl, by decide, by decide⟩
theorem et_UnknownRow : errTxtB s_UnknownRow___init__ (some "row") = true := by decide +kernel
theorem ebd_UnknownRow : errBody "UnknownRow" (some "row") (defBody s_UnknownRow___init__) := ⟨_, _, _, _, _, _, _, _, _, _, _, _, _, _, rfl, rfl, _, _, _, _, rfl, by decide, by decide⟩
theorem et_UnknownValue : errTxtB s_UnknownValue___init__ (some "given") = true := by decide +kernel
theorem ebd_UnknownValue : errBody "UnknownValue" (some "given") (defBody s_UnknownValue___init__) := ⟨_, _, _, _, _, _, _, _, _, _, _, _, _, _, rfl, rfl, _, _, _, _, rfl, by decide, by decide⟩
theorem et_NothingLeft : errTxtB s_NothingLeft___init__ none = true := by decide +kernel
theorem ebd_NothingLeft : errBody "NothingLeft" none (defBody s_NothingLeft___init__) := ⟨_, _, _, _, _, _, _, _, _, _, _, _, _, _, rfl, rfl, rfl⟩
abbrev lamd (i : Nat) : LamD := lamAt (defBody s_law) [] [] none
structure Tp (P : Program) (w : World) (K : PySem.W.Frag) (mg : Str → Option Value) (base : Heap) where
  C : Nat → Addr
  z : Nat → Xt
  ef_InvalidName : Addr
  efd_InvalidName : FuncData
  er_InvalidName : ErrD P K mg (C 2) "InvalidName" (some "given") ef_InvalidName efd_InvalidName
  ei_InvalidName : PySem.W.findIn K (.ref (C 2)) "__init__" = some (some (.ref ef_InvalidName))
  et_InvalidName : PySem.W.typeIn K (.ref ef_InvalidName) = some (.type "function")
  eb_InvalidName : Binds K efd_InvalidName (errPs (some "given")) []
  ek_InvalidName : Bd K efd_InvalidName (errPs (some "given")) 1 ["given"] [0, 1] []
  ef_InvalidScheme : Addr
  efd_InvalidScheme : FuncData
  er_InvalidScheme : ErrD P K mg (C 3) "InvalidScheme" (some "at") ef_InvalidScheme efd_InvalidScheme
  ei_InvalidScheme : PySem.W.findIn K (.ref (C 3)) "__init__" = some (some (.ref ef_InvalidScheme))
  et_InvalidScheme : PySem.W.typeIn K (.ref ef_InvalidScheme) = some (.type "function")
  eb_InvalidScheme : Binds K efd_InvalidScheme (errPs (some "at")) []
  ek_InvalidScheme : Bd K efd_InvalidScheme (errPs (some "at")) 1 ["at"] [0, 1] []
  ef_InvalidRow : Addr
  efd_InvalidRow : FuncData
  er_InvalidRow : ErrD P K mg (C 4) "InvalidRow" (some "at") ef_InvalidRow efd_InvalidRow
  ei_InvalidRow : PySem.W.findIn K (.ref (C 4)) "__init__" = some (some (.ref ef_InvalidRow))
  et_InvalidRow : PySem.W.typeIn K (.ref ef_InvalidRow) = some (.type "function")
  eb_InvalidRow : Binds K efd_InvalidRow (errPs (some "at")) []
  ek_InvalidRow : Bd K efd_InvalidRow (errPs (some "at")) 1 ["at"] [0, 1] []
  ef_InvalidLoose : Addr
  efd_InvalidLoose : FuncData
  er_InvalidLoose : ErrD P K mg (C 5) "InvalidLoose" (some "at") ef_InvalidLoose efd_InvalidLoose
  ei_InvalidLoose : PySem.W.findIn K (.ref (C 5)) "__init__" = some (some (.ref ef_InvalidLoose))
  et_InvalidLoose : PySem.W.typeIn K (.ref ef_InvalidLoose) = some (.type "function")
  eb_InvalidLoose : Binds K efd_InvalidLoose (errPs (some "at")) []
  ek_InvalidLoose : Bd K efd_InvalidLoose (errPs (some "at")) 1 ["at"] [0, 1] []
  ef_InvalidVariables : Addr
  efd_InvalidVariables : FuncData
  er_InvalidVariables : ErrD P K mg (C 6) "InvalidVariables" (some "given") ef_InvalidVariables efd_InvalidVariables
  ei_InvalidVariables : PySem.W.findIn K (.ref (C 6)) "__init__" = some (some (.ref ef_InvalidVariables))
  et_InvalidVariables : PySem.W.typeIn K (.ref ef_InvalidVariables) = some (.type "function")
  eb_InvalidVariables : Binds K efd_InvalidVariables (errPs (some "given")) []
  ek_InvalidVariables : Bd K efd_InvalidVariables (errPs (some "given")) 1 ["given"] [0, 1] []
  ef_InvalidPart : Addr
  efd_InvalidPart : FuncData
  er_InvalidPart : ErrD P K mg (C 7) "InvalidPart" (some "at") ef_InvalidPart efd_InvalidPart
  ei_InvalidPart : PySem.W.findIn K (.ref (C 7)) "__init__" = some (some (.ref ef_InvalidPart))
  et_InvalidPart : PySem.W.typeIn K (.ref ef_InvalidPart) = some (.type "function")
  eb_InvalidPart : Binds K efd_InvalidPart (errPs (some "at")) []
  ek_InvalidPart : Bd K efd_InvalidPart (errPs (some "at")) 1 ["at"] [0, 1] []
  ef_InvalidFormula : Addr
  efd_InvalidFormula : FuncData
  er_InvalidFormula : ErrD P K mg (C 8) "InvalidFormula" (some "given") ef_InvalidFormula efd_InvalidFormula
  ei_InvalidFormula : PySem.W.findIn K (.ref (C 8)) "__init__" = some (some (.ref ef_InvalidFormula))
  et_InvalidFormula : PySem.W.typeIn K (.ref ef_InvalidFormula) = some (.type "function")
  eb_InvalidFormula : Binds K efd_InvalidFormula (errPs (some "given")) []
  ek_InvalidFormula : Bd K efd_InvalidFormula (errPs (some "given")) 1 ["given"] [0, 1] []
  ef_InvalidColumns : Addr
  efd_InvalidColumns : FuncData
  er_InvalidColumns : ErrD P K mg (C 9) "InvalidColumns" (some "given") ef_InvalidColumns efd_InvalidColumns
  ei_InvalidColumns : PySem.W.findIn K (.ref (C 9)) "__init__" = some (some (.ref ef_InvalidColumns))
  et_InvalidColumns : PySem.W.typeIn K (.ref ef_InvalidColumns) = some (.type "function")
  eb_InvalidColumns : Binds K efd_InvalidColumns (errPs (some "given")) []
  ek_InvalidColumns : Bd K efd_InvalidColumns (errPs (some "given")) 1 ["given"] [0, 1] []
  ef_InvalidAnswer : Addr
  efd_InvalidAnswer : FuncData
  er_InvalidAnswer : ErrD P K mg (C 10) "InvalidAnswer" (some "given") ef_InvalidAnswer efd_InvalidAnswer
  ei_InvalidAnswer : PySem.W.findIn K (.ref (C 10)) "__init__" = some (some (.ref ef_InvalidAnswer))
  et_InvalidAnswer : PySem.W.typeIn K (.ref ef_InvalidAnswer) = some (.type "function")
  eb_InvalidAnswer : Binds K efd_InvalidAnswer (errPs (some "given")) []
  ek_InvalidAnswer : Bd K efd_InvalidAnswer (errPs (some "given")) 1 ["given"] [0, 1] []
  ef_InvalidTruths : Addr
  efd_InvalidTruths : FuncData
  er_InvalidTruths : ErrD P K mg (C 11) "InvalidTruths" (some "given") ef_InvalidTruths efd_InvalidTruths
  ei_InvalidTruths : PySem.W.findIn K (.ref (C 11)) "__init__" = some (some (.ref ef_InvalidTruths))
  et_InvalidTruths : PySem.W.typeIn K (.ref ef_InvalidTruths) = some (.type "function")
  eb_InvalidTruths : Binds K efd_InvalidTruths (errPs (some "given")) []
  ek_InvalidTruths : Bd K efd_InvalidTruths (errPs (some "given")) 1 ["given"] [0, 1] []
  ef_InvalidFilling : Addr
  efd_InvalidFilling : FuncData
  er_InvalidFilling : ErrD P K mg (C 12) "InvalidFilling" (some "given") ef_InvalidFilling efd_InvalidFilling
  ei_InvalidFilling : PySem.W.findIn K (.ref (C 12)) "__init__" = some (some (.ref ef_InvalidFilling))
  et_InvalidFilling : PySem.W.typeIn K (.ref ef_InvalidFilling) = some (.type "function")
  eb_InvalidFilling : Binds K efd_InvalidFilling (errPs (some "given")) []
  ek_InvalidFilling : Bd K efd_InvalidFilling (errPs (some "given")) 1 ["given"] [0, 1] []
  ef_InvalidMeaning : Addr
  efd_InvalidMeaning : FuncData
  er_InvalidMeaning : ErrD P K mg (C 13) "InvalidMeaning" (some "given") ef_InvalidMeaning efd_InvalidMeaning
  ei_InvalidMeaning : PySem.W.findIn K (.ref (C 13)) "__init__" = some (some (.ref ef_InvalidMeaning))
  et_InvalidMeaning : PySem.W.typeIn K (.ref ef_InvalidMeaning) = some (.type "function")
  eb_InvalidMeaning : Binds K efd_InvalidMeaning (errPs (some "given")) []
  ek_InvalidMeaning : Bd K efd_InvalidMeaning (errPs (some "given")) 1 ["given"] [0, 1] []
  ef_InvalidText : Addr
  efd_InvalidText : FuncData
  er_InvalidText : ErrD P K mg (C 14) "InvalidText" (some "at") ef_InvalidText efd_InvalidText
  ei_InvalidText : PySem.W.findIn K (.ref (C 14)) "__init__" = some (some (.ref ef_InvalidText))
  et_InvalidText : PySem.W.typeIn K (.ref ef_InvalidText) = some (.type "function")
  eb_InvalidText : Binds K efd_InvalidText (errPs (some "at")) []
  ek_InvalidText : Bd K efd_InvalidText (errPs (some "at")) 1 ["at"] [0, 1] []
  ef_InvalidCommand : Addr
  efd_InvalidCommand : FuncData
  er_InvalidCommand : ErrD P K mg (C 15) "InvalidCommand" (some "at") ef_InvalidCommand efd_InvalidCommand
  ei_InvalidCommand : PySem.W.findIn K (.ref (C 15)) "__init__" = some (some (.ref ef_InvalidCommand))
  et_InvalidCommand : PySem.W.typeIn K (.ref ef_InvalidCommand) = some (.type "function")
  eb_InvalidCommand : Binds K efd_InvalidCommand (errPs (some "at")) []
  ek_InvalidCommand : Bd K efd_InvalidCommand (errPs (some "at")) 1 ["at"] [0, 1] []
  ef_InvalidLimit : Addr
  efd_InvalidLimit : FuncData
  er_InvalidLimit : ErrD P K mg (C 16) "InvalidLimit" (some "given") ef_InvalidLimit efd_InvalidLimit
  ei_InvalidLimit : PySem.W.findIn K (.ref (C 16)) "__init__" = some (some (.ref ef_InvalidLimit))
  et_InvalidLimit : PySem.W.typeIn K (.ref ef_InvalidLimit) = some (.type "function")
  eb_InvalidLimit : Binds K efd_InvalidLimit (errPs (some "given")) []
  ek_InvalidLimit : Bd K efd_InvalidLimit (errPs (some "given")) 1 ["given"] [0, 1] []
  ef_InvalidPage : Addr
  efd_InvalidPage : FuncData
  er_InvalidPage : ErrD P K mg (C 17) "InvalidPage" (some "line") ef_InvalidPage efd_InvalidPage
  ei_InvalidPage : PySem.W.findIn K (.ref (C 17)) "__init__" = some (some (.ref ef_InvalidPage))
  et_InvalidPage : PySem.W.typeIn K (.ref ef_InvalidPage) = some (.type "function")
  eb_InvalidPage : Binds K efd_InvalidPage (errPs (some "line")) []
  ek_InvalidPage : Bd K efd_InvalidPage (errPs (some "line")) 1 ["line"] [0, 1] []
  ef_OtherScheme : Addr
  efd_OtherScheme : FuncData
  er_OtherScheme : ErrD P K mg (C 18) "OtherScheme" none ef_OtherScheme efd_OtherScheme
  ei_OtherScheme : PySem.W.findIn K (.ref (C 18)) "__init__" = some (some (.ref ef_OtherScheme))
  et_OtherScheme : PySem.W.typeIn K (.ref ef_OtherScheme) = some (.type "function")
  eb_OtherScheme : Binds K efd_OtherScheme (errPs none) []
  ef_OtherColumns : Addr
  efd_OtherColumns : FuncData
  er_OtherColumns : ErrD P K mg (C 19) "OtherColumns" none ef_OtherColumns efd_OtherColumns
  ei_OtherColumns : PySem.W.findIn K (.ref (C 19)) "__init__" = some (some (.ref ef_OtherColumns))
  et_OtherColumns : PySem.W.typeIn K (.ref ef_OtherColumns) = some (.type "function")
  eb_OtherColumns : Binds K efd_OtherColumns (errPs none) []
  ef_HasColumns : Addr
  efd_HasColumns : FuncData
  er_HasColumns : ErrD P K mg (C 20) "HasColumns" none ef_HasColumns efd_HasColumns
  ei_HasColumns : PySem.W.findIn K (.ref (C 20)) "__init__" = some (some (.ref ef_HasColumns))
  et_HasColumns : PySem.W.typeIn K (.ref ef_HasColumns) = some (.type "function")
  eb_HasColumns : Binds K efd_HasColumns (errPs none) []
  ef_NotSafe : Addr
  efd_NotSafe : FuncData
  er_NotSafe : ErrD P K mg (C 21) "NotSafe" none ef_NotSafe efd_NotSafe
  ei_NotSafe : PySem.W.findIn K (.ref (C 21)) "__init__" = some (some (.ref ef_NotSafe))
  et_NotSafe : PySem.W.typeIn K (.ref ef_NotSafe) = some (.type "function")
  eb_NotSafe : Binds K efd_NotSafe (errPs none) []
  ef_TooMany : Addr
  efd_TooMany : FuncData
  er_TooMany : ErrD P K mg (C 22) "TooMany" (some "most") ef_TooMany efd_TooMany
  ei_TooMany : PySem.W.findIn K (.ref (C 22)) "__init__" = some (some (.ref ef_TooMany))
  et_TooMany : PySem.W.typeIn K (.ref ef_TooMany) = some (.type "function")
  eb_TooMany : Binds K efd_TooMany (errPs (some "most")) []
  ek_TooMany : Bd K efd_TooMany (errPs (some "most")) 1 ["most"] [0, 1] []
  ef_Full : Addr
  efd_Full : FuncData
  er_Full : ErrD P K mg (C 23) "Full" (some "limit") ef_Full efd_Full
  ei_Full : PySem.W.findIn K (.ref (C 23)) "__init__" = some (some (.ref ef_Full))
  et_Full : PySem.W.typeIn K (.ref ef_Full) = some (.type "function")
  eb_Full : Binds K efd_Full (errPs (some "limit")) []
  ek_Full : Bd K efd_Full (errPs (some "limit")) 1 ["limit"] [0, 1] []
  ef_UnknownName : Addr
  efd_UnknownName : FuncData
  er_UnknownName : ErrD P K mg (C 24) "UnknownName" (some "name") ef_UnknownName efd_UnknownName
  ei_UnknownName : PySem.W.findIn K (.ref (C 24)) "__init__" = some (some (.ref ef_UnknownName))
  et_UnknownName : PySem.W.typeIn K (.ref ef_UnknownName) = some (.type "function")
  eb_UnknownName : Binds K efd_UnknownName (errPs (some "name")) []
  ek_UnknownName : Bd K efd_UnknownName (errPs (some "name")) 1 ["name"] [0, 1] []
  ef_UnknownRow : Addr
  efd_UnknownRow : FuncData
  er_UnknownRow : ErrD P K mg (C 25) "UnknownRow" (some "row") ef_UnknownRow efd_UnknownRow
  ei_UnknownRow : PySem.W.findIn K (.ref (C 25)) "__init__" = some (some (.ref ef_UnknownRow))
  et_UnknownRow : PySem.W.typeIn K (.ref ef_UnknownRow) = some (.type "function")
  eb_UnknownRow : Binds K efd_UnknownRow (errPs (some "row")) []
  ek_UnknownRow : Bd K efd_UnknownRow (errPs (some "row")) 1 ["row"] [0, 1] []
  ef_UnknownValue : Addr
  efd_UnknownValue : FuncData
  er_UnknownValue : ErrD P K mg (C 26) "UnknownValue" (some "given") ef_UnknownValue efd_UnknownValue
  ei_UnknownValue : PySem.W.findIn K (.ref (C 26)) "__init__" = some (some (.ref ef_UnknownValue))
  et_UnknownValue : PySem.W.typeIn K (.ref ef_UnknownValue) = some (.type "function")
  eb_UnknownValue : Binds K efd_UnknownValue (errPs (some "given")) []
  ek_UnknownValue : Bd K efd_UnknownValue (errPs (some "given")) 1 ["given"] [0, 1] []
  ef_NothingLeft : Addr
  efd_NothingLeft : FuncData
  er_NothingLeft : ErrD P K mg (C 27) "NothingLeft" none ef_NothingLeft efd_NothingLeft
  ei_NothingLeft : PySem.W.findIn K (.ref (C 27)) "__init__" = some (some (.ref ef_NothingLeft))
  et_NothingLeft : PySem.W.typeIn K (.ref ef_NothingLeft) = some (.type "function")
  eb_NothingLeft : Binds K efd_NothingLeft (errPs none) []
  f__law_bag : Addr
  fd__law_bag : FuncData
  F__law_bag : Fun K "_law_bag" "_law_bag" s__law_bag f__law_bag fd__law_bag
  m__law_bag : mg "_law_bag" = some (.ref f__law_bag)
  f__law_draw : Addr
  fd__law_draw : FuncData
  F__law_draw : Fun K "_law_draw" "_law_draw" s__law_draw f__law_draw fd__law_draw
  m__law_draw : mg "_law_draw" = some (.ref f__law_draw)
  f__law_of : Addr
  fd__law_of : FuncData
  F__law_of : Fun K "_law_of" "_law_of" s__law_of f__law_of fd__law_of
  m__law_of : mg "_law_of" = some (.ref f__law_of)
  f__law_errors : Addr
  fd__law_errors : FuncData
  F__law_errors : Fun K "_law_errors" "_law_errors" s__law_errors f__law_errors fd__law_errors
  m__law_errors : mg "_law_errors" = some (.ref f__law_errors)
  f__law_codes : Addr
  fd__law_codes : FuncData
  F__law_codes : Fun K "_law_codes" "_law_codes" s__law_codes f__law_codes fd__law_codes
  m__law_codes : mg "_law_codes" = some (.ref f__law_codes)
  f__law_same : Addr
  fd__law_same : FuncData
  F__law_same : Fun K "_law_same" "_law_same" s__law_same f__law_same fd__law_same
  m__law_same : mg "_law_same" = some (.ref f__law_same)
  f__law_field : Addr
  fd__law_field : FuncData
  F__law_field : Fun K "_law_field" "_law_field" s__law_field f__law_field fd__law_field
  m__law_field : mg "_law_field" = some (.ref f__law_field)
  f__law_classes : Addr
  fd__law_classes : FuncData
  F__law_classes : Fun K "_law_classes" "_law_classes" s__law_classes f__law_classes fd__law_classes
  m__law_classes : mg "_law_classes" = some (.ref f__law_classes)
  f__law_named_errors : Addr
  fd__law_named_errors : FuncData
  F__law_named_errors : Fun K "_law_named_errors" "_law_named_errors" s__law_named_errors f__law_named_errors fd__law_named_errors
  m__law_named_errors : mg "_law_named_errors" = some (.ref f__law_named_errors)
  f_law : Addr
  fd_law : FuncData
  F_law : Fun K "law" "law" s_law f_law fd_law
  m_law : mg "law" = some (.ref f_law)
  z_len : mg "len" = none
  z_range : mg "range" = none
  z_isinstance : mg "isinstance" = none
  z_ValueError : mg "ValueError" = none
  z_LookupError : mg "LookupError" = none
  z_IndexError : mg "IndexError" = none
  z_list : mg "list" = none
  z_tuple : mg "tuple" = none
  z_zip : mg "zip" = none
  z_all : mg "all" = none
  z_bool : mg "bool" = none
  z_int : mg "int" = none
  z_str : mg "str" = none
  xb_NothingLeft : XfC K (C 27)
  xn_NothingLeft_code : PySem.W.findIn K (.ref (C 27)) "code" = some none
  xb_UnknownValue : XfC K (C 26)
  xn_UnknownValue_code : PySem.W.findIn K (.ref (C 26)) "code" = some none
  xb_UnknownRow : XfC K (C 25)
  xn_UnknownRow_code : PySem.W.findIn K (.ref (C 25)) "code" = some none
  xb_UnknownName : XfC K (C 24)
  xn_UnknownName_code : PySem.W.findIn K (.ref (C 24)) "code" = some none
  xb_Full : XfC K (C 23)
  xn_Full_code : PySem.W.findIn K (.ref (C 23)) "code" = some none
  xb_TooMany : XfC K (C 22)
  xn_TooMany_code : PySem.W.findIn K (.ref (C 22)) "code" = some none
  xb_NotSafe : XfC K (C 21)
  xn_NotSafe_code : PySem.W.findIn K (.ref (C 21)) "code" = some none
  xb_HasColumns : XfC K (C 20)
  xn_HasColumns_code : PySem.W.findIn K (.ref (C 20)) "code" = some none
  xb_OtherColumns : XfC K (C 19)
  xn_OtherColumns_code : PySem.W.findIn K (.ref (C 19)) "code" = some none
  xb_OtherScheme : XfC K (C 18)
  xn_OtherScheme_code : PySem.W.findIn K (.ref (C 18)) "code" = some none
  xb_InvalidPage : XfC K (C 17)
  xn_InvalidPage_code : PySem.W.findIn K (.ref (C 17)) "code" = some none
  xb_InvalidLimit : XfC K (C 16)
  xn_InvalidLimit_code : PySem.W.findIn K (.ref (C 16)) "code" = some none
  xb_InvalidCommand : XfC K (C 15)
  xn_InvalidCommand_code : PySem.W.findIn K (.ref (C 15)) "code" = some none
  xb_InvalidText : XfC K (C 14)
  xn_InvalidText_code : PySem.W.findIn K (.ref (C 14)) "code" = some none
  xb_InvalidMeaning : XfC K (C 13)
  xn_InvalidMeaning_code : PySem.W.findIn K (.ref (C 13)) "code" = some none
  xb_InvalidFilling : XfC K (C 12)
  xn_InvalidFilling_code : PySem.W.findIn K (.ref (C 12)) "code" = some none
  xb_InvalidTruths : XfC K (C 11)
  xn_InvalidTruths_code : PySem.W.findIn K (.ref (C 11)) "code" = some none
  xb_InvalidAnswer : XfC K (C 10)
  xn_InvalidAnswer_code : PySem.W.findIn K (.ref (C 10)) "code" = some none
  xb_InvalidColumns : XfC K (C 9)
  xn_InvalidColumns_code : PySem.W.findIn K (.ref (C 9)) "code" = some none
  xb_InvalidFormula : XfC K (C 8)
  xn_InvalidFormula_code : PySem.W.findIn K (.ref (C 8)) "code" = some none
  xb_InvalidPart : XfC K (C 7)
  xn_InvalidPart_code : PySem.W.findIn K (.ref (C 7)) "code" = some none
  xb_InvalidVariables : XfC K (C 6)
  xn_InvalidVariables_code : PySem.W.findIn K (.ref (C 6)) "code" = some none
  xb_InvalidLoose : XfC K (C 5)
  xn_InvalidLoose_code : PySem.W.findIn K (.ref (C 5)) "code" = some none
  xb_InvalidRow : XfC K (C 4)
  xn_InvalidRow_code : PySem.W.findIn K (.ref (C 4)) "code" = some none
  xb_InvalidScheme : XfC K (C 3)
  xn_InvalidScheme_code : PySem.W.findIn K (.ref (C 3)) "code" = some none
  xb_InvalidName : XfC K (C 2)
  xn_InvalidName_code : PySem.W.findIn K (.ref (C 2)) "code" = some none
  esl_ : HP.esL K [(C 2), (C 3), (C 4), (C 5), (C 6), (C 7), (C 8), (C 9), (C 10), (C 11), (C 12), (C 13), (C 14), (C 15), (C 16), (C 17), (C 18), (C 19), (C 20), (C 21), (C 22), (C 23), (C 24), (C 25), (C 26), (C 27)] = true
  kil_SureError : HP.kiL K (.ref (C 0)) [((C 2), true), ((C 3), true), ((C 4), true), ((C 5), true), ((C 6), true), ((C 7), true), ((C 8), true), ((C 9), true), ((C 10), true), ((C 11), true), ((C 12), true), ((C 13), true), ((C 14), true), ((C 15), true), ((C 16), true), ((C 17), true), ((C 18), true), ((C 19), true), ((C 20), true), ((C 21), true), ((C 22), true), ((C 23), true), ((C 24), false), ((C 25), false), ((C 26), false), ((C 27), false)] = true
  mC_SureError : mg "SureError" = some (.ref (C 0))
  kil_ValueError : HP.kiL K (.type "ValueError") [((C 2), true), ((C 3), true), ((C 4), true), ((C 5), true), ((C 6), true), ((C 7), true), ((C 8), true), ((C 9), true), ((C 10), true), ((C 11), true), ((C 12), true), ((C 13), true), ((C 14), true), ((C 15), true), ((C 16), true), ((C 17), true), ((C 18), true), ((C 19), true), ((C 20), true), ((C 21), true), ((C 22), true), ((C 23), true), ((C 24), false), ((C 25), false), ((C 26), false), ((C 27), false)] = true
  kil_Missing : HP.kiL K (.ref (C 1)) [((C 2), false), ((C 3), false), ((C 4), false), ((C 5), false), ((C 6), false), ((C 7), false), ((C 8), false), ((C 9), false), ((C 10), false), ((C 11), false), ((C 12), false), ((C 13), false), ((C 14), false), ((C 15), false), ((C 16), false), ((C 17), false), ((C 18), false), ((C 19), false), ((C 20), false), ((C 21), false), ((C 22), false), ((C 23), false), ((C 24), true), ((C 25), true), ((C 26), true), ((C 27), false)] = true
  mC_Missing : mg "Missing" = some (.ref (C 1))
  kil_LookupError : HP.kiL K (.type "LookupError") [((C 2), false), ((C 3), false), ((C 4), false), ((C 5), false), ((C 6), false), ((C 7), false), ((C 8), false), ((C 9), false), ((C 10), false), ((C 11), false), ((C 12), false), ((C 13), false), ((C 14), false), ((C 15), false), ((C 16), false), ((C 17), false), ((C 18), false), ((C 19), false), ((C 20), false), ((C 21), false), ((C 22), false), ((C 23), false), ((C 24), true), ((C 25), true), ((C 26), true), ((C 27), true)] = true
  kil_IndexError : HP.kiL K (.type "IndexError") [((C 2), false), ((C 3), false), ((C 4), false), ((C 5), false), ((C 6), false), ((C 7), false), ((C 8), false), ((C 9), false), ((C 10), false), ((C 11), false), ((C 12), false), ((C 13), false), ((C 14), false), ((C 15), false), ((C 16), false), ((C 17), false), ((C 18), false), ((C 19), false), ((C 20), false), ((C 21), false), ((C 22), false), ((C 23), false), ((C 24), false), ((C 25), false), ((C 26), false), ((C 27), true)] = true
  mC_InvalidName : mg "InvalidName" = some (.ref (C 2))
  kC_InvalidName : PySem.W.keepIn K (.ref (C 2)) = true
  mC_InvalidScheme : mg "InvalidScheme" = some (.ref (C 3))
  kC_InvalidScheme : PySem.W.keepIn K (.ref (C 3)) = true
  mC_InvalidRow : mg "InvalidRow" = some (.ref (C 4))
  kC_InvalidRow : PySem.W.keepIn K (.ref (C 4)) = true
  mC_InvalidLoose : mg "InvalidLoose" = some (.ref (C 5))
  kC_InvalidLoose : PySem.W.keepIn K (.ref (C 5)) = true
  mC_InvalidVariables : mg "InvalidVariables" = some (.ref (C 6))
  kC_InvalidVariables : PySem.W.keepIn K (.ref (C 6)) = true
  mC_InvalidPart : mg "InvalidPart" = some (.ref (C 7))
  kC_InvalidPart : PySem.W.keepIn K (.ref (C 7)) = true
  mC_InvalidFormula : mg "InvalidFormula" = some (.ref (C 8))
  kC_InvalidFormula : PySem.W.keepIn K (.ref (C 8)) = true
  mC_InvalidColumns : mg "InvalidColumns" = some (.ref (C 9))
  kC_InvalidColumns : PySem.W.keepIn K (.ref (C 9)) = true
  mC_InvalidAnswer : mg "InvalidAnswer" = some (.ref (C 10))
  kC_InvalidAnswer : PySem.W.keepIn K (.ref (C 10)) = true
  mC_InvalidTruths : mg "InvalidTruths" = some (.ref (C 11))
  kC_InvalidTruths : PySem.W.keepIn K (.ref (C 11)) = true
  mC_InvalidFilling : mg "InvalidFilling" = some (.ref (C 12))
  kC_InvalidFilling : PySem.W.keepIn K (.ref (C 12)) = true
  mC_InvalidMeaning : mg "InvalidMeaning" = some (.ref (C 13))
  kC_InvalidMeaning : PySem.W.keepIn K (.ref (C 13)) = true
  mC_InvalidText : mg "InvalidText" = some (.ref (C 14))
  kC_InvalidText : PySem.W.keepIn K (.ref (C 14)) = true
  mC_InvalidCommand : mg "InvalidCommand" = some (.ref (C 15))
  kC_InvalidCommand : PySem.W.keepIn K (.ref (C 15)) = true
  mC_InvalidLimit : mg "InvalidLimit" = some (.ref (C 16))
  kC_InvalidLimit : PySem.W.keepIn K (.ref (C 16)) = true
  mC_InvalidPage : mg "InvalidPage" = some (.ref (C 17))
  kC_InvalidPage : PySem.W.keepIn K (.ref (C 17)) = true
  mC_OtherScheme : mg "OtherScheme" = some (.ref (C 18))
  kC_OtherScheme : PySem.W.keepIn K (.ref (C 18)) = true
  mC_OtherColumns : mg "OtherColumns" = some (.ref (C 19))
  kC_OtherColumns : PySem.W.keepIn K (.ref (C 19)) = true
  mC_HasColumns : mg "HasColumns" = some (.ref (C 20))
  kC_HasColumns : PySem.W.keepIn K (.ref (C 20)) = true
  mC_NotSafe : mg "NotSafe" = some (.ref (C 21))
  kC_NotSafe : PySem.W.keepIn K (.ref (C 21)) = true
  mC_TooMany : mg "TooMany" = some (.ref (C 22))
  kC_TooMany : PySem.W.keepIn K (.ref (C 22)) = true
  mC_Full : mg "Full" = some (.ref (C 23))
  kC_Full : PySem.W.keepIn K (.ref (C 23)) = true
  mC_UnknownName : mg "UnknownName" = some (.ref (C 24))
  kC_UnknownName : PySem.W.keepIn K (.ref (C 24)) = true
  mC_UnknownRow : mg "UnknownRow" = some (.ref (C 25))
  kC_UnknownRow : PySem.W.keepIn K (.ref (C 25)) = true
  mC_UnknownValue : mg "UnknownValue" = some (.ref (C 26))
  kC_UnknownValue : PySem.W.keepIn K (.ref (C 26)) = true
  mC_NothingLeft : mg "NothingLeft" = some (.ref (C 27))
  kC_NothingLeft : PySem.W.keepIn K (.ref (C 27)) = true
  xn_InvalidCommand_at : PySem.W.findIn K (.ref (C 15)) "at" = some none
  xn_InvalidText_at : PySem.W.findIn K (.ref (C 14)) "at" = some none
  xn_InvalidPart_at : PySem.W.findIn K (.ref (C 7)) "at" = some none
  xn_InvalidLoose_at : PySem.W.findIn K (.ref (C 5)) "at" = some none
  xn_InvalidRow_at : PySem.W.findIn K (.ref (C 4)) "at" = some none
  xn_InvalidScheme_at : PySem.W.findIn K (.ref (C 3)) "at" = some none
  xn_TooMany_most : PySem.W.findIn K (.ref (C 22)) "most" = some none
  xn_Full_limit : PySem.W.findIn K (.ref (C 23)) "limit" = some none
  xn_UnknownName_name : PySem.W.findIn K (.ref (C 24)) "name" = some none
  xn_UnknownRow_row : PySem.W.findIn K (.ref (C 25)) "row" = some none
  xn_InvalidPage_line : PySem.W.findIn K (.ref (C 17)) "line" = some none
  xn_UnknownValue_given : PySem.W.findIn K (.ref (C 26)) "given" = some none
  xn_InvalidLimit_given : PySem.W.findIn K (.ref (C 16)) "given" = some none
  xn_InvalidMeaning_given : PySem.W.findIn K (.ref (C 13)) "given" = some none
  xn_InvalidFilling_given : PySem.W.findIn K (.ref (C 12)) "given" = some none
  xn_InvalidTruths_given : PySem.W.findIn K (.ref (C 11)) "given" = some none
  xn_InvalidAnswer_given : PySem.W.findIn K (.ref (C 10)) "given" = some none
  xn_InvalidColumns_given : PySem.W.findIn K (.ref (C 9)) "given" = some none
  xn_InvalidFormula_given : PySem.W.findIn K (.ref (C 8)) "given" = some none
  xn_InvalidVariables_given : PySem.W.findIn K (.ref (C 6)) "given" = some none
  xn_InvalidName_given : PySem.W.findIn K (.ref (C 2)) "given" = some none
  kil_InvalidName : HP.kiL K (.ref (C 2)) [((C 2), true), ((C 3), false), ((C 4), false), ((C 5), false), ((C 6), false), ((C 7), false), ((C 8), false), ((C 9), false), ((C 10), false), ((C 11), false), ((C 12), false), ((C 13), false), ((C 14), false), ((C 15), false), ((C 16), false), ((C 17), false), ((C 18), false), ((C 19), false), ((C 20), false), ((C 21), false), ((C 22), false), ((C 23), false), ((C 24), false), ((C 25), false), ((C 26), false), ((C 27), false)] = true
  kil_InvalidScheme : HP.kiL K (.ref (C 3)) [((C 2), false), ((C 3), true), ((C 4), false), ((C 5), false), ((C 6), false), ((C 7), false), ((C 8), false), ((C 9), false), ((C 10), false), ((C 11), false), ((C 12), false), ((C 13), false), ((C 14), false), ((C 15), false), ((C 16), false), ((C 17), false), ((C 18), false), ((C 19), false), ((C 20), false), ((C 21), false), ((C 22), false), ((C 23), false), ((C 24), false), ((C 25), false), ((C 26), false), ((C 27), false)] = true
  kil_InvalidRow : HP.kiL K (.ref (C 4)) [((C 2), false), ((C 3), false), ((C 4), true), ((C 5), false), ((C 6), false), ((C 7), false), ((C 8), false), ((C 9), false), ((C 10), false), ((C 11), false), ((C 12), false), ((C 13), false), ((C 14), false), ((C 15), false), ((C 16), false), ((C 17), false), ((C 18), false), ((C 19), false), ((C 20), false), ((C 21), false), ((C 22), false), ((C 23), false), ((C 24), false), ((C 25), false), ((C 26), false), ((C 27), false)] = true
  kil_InvalidLoose : HP.kiL K (.ref (C 5)) [((C 2), false), ((C 3), false), ((C 4), false), ((C 5), true), ((C 6), false), ((C 7), false), ((C 8), false), ((C 9), false), ((C 10), false), ((C 11), false), ((C 12), false), ((C 13), false), ((C 14), false), ((C 15), false), ((C 16), false), ((C 17), false), ((C 18), false), ((C 19), false), ((C 20), false), ((C 21), false), ((C 22), false), ((C 23), false), ((C 24), false), ((C 25), false), ((C 26), false), ((C 27), false)] = true
  kil_InvalidVariables : HP.kiL K (.ref (C 6)) [((C 2), false), ((C 3), false), ((C 4), false), ((C 5), false), ((C 6), true), ((C 7), false), ((C 8), false), ((C 9), false), ((C 10), false), ((C 11), false), ((C 12), false), ((C 13), false), ((C 14), false), ((C 15), false), ((C 16), false), ((C 17), false), ((C 18), false), ((C 19), false), ((C 20), false), ((C 21), false), ((C 22), false), ((C 23), false), ((C 24), false), ((C 25), false), ((C 26), false), ((C 27), false)] = true
  kil_InvalidPart : HP.kiL K (.ref (C 7)) [((C 2), false), ((C 3), false), ((C 4), false), ((C 5), false), ((C 6), false), ((C 7), true), ((C 8), false), ((C 9), false), ((C 10), false), ((C 11), false), ((C 12), false), ((C 13), false), ((C 14), false), ((C 15), false), ((C 16), false), ((C 17), false), ((C 18), false), ((C 19), false), ((C 20), false), ((C 21), false), ((C 22), false), ((C 23), false), ((C 24), false), ((C 25), false), ((C 26), false), ((C 27), false)] = true
  kil_InvalidFormula : HP.kiL K (.ref (C 8)) [((C 2), false), ((C 3), false), ((C 4), false), ((C 5), false), ((C 6), false), ((C 7), false), ((C 8), true), ((C 9), false), ((C 10), false), ((C 11), false), ((C 12), false), ((C 13), false), ((C 14), false), ((C 15), false), ((C 16), false), ((C 17), false), ((C 18), false), ((C 19), false), ((C 20), false), ((C 21), false), ((C 22), false), ((C 23), false), ((C 24), false), ((C 25), false), ((C 26), false), ((C 27), false)] = true
  kil_InvalidColumns : HP.kiL K (.ref (C 9)) [((C 2), false), ((C 3), false), ((C 4), false), ((C 5), false), ((C 6), false), ((C 7), false), ((C 8), false), ((C 9), true), ((C 10), false), ((C 11), false), ((C 12), false), ((C 13), false), ((C 14), false), ((C 15), false), ((C 16), false), ((C 17), false), ((C 18), false), ((C 19), false), ((C 20), false), ((C 21), false), ((C 22), false), ((C 23), false), ((C 24), false), ((C 25), false), ((C 26), false), ((C 27), false)] = true
  kil_InvalidAnswer : HP.kiL K (.ref (C 10)) [((C 2), false), ((C 3), false), ((C 4), false), ((C 5), false), ((C 6), false), ((C 7), false), ((C 8), false), ((C 9), false), ((C 10), true), ((C 11), false), ((C 12), false), ((C 13), false), ((C 14), false), ((C 15), false), ((C 16), false), ((C 17), false), ((C 18), false), ((C 19), false), ((C 20), false), ((C 21), false), ((C 22), false), ((C 23), false), ((C 24), false), ((C 25), false), ((C 26), false), ((C 27), false)] = true
  kil_InvalidTruths : HP.kiL K (.ref (C 11)) [((C 2), false), ((C 3), false), ((C 4), false), ((C 5), false), ((C 6), false), ((C 7), false), ((C 8), false), ((C 9), false), ((C 10), false), ((C 11), true), ((C 12), false), ((C 13), false), ((C 14), false), ((C 15), false), ((C 16), false), ((C 17), false), ((C 18), false), ((C 19), false), ((C 20), false), ((C 21), false), ((C 22), false), ((C 23), false), ((C 24), false), ((C 25), false), ((C 26), false), ((C 27), false)] = true
  kil_InvalidFilling : HP.kiL K (.ref (C 12)) [((C 2), false), ((C 3), false), ((C 4), false), ((C 5), false), ((C 6), false), ((C 7), false), ((C 8), false), ((C 9), false), ((C 10), false), ((C 11), false), ((C 12), true), ((C 13), false), ((C 14), false), ((C 15), false), ((C 16), false), ((C 17), false), ((C 18), false), ((C 19), false), ((C 20), false), ((C 21), false), ((C 22), false), ((C 23), false), ((C 24), false), ((C 25), false), ((C 26), false), ((C 27), false)] = true
  kil_InvalidMeaning : HP.kiL K (.ref (C 13)) [((C 2), false), ((C 3), false), ((C 4), false), ((C 5), false), ((C 6), false), ((C 7), false), ((C 8), false), ((C 9), false), ((C 10), false), ((C 11), false), ((C 12), false), ((C 13), true), ((C 14), false), ((C 15), false), ((C 16), false), ((C 17), false), ((C 18), false), ((C 19), false), ((C 20), false), ((C 21), false), ((C 22), false), ((C 23), false), ((C 24), false), ((C 25), false), ((C 26), false), ((C 27), false)] = true
  kil_InvalidText : HP.kiL K (.ref (C 14)) [((C 2), false), ((C 3), false), ((C 4), false), ((C 5), false), ((C 6), false), ((C 7), false), ((C 8), false), ((C 9), false), ((C 10), false), ((C 11), false), ((C 12), false), ((C 13), false), ((C 14), true), ((C 15), false), ((C 16), false), ((C 17), false), ((C 18), false), ((C 19), false), ((C 20), false), ((C 21), false), ((C 22), false), ((C 23), false), ((C 24), false), ((C 25), false), ((C 26), false), ((C 27), false)] = true
  kil_InvalidCommand : HP.kiL K (.ref (C 15)) [((C 2), false), ((C 3), false), ((C 4), false), ((C 5), false), ((C 6), false), ((C 7), false), ((C 8), false), ((C 9), false), ((C 10), false), ((C 11), false), ((C 12), false), ((C 13), false), ((C 14), false), ((C 15), true), ((C 16), false), ((C 17), false), ((C 18), false), ((C 19), false), ((C 20), false), ((C 21), false), ((C 22), false), ((C 23), false), ((C 24), false), ((C 25), false), ((C 26), false), ((C 27), false)] = true
  kil_InvalidLimit : HP.kiL K (.ref (C 16)) [((C 2), false), ((C 3), false), ((C 4), false), ((C 5), false), ((C 6), false), ((C 7), false), ((C 8), false), ((C 9), false), ((C 10), false), ((C 11), false), ((C 12), false), ((C 13), false), ((C 14), false), ((C 15), false), ((C 16), true), ((C 17), false), ((C 18), false), ((C 19), false), ((C 20), false), ((C 21), false), ((C 22), false), ((C 23), false), ((C 24), false), ((C 25), false), ((C 26), false), ((C 27), false)] = true
  kil_InvalidPage : HP.kiL K (.ref (C 17)) [((C 2), false), ((C 3), false), ((C 4), false), ((C 5), false), ((C 6), false), ((C 7), false), ((C 8), false), ((C 9), false), ((C 10), false), ((C 11), false), ((C 12), false), ((C 13), false), ((C 14), false), ((C 15), false), ((C 16), false), ((C 17), true), ((C 18), false), ((C 19), false), ((C 20), false), ((C 21), false), ((C 22), false), ((C 23), false), ((C 24), false), ((C 25), false), ((C 26), false), ((C 27), false)] = true
  kil_OtherScheme : HP.kiL K (.ref (C 18)) [((C 2), false), ((C 3), false), ((C 4), false), ((C 5), false), ((C 6), false), ((C 7), false), ((C 8), false), ((C 9), false), ((C 10), false), ((C 11), false), ((C 12), false), ((C 13), false), ((C 14), false), ((C 15), false), ((C 16), false), ((C 17), false), ((C 18), true), ((C 19), false), ((C 20), false), ((C 21), false), ((C 22), false), ((C 23), false), ((C 24), false), ((C 25), false), ((C 26), false), ((C 27), false)] = true
  kil_OtherColumns : HP.kiL K (.ref (C 19)) [((C 2), false), ((C 3), false), ((C 4), false), ((C 5), false), ((C 6), false), ((C 7), false), ((C 8), false), ((C 9), false), ((C 10), false), ((C 11), false), ((C 12), false), ((C 13), false), ((C 14), false), ((C 15), false), ((C 16), false), ((C 17), false), ((C 18), false), ((C 19), true), ((C 20), false), ((C 21), false), ((C 22), false), ((C 23), false), ((C 24), false), ((C 25), false), ((C 26), false), ((C 27), false)] = true
  kil_HasColumns : HP.kiL K (.ref (C 20)) [((C 2), false), ((C 3), false), ((C 4), false), ((C 5), false), ((C 6), false), ((C 7), false), ((C 8), false), ((C 9), false), ((C 10), false), ((C 11), false), ((C 12), false), ((C 13), false), ((C 14), false), ((C 15), false), ((C 16), false), ((C 17), false), ((C 18), false), ((C 19), false), ((C 20), true), ((C 21), false), ((C 22), false), ((C 23), false), ((C 24), false), ((C 25), false), ((C 26), false), ((C 27), false)] = true
  kil_NotSafe : HP.kiL K (.ref (C 21)) [((C 2), false), ((C 3), false), ((C 4), false), ((C 5), false), ((C 6), false), ((C 7), false), ((C 8), false), ((C 9), false), ((C 10), false), ((C 11), false), ((C 12), false), ((C 13), false), ((C 14), false), ((C 15), false), ((C 16), false), ((C 17), false), ((C 18), false), ((C 19), false), ((C 20), false), ((C 21), true), ((C 22), false), ((C 23), false), ((C 24), false), ((C 25), false), ((C 26), false), ((C 27), false)] = true
  kil_TooMany : HP.kiL K (.ref (C 22)) [((C 2), false), ((C 3), false), ((C 4), false), ((C 5), false), ((C 6), false), ((C 7), false), ((C 8), false), ((C 9), false), ((C 10), false), ((C 11), false), ((C 12), false), ((C 13), false), ((C 14), false), ((C 15), false), ((C 16), false), ((C 17), false), ((C 18), false), ((C 19), false), ((C 20), false), ((C 21), false), ((C 22), true), ((C 23), false), ((C 24), false), ((C 25), false), ((C 26), false), ((C 27), false)] = true
  kil_Full : HP.kiL K (.ref (C 23)) [((C 2), false), ((C 3), false), ((C 4), false), ((C 5), false), ((C 6), false), ((C 7), false), ((C 8), false), ((C 9), false), ((C 10), false), ((C 11), false), ((C 12), false), ((C 13), false), ((C 14), false), ((C 15), false), ((C 16), false), ((C 17), false), ((C 18), false), ((C 19), false), ((C 20), false), ((C 21), false), ((C 22), false), ((C 23), true), ((C 24), false), ((C 25), false), ((C 26), false), ((C 27), false)] = true
  kil_UnknownName : HP.kiL K (.ref (C 24)) [((C 2), false), ((C 3), false), ((C 4), false), ((C 5), false), ((C 6), false), ((C 7), false), ((C 8), false), ((C 9), false), ((C 10), false), ((C 11), false), ((C 12), false), ((C 13), false), ((C 14), false), ((C 15), false), ((C 16), false), ((C 17), false), ((C 18), false), ((C 19), false), ((C 20), false), ((C 21), false), ((C 22), false), ((C 23), false), ((C 24), true), ((C 25), false), ((C 26), false), ((C 27), false)] = true
  kil_UnknownRow : HP.kiL K (.ref (C 25)) [((C 2), false), ((C 3), false), ((C 4), false), ((C 5), false), ((C 6), false), ((C 7), false), ((C 8), false), ((C 9), false), ((C 10), false), ((C 11), false), ((C 12), false), ((C 13), false), ((C 14), false), ((C 15), false), ((C 16), false), ((C 17), false), ((C 18), false), ((C 19), false), ((C 20), false), ((C 21), false), ((C 22), false), ((C 23), false), ((C 24), false), ((C 25), true), ((C 26), false), ((C 27), false)] = true
  kil_UnknownValue : HP.kiL K (.ref (C 26)) [((C 2), false), ((C 3), false), ((C 4), false), ((C 5), false), ((C 6), false), ((C 7), false), ((C 8), false), ((C 9), false), ((C 10), false), ((C 11), false), ((C 12), false), ((C 13), false), ((C 14), false), ((C 15), false), ((C 16), false), ((C 17), false), ((C 18), false), ((C 19), false), ((C 20), false), ((C 21), false), ((C 22), false), ((C 23), false), ((C 24), false), ((C 25), false), ((C 26), true), ((C 27), false)] = true
  kil_NothingLeft : HP.kiL K (.ref (C 27)) [((C 2), false), ((C 3), false), ((C 4), false), ((C 5), false), ((C 6), false), ((C 7), false), ((C 8), false), ((C 9), false), ((C 10), false), ((C 11), false), ((C 12), false), ((C 13), false), ((C 14), false), ((C 15), false), ((C 16), false), ((C 17), false), ((C 18), false), ((C 19), false), ((C 20), false), ((C 21), false), ((C 22), false), ((C 23), false), ((C 24), false), ((C 25), false), ((C 26), false), ((C 27), true)] = true
theorem lit_0 : Str.ofString "" = tx [] := by decide +kernel
theorem lit_1 : Str.ofString "x" = tx [120] := by decide +kernel
theorem lit_2 : Str.ofString "a" = tx [97] := by decide +kernel
theorem lit_3 : Str.ofString "InvalidName" = tx [73, 110, 118, 97, 108, 105, 100, 78, 97, 109, 101] := by decide +kernel
theorem lit_4 : Str.ofString "InvalidScheme" = tx [73, 110, 118, 97, 108, 105, 100, 83, 99, 104, 101, 109, 101] := by decide +kernel
theorem lit_5 : Str.ofString "InvalidRow" = tx [73, 110, 118, 97, 108, 105, 100, 82, 111, 119] := by decide +kernel
theorem lit_6 : Str.ofString "InvalidLoose" = tx [73, 110, 118, 97, 108, 105, 100, 76, 111, 111, 115, 101] := by decide +kernel
theorem lit_7 : Str.ofString "InvalidVariables" = tx [73, 110, 118, 97, 108, 105, 100, 86, 97, 114, 105, 97, 98, 108, 101, 115] := by decide +kernel
theorem lit_8 : Str.ofString "InvalidPart" = tx [73, 110, 118, 97, 108, 105, 100, 80, 97, 114, 116] := by decide +kernel
theorem lit_9 : Str.ofString "InvalidFormula" = tx [73, 110, 118, 97, 108, 105, 100, 70, 111, 114, 109, 117, 108, 97] := by decide +kernel
theorem lit_10 : Str.ofString "InvalidColumns" = tx [73, 110, 118, 97, 108, 105, 100, 67, 111, 108, 117, 109, 110, 115] := by decide +kernel
theorem lit_11 : Str.ofString "InvalidAnswer" = tx [73, 110, 118, 97, 108, 105, 100, 65, 110, 115, 119, 101, 114] := by decide +kernel
theorem lit_12 : Str.ofString "InvalidTruths" = tx [73, 110, 118, 97, 108, 105, 100, 84, 114, 117, 116, 104, 115] := by decide +kernel
theorem lit_13 : Str.ofString "InvalidFilling" = tx [73, 110, 118, 97, 108, 105, 100, 70, 105, 108, 108, 105, 110, 103] := by decide +kernel
theorem lit_14 : Str.ofString "InvalidMeaning" = tx [73, 110, 118, 97, 108, 105, 100, 77, 101, 97, 110, 105, 110, 103] := by decide +kernel
theorem lit_15 : Str.ofString "InvalidText" = tx [73, 110, 118, 97, 108, 105, 100, 84, 101, 120, 116] := by decide +kernel
theorem lit_16 : Str.ofString "InvalidCommand" = tx [73, 110, 118, 97, 108, 105, 100, 67, 111, 109, 109, 97, 110, 100] := by decide +kernel
theorem lit_17 : Str.ofString "InvalidLimit" = tx [73, 110, 118, 97, 108, 105, 100, 76, 105, 109, 105, 116] := by decide +kernel
theorem lit_18 : Str.ofString "InvalidPage" = tx [73, 110, 118, 97, 108, 105, 100, 80, 97, 103, 101] := by decide +kernel
theorem lit_19 : Str.ofString "OtherScheme" = tx [79, 116, 104, 101, 114, 83, 99, 104, 101, 109, 101] := by decide +kernel
theorem lit_20 : Str.ofString "OtherColumns" = tx [79, 116, 104, 101, 114, 67, 111, 108, 117, 109, 110, 115] := by decide +kernel
theorem lit_21 : Str.ofString "HasColumns" = tx [72, 97, 115, 67, 111, 108, 117, 109, 110, 115] := by decide +kernel
theorem lit_22 : Str.ofString "NotSafe" = tx [78, 111, 116, 83, 97, 102, 101] := by decide +kernel
theorem lit_23 : Str.ofString "TooMany" = tx [84, 111, 111, 77, 97, 110, 121] := by decide +kernel
theorem lit_24 : Str.ofString "Full" = tx [70, 117, 108, 108] := by decide +kernel
theorem lit_25 : Str.ofString "UnknownName" = tx [85, 110, 107, 110, 111, 119, 110, 78, 97, 109, 101] := by decide +kernel
theorem lit_26 : Str.ofString "UnknownRow" = tx [85, 110, 107, 110, 111, 119, 110, 82, 111, 119] := by decide +kernel
theorem lit_27 : Str.ofString "UnknownValue" = tx [85, 110, 107, 110, 111, 119, 110, 86, 97, 108, 117, 101] := by decide +kernel
theorem lit_28 : Str.ofString "NothingLeft" = tx [78, 111, 116, 104, 105, 110, 103, 76, 101, 102, 116] := by decide +kernel
section
variable {P : Program} {w : World} {K : PySem.W.Frag} {mg : Str → Option Value} {base : Heap}
def cmT (T : Tp P w K mg base) : CM := { cmOf names names_nd names_two T.C with lam := T.z, cret := fun d => cloX ⟨P, w, mg, base, 2⟩ (.ret d), cexc := fun C fs => cloX ⟨P, w, mg, base, 2⟩ (.exc ⟨C, fs⟩) }
def Tp.at (T : Tp P w K mg base) (z : Nat → Xt) : Tp P w K mg base := { T with z := z }
theorem bd__law_of_2 (T : Tp P w K mg base) : Bd K T.fd__law_of ["_law_bag_here", "_law_some"] 2 [] [0, 1] [] := Fun.bd T.F__law_of fun _ _ _ _ _ _ xs ws h1 h2 => match xs, ws, h1, h2 with | [_, _], [], _, _ => rfl
theorem bd__law_draw_2 (T : Tp P w K mg base) : Bd K T.fd__law_draw ["_law_bag_here", "_law_many"] 2 [] [0, 1] [] := Fun.bd T.F__law_draw fun _ _ _ _ _ _ xs ws h1 h2 => match xs, ws, h1, h2 with | [_, _], [], _, _ => rfl
theorem bd__law_errors_1 (T : Tp P w K mg base) : Bd K T.fd__law_errors ["_law_a"] 1 [] [0] [] := Fun.bd T.F__law_errors fun _ _ _ _ _ _ xs ws h1 h2 => match xs, ws, h1, h2 with | [_], [], _, _ => rfl
theorem bd__law_codes_0 (T : Tp P w K mg base) : Bd K T.fd__law_codes [] 0 [] [] [] := Fun.bd T.F__law_codes fun _ _ _ _ _ _ xs ws h1 h2 => match xs, ws, h1, h2 with | [], [], _, _ => rfl
theorem bd__law_same_2 (T : Tp P w K mg base) : Bd K T.fd__law_same ["_law_found", "_law_due"] 2 [] [0, 1] [] := Fun.bd T.F__law_same fun _ _ _ _ _ _ xs ws h1 h2 => match xs, ws, h1, h2 with | [_, _], [], _, _ => rfl
theorem bd__law_field_1 (T : Tp P w K mg base) : Bd K T.fd__law_field ["_law_e"] 1 [] [0] [] := Fun.bd T.F__law_field fun _ _ _ _ _ _ xs ws h1 h2 => match xs, ws, h1, h2 with | [_], [], _, _ => rfl
theorem bd__law_classes_1 (T : Tp P w K mg base) : Bd K T.fd__law_classes ["_law_e"] 1 [] [0] [] := Fun.bd T.F__law_classes fun _ _ _ _ _ _ xs ws h1 h2 => match xs, ws, h1, h2 with | [_], [], _, _ => rfl
theorem bd__law_named_errors_1 (T : Tp P w K mg base) : Bd K T.fd__law_named_errors ["_law_a"] 1 [] [0] [] := Fun.bd T.F__law_named_errors fun _ _ _ _ _ _ xs ws h1 h2 => match xs, ws, h1, h2 with | [_], [], _, _ => rfl
theorem bdS__law_bag (T : Tp P w K mg base) : Binds K T.fd__law_bag ["_law_script"] [] := T.F__law_bag.binds fun _ _ _ _ _ _ us hl => match us, hl with | [_], _ => rfl
theorem ok_bag_ (T : Tp P w K mg base) : FnOk P w K mg base (CXq P w) 1 T.f__law_bag T.fd__law_bag ["_law_script"] (spBag K) := ok_bag T.F__law_bag sc__law_bag T.z_list (Or.inl rfl) rfl (by decide) (by decide) rfl
theorem ok__law_draw (T : Tp P w K mg base) : FnOk P w K mg base (CXq P w) 1 T.f__law_draw T.fd__law_draw ["_law_bag_here", "_law_many"] (spD K (spF (cmT T) 2 false fDraw)) := by
  refine okF_imp (ok_draw T.F__law_draw sc__law_draw rfl rfl fun cdv A outer s H E => ?_) (fun β ds kq kx h => draw_F h)
  exact (pss_cons (ps_asg (pe_op op_add (pe_ix ix_list (pe_var (i := 0) rfl (by first | exact Or.inl rfl | exact Or.inr (Or.inl rfl) | exact Or.inr (Or.inr rfl))) pe_int fun _ _ => rfl) pe_int) (pg_sub (pe_var (i := 0) rfl (by first | exact Or.inl rfl | exact Or.inr (Or.inl rfl) | exact Or.inr (Or.inr rfl))) pe_int set_list (by intro _; rfl)))
      (pss_cons (ps_if (PW.pt (pw_and (pt_cmp (pc_eqI (pe_ix ix_list (pe_var (i := 0) rfl (by first | exact Or.inl rfl | exact Or.inr (Or.inl rfl) | exact Or.inr (Or.inr rfl))) pe_int fun _ _ => rfl) pe_int)) (pw_and1 (pt_cmp (pc_lt (pe_ix ix_list (pe_var (i := 0) rfl (by first | exact Or.inl rfl | exact Or.inr (Or.inl rfl) | exact Or.inr (Or.inr rfl))) pe_int fun _ _ => rfl) (pe_callB call_len rfl T.z_len (by decide +kernel) (pa_cons (pe_ix ix_list (pe_var (i := 0) rfl (by first | exact Or.inl rfl | exact Or.inr (Or.inl rfl) | exact Or.inr (Or.inr rfl))) pe_int fun _ _ => rfl) pa_nil))))))) (pss_cons (ps_set (i := 2) sc__law_draw.nd rfl (by first | exact Or.inl rfl | exact Or.inr rfl) (pe_ix ix_list (pe_ix ix_list (pe_var (i := 0) rfl (by first | exact Or.inl rfl | exact Or.inr (Or.inl rfl) | exact Or.inr (Or.inr rfl))) pe_int fun _ _ => rfl) (pe_ix ix_list (pe_var (i := 0) rfl (by first | exact Or.inl rfl | exact Or.inr (Or.inl rfl) | exact Or.inr (Or.inr rfl))) pe_int fun _ _ => rfl) fun _ _ => rfl))
      (pss_cons (ps_asg (pe_op op_add (pe_ix ix_list (pe_var (i := 0) rfl (by first | exact Or.inl rfl | exact Or.inr (Or.inl rfl) | exact Or.inr (Or.inr rfl))) pe_int fun _ _ => rfl) pe_int) (pg_sub (pe_var (i := 0) rfl (by first | exact Or.inl rfl | exact Or.inr (Or.inl rfl) | exact Or.inr (Or.inr rfl))) pe_int set_list (by intro _; rfl)))
      (pss_cons (ps_if (pt_cmp (pc_ge (pe_var (i := 2) rfl (by first | exact Or.inl rfl | exact Or.inr (Or.inl rfl) | exact Or.inr (Or.inr rfl))) (pe_op op_pow pe_int pe_int))) (pss_cons (ps_asg (pe_var (i := 2) rfl (by first | exact Or.inl rfl | exact Or.inr (Or.inl rfl) | exact Or.inr (Or.inr rfl))) (pg_sub (pe_var (i := 0) rfl (by first | exact Or.inl rfl | exact Or.inr (Or.inl rfl) | exact Or.inr (Or.inr rfl))) pe_int set_list (by intro _; rfl)))
      pss_nil) pss_nil)
      (pss_cons (ps_asg (pe_op op_mod (pe_callTy call_intA rfl T.z_int (by decide +kernel) (pa_cons (pe_op op_add (pe_op op_add (pe_op op_mul (pe_ix ix_list (pe_var (i := 0) rfl (by first | exact Or.inl rfl | exact Or.inr (Or.inl rfl) | exact Or.inr (Or.inr rfl))) pe_int fun _ _ => rfl) pe_int) (pe_op op_mul (pe_op op_mod (pe_callTy call_intA rfl T.z_int (by decide +kernel) (pa_cons (pe_var (i := 2) rfl (by first | exact Or.inl rfl | exact Or.inr (Or.inl rfl) | exact Or.inr (Or.inr rfl))) pa_nil)) pe_int) pe_int)) pe_int) pa_nil)) pe_int) (pg_sub (pe_var (i := 0) rfl (by first | exact Or.inl rfl | exact Or.inr (Or.inl rfl) | exact Or.inr (Or.inr rfl))) pe_int set_list (by intro _; rfl)))
      pss_nil)))) pss_nil)
      (pss_cons (ps_if (pt_cmp (pc_gt (pe_ix ix_list (pe_var (i := 0) rfl (by first | exact Or.inl rfl | exact Or.inr (Or.inl rfl) | exact Or.inr (Or.inr rfl))) pe_int fun _ _ => rfl) pe_int)) (pss_cons (ps_set (i := 3) sc__law_draw.nd rfl (by first | exact Or.inl rfl | exact Or.inr rfl) (pe_op op_mod (pe_callTy call_intA rfl T.z_int (by decide +kernel) (pa_cons (pe_ix ix_list (pe_var (i := 0) rfl (by first | exact Or.inl rfl | exact Or.inr (Or.inl rfl) | exact Or.inr (Or.inr rfl))) pe_int fun _ _ => rfl) pa_nil)) (pe_var (i := 1) rfl (by first | exact Or.inl rfl | exact Or.inr (Or.inl rfl) | exact Or.inr (Or.inr rfl)))))
      (pss_cons (ps_asg (pe_op op_fdiv (pe_callTy call_intA rfl T.z_int (by decide +kernel) (pa_cons (pe_ix ix_list (pe_var (i := 0) rfl (by first | exact Or.inl rfl | exact Or.inr (Or.inl rfl) | exact Or.inr (Or.inr rfl))) pe_int fun _ _ => rfl) pa_nil)) (pe_var (i := 1) rfl (by first | exact Or.inl rfl | exact Or.inr (Or.inl rfl) | exact Or.inr (Or.inr rfl)))) (pg_sub (pe_var (i := 0) rfl (by first | exact Or.inl rfl | exact Or.inr (Or.inl rfl) | exact Or.inr (Or.inr rfl))) pe_int set_list (by intro _; rfl)))
      (pss_cons (ps_ret (pe_var (i := 3) rfl (by first | exact Or.inl rfl | exact Or.inr (Or.inl rfl) | exact Or.inr (Or.inr rfl))))
      pss_nil))) pss_nil)
      (pss_cons (ps_set (i := 4) sc__law_draw.nd rfl (by first | exact Or.inl rfl | exact Or.inr rfl) (pe_ix ix_list (pe_var (i := 0) rfl (by first | exact Or.inl rfl | exact Or.inr (Or.inl rfl) | exact Or.inr (Or.inr rfl))) pe_int fun _ _ => rfl))
      (pss_cons (ps_asg (pe_op op_mod (pe_callTy call_intA rfl T.z_int (by decide +kernel) (pa_cons (pe_op op_add (pe_op op_add (pe_op op_add (pe_op op_pow (pe_var (i := 4) rfl (by first | exact Or.inl rfl | exact Or.inr (Or.inl rfl) | exact Or.inr (Or.inr rfl))) pe_int) (pe_op op_mul (pe_var (i := 4) rfl (by first | exact Or.inl rfl | exact Or.inr (Or.inl rfl) | exact Or.inr (Or.inr rfl))) pe_int)) (pe_op op_mul (pe_ix ix_list (pe_var (i := 0) rfl (by first | exact Or.inl rfl | exact Or.inr (Or.inl rfl) | exact Or.inr (Or.inr rfl))) pe_int fun _ _ => rfl) pe_int)) pe_int) pa_nil)) pe_int) (pg_sub (pe_var (i := 0) rfl (by first | exact Or.inl rfl | exact Or.inr (Or.inl rfl) | exact Or.inr (Or.inr rfl))) pe_int set_list (by intro _; rfl)))
      (pss_cons (ps_ret (pe_op op_mod (pe_callTy call_intA rfl T.z_int (by decide +kernel) (pa_cons (pe_op op_add (pe_op op_fdiv (pe_ix ix_list (pe_var (i := 0) rfl (by first | exact Or.inl rfl | exact Or.inr (Or.inl rfl) | exact Or.inr (Or.inr rfl))) pe_int fun _ _ => rfl) pe_int) (pe_op op_mul (pe_op op_mod (pe_callTy call_intA rfl T.z_int (by decide +kernel) (pa_cons (pe_ix ix_list (pe_var (i := 0) rfl (by first | exact Or.inl rfl | exact Or.inr (Or.inl rfl) | exact Or.inr (Or.inr rfl))) pe_int fun _ _ => rfl) pa_nil)) pe_int) pe_int)) pa_nil)) (pe_var (i := 1) rfl (by first | exact Or.inl rfl | exact Or.inr (Or.inl rfl) | exact Or.inr (Or.inr rfl)))))
      pss_nil))))))
theorem der__law_of (T : Tp P w K mg base) {cdv : Value} {A : Around} {outer : List PySem.Env} {s : Shared} {H : Hp} {E : XK} {Fm : Fm} (hr : Room 1 (cxD P w K mg base ["_law_bag_here", "_law_some"] "_law_of" (defScope s__law_of) T.f__law_of cdv A outer s H E).A) (G__law_draw : FnOk P w K mg base (CXq P w) 1 T.f__law_draw T.fd__law_draw ["_law_bag_here", "_law_many"] (spD K (spF (cmT T) 2 false fDraw))) :
    FSs (cmT T) (cxD P w K mg base ["_law_bag_here", "_law_some"] "_law_of" (defScope s__law_of) T.f__law_of cdv A outer s H E) Fm (wxD E) [] ⟨[], [], [], false⟩ (defBody s__law_of) b__law_of :=
  (fss_cons (O1 := []) (fs_ret (fv_e (fe_ix (fqn 1 (fp (fe_v (fv_name (fc_fix (idx := [0, 1]) (dd := []) G__law_draw (hr.mono (by omega)) (bd__law_draw_2 T) .nil (fun _ => Reps.nil) (snk_of takesD)) T.m__law_draw T.F__law_draw.kp (fargs (fa_cons (fv 0) (fa_cons (fe_len T.z_len (fvp 1)) (fa_nil))) (fk_nil)))))))))
      (fss_nil))
theorem ok__law_of (T : Tp P w K mg base) : FnOk P w K mg base (CXq P w) 2 T.f__law_of T.fd__law_of ["_law_bag_here", "_law_some"] (spD K (spF (cmT T) 2 false f__law_of)) := by
  have G__law_draw := ok__law_draw (P := P) (w := w) (base := base) T
  exact okF T.F__law_of sc__law_of fun cdv A outer s H E Fm hr => der__law_of T hr G__law_draw
theorem der__law_errors (T : Tp P w K mg base) {cdv : Value} {A : Around} {outer : List PySem.Env} {s : Shared} {H : Hp} {E : XK} {Fm : Fm} (hr : Room 1 (cxD P w K mg base ["_law_a", "_law_found"] "_law_errors" (defScope s__law_errors) T.f__law_errors cdv A outer s H E).A) :
    FSs (cmT T) (cxD P w K mg base ["_law_a", "_law_found"] "_law_errors" (defScope s__law_errors) T.f__law_errors cdv A outer s H E) Fm (wxD E) [] ⟨[], [], [], false⟩ (defBody s__law_errors) b__law_errors :=
  (fss_cons (O1 := []) (fs_set (i := 1) sc__law_errors.nd (fv_e (fl_e (fl_lst (fa_cons (fe_v (fv_name (fc_err1 2 1 0 "InvalidName" lit_3 rfl T.er_InvalidName T.ei_InvalidName T.et_InvalidName T.eb_InvalidName (hr.mono (by omega)) (fld_given rfl) (fld_code rfl)) T.mC_InvalidName T.kC_InvalidName (fargs (fa_cons (fv 0) (fa_nil)) (fk_nil)))) (fa_cons (fe_v (fv_name (fc_err1 3 2 0 "InvalidScheme" lit_4 rfl T.er_InvalidScheme T.ei_InvalidScheme T.et_InvalidScheme T.eb_InvalidScheme (hr.mono (by omega)) (fld_at rfl) (fld_code rfl)) T.mC_InvalidScheme T.kC_InvalidScheme (fargs (fa_cons (fv 0) (fa_nil)) (fk_nil)))) (fa_cons (fe_v (fv_name (fc_err1 4 2 0 "InvalidRow" lit_5 rfl T.er_InvalidRow T.ei_InvalidRow T.et_InvalidRow T.eb_InvalidRow (hr.mono (by omega)) (fld_at rfl) (fld_code rfl)) T.mC_InvalidRow T.kC_InvalidRow (fargs (fa_cons (fv 0) (fa_nil)) (fk_nil)))) (fa_cons (fe_v (fv_name (fc_err1 5 2 0 "InvalidLoose" lit_6 rfl T.er_InvalidLoose T.ei_InvalidLoose T.et_InvalidLoose T.eb_InvalidLoose (hr.mono (by omega)) (fld_at rfl) (fld_code rfl)) T.mC_InvalidLoose T.kC_InvalidLoose (fargs (fa_cons (fv 0) (fa_nil)) (fk_nil)))) (fa_cons (fe_v (fv_name (fc_err1 6 1 0 "InvalidVariables" lit_7 rfl T.er_InvalidVariables T.ei_InvalidVariables T.et_InvalidVariables T.eb_InvalidVariables (hr.mono (by omega)) (fld_given rfl) (fld_code rfl)) T.mC_InvalidVariables T.kC_InvalidVariables (fargs (fa_cons (fv 0) (fa_nil)) (fk_nil)))) (fa_cons (fe_v (fv_name (fc_err1 7 2 0 "InvalidPart" lit_8 rfl T.er_InvalidPart T.ei_InvalidPart T.et_InvalidPart T.eb_InvalidPart (hr.mono (by omega)) (fld_at rfl) (fld_code rfl)) T.mC_InvalidPart T.kC_InvalidPart (fargs (fa_cons (fv 0) (fa_nil)) (fk_nil)))) (fa_nil)))))))))))
      ((fss_cons (O1 := []) (fs_set (i := 1) sc__law_errors.nd (fv_e (fl_e (fl_op op_cat op2_cat f_cat (fqn 1 (fl_p (fl_lst (fa_cons (fe_v (fv_name (fc_err1 8 1 0 "InvalidFormula" lit_9 rfl T.er_InvalidFormula T.ei_InvalidFormula T.et_InvalidFormula T.eb_InvalidFormula (hr.mono (by omega)) (fld_given rfl) (fld_code rfl)) T.mC_InvalidFormula T.kC_InvalidFormula (fargs (fa_cons (fv 0) (fa_nil)) (fk_nil)))) (fa_cons (fe_v (fv_name (fc_err1 9 1 0 "InvalidColumns" lit_10 rfl T.er_InvalidColumns T.ei_InvalidColumns T.et_InvalidColumns T.eb_InvalidColumns (hr.mono (by omega)) (fld_given rfl) (fld_code rfl)) T.mC_InvalidColumns T.kC_InvalidColumns (fargs (fa_cons (fv 0) (fa_nil)) (fk_nil)))) (fa_cons (fe_v (fv_name (fc_err1 10 1 0 "InvalidAnswer" lit_11 rfl T.er_InvalidAnswer T.ei_InvalidAnswer T.et_InvalidAnswer T.eb_InvalidAnswer (hr.mono (by omega)) (fld_given rfl) (fld_code rfl)) T.mC_InvalidAnswer T.kC_InvalidAnswer (fargs (fa_cons (fv 0) (fa_nil)) (fk_nil)))) (fa_cons (fe_v (fv_name (fc_err1 11 1 0 "InvalidTruths" lit_12 rfl T.er_InvalidTruths T.ei_InvalidTruths T.et_InvalidTruths T.eb_InvalidTruths (hr.mono (by omega)) (fld_given rfl) (fld_code rfl)) T.mC_InvalidTruths T.kC_InvalidTruths (fargs (fa_cons (fv 0) (fa_nil)) (fk_nil)))) (fa_cons (fe_v (fv_name (fc_err1 12 1 0 "InvalidFilling" lit_13 rfl T.er_InvalidFilling T.ei_InvalidFilling T.et_InvalidFilling T.eb_InvalidFilling (hr.mono (by omega)) (fld_given rfl) (fld_code rfl)) T.mC_InvalidFilling T.kC_InvalidFilling (fargs (fa_cons (fv 0) (fa_nil)) (fk_nil)))) (fa_nil)))))))))))))
      ((fss_cons (O1 := []) (fs_set (i := 1) sc__law_errors.nd (fv_e (fl_e (fl_op op_cat op2_cat f_cat (fqn 1 (fl_p (fl_lst (fa_cons (fe_v (fv_name (fc_err1 13 1 0 "InvalidMeaning" lit_14 rfl T.er_InvalidMeaning T.ei_InvalidMeaning T.et_InvalidMeaning T.eb_InvalidMeaning (hr.mono (by omega)) (fld_given rfl) (fld_code rfl)) T.mC_InvalidMeaning T.kC_InvalidMeaning (fargs (fa_cons (fv 0) (fa_nil)) (fk_nil)))) (fa_cons (fe_v (fv_name (fc_err1 14 2 0 "InvalidText" lit_15 rfl T.er_InvalidText T.ei_InvalidText T.et_InvalidText T.eb_InvalidText (hr.mono (by omega)) (fld_at rfl) (fld_code rfl)) T.mC_InvalidText T.kC_InvalidText (fargs (fa_cons (fv 0) (fa_nil)) (fk_nil)))) (fa_cons (fe_v (fv_name (fc_err1 15 2 0 "InvalidCommand" lit_16 rfl T.er_InvalidCommand T.ei_InvalidCommand T.et_InvalidCommand T.eb_InvalidCommand (hr.mono (by omega)) (fld_at rfl) (fld_code rfl)) T.mC_InvalidCommand T.kC_InvalidCommand (fargs (fa_cons (fv 0) (fa_nil)) (fk_nil)))) (fa_cons (fe_v (fv_name (fc_err1 16 1 0 "InvalidLimit" lit_17 rfl T.er_InvalidLimit T.ei_InvalidLimit T.et_InvalidLimit T.eb_InvalidLimit (hr.mono (by omega)) (fld_given rfl) (fld_code rfl)) T.mC_InvalidLimit T.kC_InvalidLimit (fargs (fa_cons (fv 0) (fa_nil)) (fk_nil)))) (fa_cons (fe_v (fv_name (fc_err1 17 3 0 "InvalidPage" lit_18 rfl T.er_InvalidPage T.ei_InvalidPage T.et_InvalidPage T.eb_InvalidPage (hr.mono (by omega)) (fld_line rfl) (fld_code rfl)) T.mC_InvalidPage T.kC_InvalidPage (fargs (fa_cons (fv 0) (fa_nil)) (fk_nil)))) (fa_cons (fe_v (fv_name (fc_err0 18 0 "OtherScheme" lit_19 rfl T.er_OtherScheme T.ei_OtherScheme T.et_OtherScheme T.eb_OtherScheme (hr.mono (by omega)) (fld_code rfl)) T.mC_OtherScheme T.kC_OtherScheme (fargs0 (fk_nil)))) (fa_nil))))))))))))))
      ((fss_cons (O1 := []) (fs_set (i := 1) sc__law_errors.nd (fv_e (fl_e (fl_op op_cat op2_cat f_cat (fqn 1 (fl_p (fl_lst (fa_cons (fe_v (fv_name (fc_err0 19 0 "OtherColumns" lit_20 rfl T.er_OtherColumns T.ei_OtherColumns T.et_OtherColumns T.eb_OtherColumns (hr.mono (by omega)) (fld_code rfl)) T.mC_OtherColumns T.kC_OtherColumns (fargs0 (fk_nil)))) (fa_cons (fe_v (fv_name (fc_err0 20 0 "HasColumns" lit_21 rfl T.er_HasColumns T.ei_HasColumns T.et_HasColumns T.eb_HasColumns (hr.mono (by omega)) (fld_code rfl)) T.mC_HasColumns T.kC_HasColumns (fargs0 (fk_nil)))) (fa_cons (fe_v (fv_name (fc_err0 21 0 "NotSafe" lit_22 rfl T.er_NotSafe T.ei_NotSafe T.et_NotSafe T.eb_NotSafe (hr.mono (by omega)) (fld_code rfl)) T.mC_NotSafe T.kC_NotSafe (fargs0 (fk_nil)))) (fa_cons (fe_v (fv_name (fc_err1 22 4 0 "TooMany" lit_23 rfl T.er_TooMany T.ei_TooMany T.et_TooMany T.eb_TooMany (hr.mono (by omega)) (fld_most rfl) (fld_code rfl)) T.mC_TooMany T.kC_TooMany (fargs (fa_cons (fv 0) (fa_nil)) (fk_nil)))) (fa_cons (fe_v (fv_name (fc_err1 23 5 0 "Full" lit_24 rfl T.er_Full T.ei_Full T.et_Full T.eb_Full (hr.mono (by omega)) (fld_limit rfl) (fld_code rfl)) T.mC_Full T.kC_Full (fargs (fa_cons (fv 0) (fa_nil)) (fk_nil)))) (fa_cons (fe_v (fv_name (fc_err1 24 6 0 "UnknownName" lit_25 rfl T.er_UnknownName T.ei_UnknownName T.et_UnknownName T.eb_UnknownName (hr.mono (by omega)) (fld_name rfl) (fld_code rfl)) T.mC_UnknownName T.kC_UnknownName (fargs (fa_cons (fv 0) (fa_nil)) (fk_nil)))) (fa_cons (fe_v (fv_name (fc_err1 25 7 0 "UnknownRow" lit_26 rfl T.er_UnknownRow T.ei_UnknownRow T.et_UnknownRow T.eb_UnknownRow (hr.mono (by omega)) (fld_row rfl) (fld_code rfl)) T.mC_UnknownRow T.kC_UnknownRow (fargs (fa_cons (fv 0) (fa_nil)) (fk_nil)))) (fa_nil)))))))))))))))
      ((fss_cons (O1 := []) (fs_ret (fv_e (fl_e (fl_op op_cat op2_cat f_cat (fqn 1 (fl_p (fl_lst (fa_cons (fe_v (fv_name (fc_err1 26 1 0 "UnknownValue" lit_27 rfl T.er_UnknownValue T.ei_UnknownValue T.et_UnknownValue T.eb_UnknownValue (hr.mono (by omega)) (fld_given rfl) (fld_code rfl)) T.mC_UnknownValue T.kC_UnknownValue (fargs (fa_cons (fv 0) (fa_nil)) (fk_nil)))) (fa_cons (fe_v (fv_name (fc_err0 27 0 "NothingLeft" lit_28 rfl T.er_NothingLeft T.ei_NothingLeft T.et_NothingLeft T.eb_NothingLeft (hr.mono (by omega)) (fld_code rfl)) T.mC_NothingLeft T.kC_NothingLeft (fargs0 (fk_nil)))) (fa_nil))))))))))
      (fss_nil))))))))))
theorem ok__law_errors (T : Tp P w K mg base) : FnOk P w K mg base (CXq P w) 2 T.f__law_errors T.fd__law_errors ["_law_a"] (spD K (spF (cmT T) 1 false f__law_errors)) := by
  exact okF T.F__law_errors sc__law_errors fun cdv A outer s H E Fm hr => der__law_errors T hr 
theorem der__law_codes (T : Tp P w K mg base) {cdv : Value} {A : Around} {outer : List PySem.Env} {s : Shared} {H : Hp} {E : XK} {Fm : Fm} (hr : Room 0 (cxD P w K mg base ["_law_found"] "_law_codes" (defScope s__law_codes) T.f__law_codes cdv A outer s H E).A) :
    FSs (cmT T) (cxD P w K mg base ["_law_found"] "_law_codes" (defScope s__law_codes) T.f__law_codes cdv A outer s H E) Fm (wxD E) [] ⟨[], [], [], false⟩ (defBody s__law_codes) b__law_codes :=
  (fss_cons (O1 := []) (fs_set (i := 0) sc__law_codes.nd (fv_e (fl_e (fl_lst (fa_cons (f_str' [73, 110, 118, 97, 108, 105, 100, 78, 97, 109, 101] lit_3) (fa_cons (f_str' [73, 110, 118, 97, 108, 105, 100, 83, 99, 104, 101, 109, 101] lit_4) (fa_cons (f_str' [73, 110, 118, 97, 108, 105, 100, 82, 111, 119] lit_5) (fa_cons (f_str' [73, 110, 118, 97, 108, 105, 100, 76, 111, 111, 115, 101] lit_6) (fa_cons (f_str' [73, 110, 118, 97, 108, 105, 100, 86, 97, 114, 105, 97, 98, 108, 101, 115] lit_7) (fa_cons (f_str' [73, 110, 118, 97, 108, 105, 100, 80, 97, 114, 116] lit_8) (fa_nil)))))))))))
      ((fss_cons (O1 := []) (fs_set (i := 0) sc__law_codes.nd (fv_e (fl_e (fl_op op_cat op2_cat f_cat (fqn 0 (fl_p (fl_lst (fa_cons (f_str' [73, 110, 118, 97, 108, 105, 100, 70, 111, 114, 109, 117, 108, 97] lit_9) (fa_cons (f_str' [73, 110, 118, 97, 108, 105, 100, 67, 111, 108, 117, 109, 110, 115] lit_10) (fa_cons (f_str' [73, 110, 118, 97, 108, 105, 100, 65, 110, 115, 119, 101, 114] lit_11) (fa_cons (f_str' [73, 110, 118, 97, 108, 105, 100, 84, 114, 117, 116, 104, 115] lit_12) (fa_cons (f_str' [73, 110, 118, 97, 108, 105, 100, 70, 105, 108, 108, 105, 110, 103] lit_13) (fa_cons (f_str' [73, 110, 118, 97, 108, 105, 100, 77, 101, 97, 110, 105, 110, 103] lit_14) (fa_nil))))))))))))))
      ((fss_cons (O1 := []) (fs_set (i := 0) sc__law_codes.nd (fv_e (fl_e (fl_op op_cat op2_cat f_cat (fqn 0 (fl_p (fl_lst (fa_cons (f_str' [73, 110, 118, 97, 108, 105, 100, 84, 101, 120, 116] lit_15) (fa_cons (f_str' [73, 110, 118, 97, 108, 105, 100, 67, 111, 109, 109, 97, 110, 100] lit_16) (fa_cons (f_str' [73, 110, 118, 97, 108, 105, 100, 76, 105, 109, 105, 116] lit_17) (fa_cons (f_str' [73, 110, 118, 97, 108, 105, 100, 80, 97, 103, 101] lit_18) (fa_cons (f_str' [79, 116, 104, 101, 114, 83, 99, 104, 101, 109, 101] lit_19) (fa_cons (f_str' [79, 116, 104, 101, 114, 67, 111, 108, 117, 109, 110, 115] lit_20) (fa_nil))))))))))))))
      ((fss_cons (O1 := []) (fs_set (i := 0) sc__law_codes.nd (fv_e (fl_e (fl_op op_cat op2_cat f_cat (fqn 0 (fl_p (fl_lst (fa_cons (f_str' [72, 97, 115, 67, 111, 108, 117, 109, 110, 115] lit_21) (fa_cons (f_str' [78, 111, 116, 83, 97, 102, 101] lit_22) (fa_cons (f_str' [84, 111, 111, 77, 97, 110, 121] lit_23) (fa_cons (f_str' [70, 117, 108, 108] lit_24) (fa_cons (f_str' [85, 110, 107, 110, 111, 119, 110, 78, 97, 109, 101] lit_25) (fa_cons (f_str' [85, 110, 107, 110, 111, 119, 110, 82, 111, 119] lit_26) (fa_cons (f_str' [85, 110, 107, 110, 111, 119, 110, 86, 97, 108, 117, 101] lit_27) (fa_nil)))))))))))))))
      ((fss_cons (O1 := []) (fs_ret (fv_e (fl_e (fl_op op_cat op2_cat f_cat (fqn 0 (fl_p (fl_lst (fa_cons (f_str' [78, 111, 116, 104, 105, 110, 103, 76, 101, 102, 116] lit_28) (fa_nil)))))))))
      (fss_nil))))))))))
theorem ok__law_codes (T : Tp P w K mg base) : FnOk P w K mg base (CXq P w) 1 T.f__law_codes T.fd__law_codes [] (spD K (spF (cmT T) 0 false f__law_codes)) := by
  exact okF T.F__law_codes sc__law_codes fun cdv A outer s H E Fm hr => der__law_codes T hr 
theorem der__law_same {n : Nat} (T : Tp P w K mg base) {cdv : Value} {A : Around} {outer : List PySem.Env} {s : Shared} {H : Hp} {E : XK} {Fm : Fm} (hr : Room (0 + n) (cxD P w K mg base ["_law_found", "_law_due", "_law_one", "_law_two"] "_law_same" (defScope s__law_same) T.f__law_same cdv A outer s H E).A) (G__law_same : FnOk P w K mg base (CXq P w) (0 + n) T.f__law_same T.fd__law_same ["_law_found", "_law_due"] (spD K (spF (cmT T) 2 false (f__law_same n)))) :
    FSs (cmT T) (cxD P w K mg base ["_law_found", "_law_due", "_law_one", "_law_two"] "_law_same" (defScope s__law_same) T.f__law_same cdv A outer s H E) Fm (wxD E) [] ⟨[], [], [], false⟩ (defBody s__law_same) (b__law_same (f__law_same n)) :=
  (fss_cons (O1 := []) (fs_if (ft_val (fe_isi2 "list" "tuple" is_list is_tuple T.z_isinstance T.z_list T.z_tuple (fvp 1)))
        ((fss_cons (O1 := []) (fs_if (ft_w (fw_or (ft_cmp (op_neP hr.units) op2_ne f_ne (fq (fe_isi "list" is_list T.z_isinstance T.z_list (fvp 0)) (fp (fe_isi "list" is_list T.z_isinstance T.z_list (fvp 1))))) (fw_or1 (ft_cmp (op_neP hr.units) op2_ne f_ne (fq (fe_isi "tuple" is_tuple T.z_isinstance T.z_tuple (fvp 0)) (fp (fe_isi "tuple" is_tuple T.z_isinstance T.z_tuple (fvp 1))))))))
        ((fss_cons (O1 := []) (fs_ret (fv_e (f_bl)))
      (fss_nil)))
        (fss_nil))
      ((fss_cons (O1 := []) (fs_ret (fv_e (fe_and (fe_cmp (op_eqP hr.units) op2_eq f_eq (fq (fe_len T.z_len (fvp 0)) (fp (fe_len T.z_len (fvp 1))))) (fe_one (fe_all rfl T.z_all (fl_p (fl_lc (O := []) (own := [("_law_one", 2), ("_law_two", 3)]) (by rfl) sc__law_same.nd (fi_zip T.z_zip (fv 0) (fv 1)) (blkOk_by (N := ["_law_found", "_law_due", "_law_one", "_law_two"]) (sc := defScope s__law_same) (by decide +kernel)) (fun _ _ _ _ _ => fg_tup K 2 (by rfl) (fgs_cons (fg 2 sc__law_same.nd) (fgs_cons (fg 3 sc__law_same.nd) (fgs_nil)))) (fun _ _ _ _ _ => fts_nil) (fun _ _ _ _ _ => fe_v (fv_name (fc_fix (idx := [0, 1]) (dd := []) G__law_same (hr.mono (by omega)) (bd__law_same_2 T) .nil (fun _ => Reps.nil) snk0) T.m__law_same T.F__law_same.kp (fargs (fa_cons (fv 2) (fa_cons (fv 3) (fa_nil))) (fk_nil)))))))))))
      (fss_nil)))))
        (fss_nil))
      ((fss_cons (O1 := []) (fs_if (ft_w (fw_or (ft_cmp op_isN op2_is f_isn (fqn 1 (fp (f_non)))) (fw_or1 (ft_cmp op_isN op2_is f_isn (fqn 0 (fp (f_non)))))))
        ((fss_cons (O1 := []) (fs_ret (fv_e (fe_and (fe_cmp op_isN op2_is f_isn (fqn 1 (fp (f_non)))) (fe_one (fe_cmp op_isN op2_is f_isn (fqn 0 (fp (f_non))))))))
      (fss_nil)))
        (fss_nil))
      ((fss_cons (O1 := []) (fs_if (ft_w (fw_or (ft_cmp (op_neP hr.units) op2_ne f_ne (fq (fe_isi "bool" is_bool T.z_isinstance T.z_bool (fvp 0)) (fp (fe_isi "bool" is_bool T.z_isinstance T.z_bool (fvp 1))))) (fw_or1 (ft_cmp (op_neP hr.units) op2_ne f_ne (fq (fe_isi "int" is_int T.z_isinstance T.z_int (fvp 0)) (fp (fe_isi "int" is_int T.z_isinstance T.z_int (fvp 1))))))))
        ((fss_cons (O1 := []) (fs_ret (fv_e (f_bl)))
      (fss_nil)))
        (fss_nil))
      ((fss_cons (O1 := []) (fs_ret (fv_e (fe_and (fe_cmp (op_eqP hr.units) op2_eq f_eq (fq (fe_isi "str" is_str T.z_isinstance T.z_str (fvp 0)) (fp (fe_isi "str" is_str T.z_isinstance T.z_str (fvp 1))))) (fe_one (fe_cmp (op_eqP hr.units) op2_eq f_eq (fqn 0 (fvp 1)))))))
      (fss_nil))))))))
theorem ok__law_same (T : Tp P w K mg base) : ∀ n : Nat, FnOk P w K mg base (CXq P w) (0 + n) T.f__law_same T.fd__law_same ["_law_found", "_law_due"] (spD K (spF (cmT T) 2 false (f__law_same n)))
  | 0 => okF_no
  | n + 1 => by
    exact okF T.F__law_same sc__law_same fun cdv A outer s H E Fm hr => der__law_same T hr (ok__law_same T n)
theorem der__law_field (T : Tp P w K mg base) {cdv : Value} {A : Around} {outer : List PySem.Env} {s : Shared} {H : Hp} {E : XK} {Fm : Fm} (hr : Room 0 (cxD P w K mg base ["_law_e"] "_law_field" (defScope s__law_field) T.f__law_field cdv A outer s H E).A) :
    FSs (cmT T) (cxD P w K mg base ["_law_e"] "_law_field" (defScope s__law_field) T.f__law_field cdv A outer s H E) Fm (wxD E) [] ⟨[], [], [], false⟩ (defBody s__law_field) b__law_field :=
  (fss_cons (O1 := []) (fs_if (ft_cmp (op_inP hr.units) op2_in f_in (fq (fe_xg [2, 3, 4, 5, 6, 7, 8, 9, 10, 11, 12, 13, 14, 15, 16, 17, 18, 19, 20, 21, 22, 23, 24, 25, 26, 27] 0 rfl (xfOk_cons T.xb_InvalidName T.xn_InvalidName_code (xfOk_cons T.xb_InvalidScheme T.xn_InvalidScheme_code (xfOk_cons T.xb_InvalidRow T.xn_InvalidRow_code (xfOk_cons T.xb_InvalidLoose T.xn_InvalidLoose_code (xfOk_cons T.xb_InvalidVariables T.xn_InvalidVariables_code (xfOk_cons T.xb_InvalidPart T.xn_InvalidPart_code (xfOk_cons T.xb_InvalidFormula T.xn_InvalidFormula_code (xfOk_cons T.xb_InvalidColumns T.xn_InvalidColumns_code (xfOk_cons T.xb_InvalidAnswer T.xn_InvalidAnswer_code (xfOk_cons T.xb_InvalidTruths T.xn_InvalidTruths_code (xfOk_cons T.xb_InvalidFilling T.xn_InvalidFilling_code (xfOk_cons T.xb_InvalidMeaning T.xn_InvalidMeaning_code (xfOk_cons T.xb_InvalidText T.xn_InvalidText_code (xfOk_cons T.xb_InvalidCommand T.xn_InvalidCommand_code (xfOk_cons T.xb_InvalidLimit T.xn_InvalidLimit_code (xfOk_cons T.xb_InvalidPage T.xn_InvalidPage_code (xfOk_cons T.xb_OtherScheme T.xn_OtherScheme_code (xfOk_cons T.xb_OtherColumns T.xn_OtherColumns_code (xfOk_cons T.xb_HasColumns T.xn_HasColumns_code (xfOk_cons T.xb_NotSafe T.xn_NotSafe_code (xfOk_cons T.xb_TooMany T.xn_TooMany_code (xfOk_cons T.xb_Full T.xn_Full_code (xfOk_cons T.xb_UnknownName T.xn_UnknownName_code (xfOk_cons T.xb_UnknownRow T.xn_UnknownRow_code (xfOk_cons T.xb_UnknownValue T.xn_UnknownValue_code (xfOk_cons T.xb_NothingLeft T.xn_NothingLeft_code xfOk_nil)))))))))))))))))))))))))) (fld_code rfl) (fv 0)) (fp (fe_tup (fa_cons (f_str' [73, 110, 118, 97, 108, 105, 100, 83, 99, 104, 101, 109, 101] lit_4) (fa_cons (f_str' [73, 110, 118, 97, 108, 105, 100, 82, 111, 119] lit_5) (fa_cons (f_str' [73, 110, 118, 97, 108, 105, 100, 76, 111, 111, 115, 101] lit_6) (fa_cons (f_str' [73, 110, 118, 97, 108, 105, 100, 80, 97, 114, 116] lit_8) (fa_cons (f_str' [73, 110, 118, 97, 108, 105, 100, 84, 101, 120, 116] lit_15) (fa_cons (f_str' [73, 110, 118, 97, 108, 105, 100, 67, 111, 109, 109, 97, 110, 100] lit_16) (fa_nil)))))))))))
        ((fss_cons (O1 := []) (fs_ret (fv_e (fe_xg [3, 4, 5, 7, 14, 15] 2 rfl (xfOk_cons T.xb_InvalidScheme T.xn_InvalidScheme_at (xfOk_cons T.xb_InvalidRow T.xn_InvalidRow_at (xfOk_cons T.xb_InvalidLoose T.xn_InvalidLoose_at (xfOk_cons T.xb_InvalidPart T.xn_InvalidPart_at (xfOk_cons T.xb_InvalidText T.xn_InvalidText_at (xfOk_cons T.xb_InvalidCommand T.xn_InvalidCommand_at xfOk_nil)))))) (fld_at rfl) (fv 0))))
      (fss_nil)))
        (fss_nil))
      ((fss_cons (O1 := []) (fs_if (ft_cmp (op_inP hr.units) op2_in f_in (fq (fe_xg [2, 3, 4, 5, 6, 7, 8, 9, 10, 11, 12, 13, 14, 15, 16, 17, 18, 19, 20, 21, 22, 23, 24, 25, 26, 27] 0 rfl (xfOk_cons T.xb_InvalidName T.xn_InvalidName_code (xfOk_cons T.xb_InvalidScheme T.xn_InvalidScheme_code (xfOk_cons T.xb_InvalidRow T.xn_InvalidRow_code (xfOk_cons T.xb_InvalidLoose T.xn_InvalidLoose_code (xfOk_cons T.xb_InvalidVariables T.xn_InvalidVariables_code (xfOk_cons T.xb_InvalidPart T.xn_InvalidPart_code (xfOk_cons T.xb_InvalidFormula T.xn_InvalidFormula_code (xfOk_cons T.xb_InvalidColumns T.xn_InvalidColumns_code (xfOk_cons T.xb_InvalidAnswer T.xn_InvalidAnswer_code (xfOk_cons T.xb_InvalidTruths T.xn_InvalidTruths_code (xfOk_cons T.xb_InvalidFilling T.xn_InvalidFilling_code (xfOk_cons T.xb_InvalidMeaning T.xn_InvalidMeaning_code (xfOk_cons T.xb_InvalidText T.xn_InvalidText_code (xfOk_cons T.xb_InvalidCommand T.xn_InvalidCommand_code (xfOk_cons T.xb_InvalidLimit T.xn_InvalidLimit_code (xfOk_cons T.xb_InvalidPage T.xn_InvalidPage_code (xfOk_cons T.xb_OtherScheme T.xn_OtherScheme_code (xfOk_cons T.xb_OtherColumns T.xn_OtherColumns_code (xfOk_cons T.xb_HasColumns T.xn_HasColumns_code (xfOk_cons T.xb_NotSafe T.xn_NotSafe_code (xfOk_cons T.xb_TooMany T.xn_TooMany_code (xfOk_cons T.xb_Full T.xn_Full_code (xfOk_cons T.xb_UnknownName T.xn_UnknownName_code (xfOk_cons T.xb_UnknownRow T.xn_UnknownRow_code (xfOk_cons T.xb_UnknownValue T.xn_UnknownValue_code (xfOk_cons T.xb_NothingLeft T.xn_NothingLeft_code xfOk_nil)))))))))))))))))))))))))) (fld_code rfl) (fv 0)) (fp (fe_tup (fa_cons (f_str' [79, 116, 104, 101, 114, 83, 99, 104, 101, 109, 101] lit_19) (fa_cons (f_str' [79, 116, 104, 101, 114, 67, 111, 108, 117, 109, 110, 115] lit_20) (fa_cons (f_str' [72, 97, 115, 67, 111, 108, 117, 109, 110, 115] lit_21) (fa_cons (f_str' [78, 111, 116, 83, 97, 102, 101] lit_22) (fa_cons (f_str' [78, 111, 116, 104, 105, 110, 103, 76, 101, 102, 116] lit_28) (fa_nil))))))))))
        ((fss_cons (O1 := []) (fs_ret (fv_e (f_non)))
      (fss_nil)))
        (fss_nil))
      ((fss_cons (O1 := []) (fs_if (ft_cmp (op_inP hr.units) op2_in f_in (fq (fe_xg [2, 3, 4, 5, 6, 7, 8, 9, 10, 11, 12, 13, 14, 15, 16, 17, 18, 19, 20, 21, 22, 23, 24, 25, 26, 27] 0 rfl (xfOk_cons T.xb_InvalidName T.xn_InvalidName_code (xfOk_cons T.xb_InvalidScheme T.xn_InvalidScheme_code (xfOk_cons T.xb_InvalidRow T.xn_InvalidRow_code (xfOk_cons T.xb_InvalidLoose T.xn_InvalidLoose_code (xfOk_cons T.xb_InvalidVariables T.xn_InvalidVariables_code (xfOk_cons T.xb_InvalidPart T.xn_InvalidPart_code (xfOk_cons T.xb_InvalidFormula T.xn_InvalidFormula_code (xfOk_cons T.xb_InvalidColumns T.xn_InvalidColumns_code (xfOk_cons T.xb_InvalidAnswer T.xn_InvalidAnswer_code (xfOk_cons T.xb_InvalidTruths T.xn_InvalidTruths_code (xfOk_cons T.xb_InvalidFilling T.xn_InvalidFilling_code (xfOk_cons T.xb_InvalidMeaning T.xn_InvalidMeaning_code (xfOk_cons T.xb_InvalidText T.xn_InvalidText_code (xfOk_cons T.xb_InvalidCommand T.xn_InvalidCommand_code (xfOk_cons T.xb_InvalidLimit T.xn_InvalidLimit_code (xfOk_cons T.xb_InvalidPage T.xn_InvalidPage_code (xfOk_cons T.xb_OtherScheme T.xn_OtherScheme_code (xfOk_cons T.xb_OtherColumns T.xn_OtherColumns_code (xfOk_cons T.xb_HasColumns T.xn_HasColumns_code (xfOk_cons T.xb_NotSafe T.xn_NotSafe_code (xfOk_cons T.xb_TooMany T.xn_TooMany_code (xfOk_cons T.xb_Full T.xn_Full_code (xfOk_cons T.xb_UnknownName T.xn_UnknownName_code (xfOk_cons T.xb_UnknownRow T.xn_UnknownRow_code (xfOk_cons T.xb_UnknownValue T.xn_UnknownValue_code (xfOk_cons T.xb_NothingLeft T.xn_NothingLeft_code xfOk_nil)))))))))))))))))))))))))) (fld_code rfl) (fv 0)) (fp (fe_tup (fa_cons (f_str' [84, 111, 111, 77, 97, 110, 121] lit_23) (fa_cons (f_str' [70, 117, 108, 108] lit_24) (fa_nil)))))))
        ((fss_cons (O1 := []) (fs_ret (fv_e (fe_if (ft_cmp (op_eqP hr.units) op2_eq f_eq (fq (fe_xg [2, 3, 4, 5, 6, 7, 8, 9, 10, 11, 12, 13, 14, 15, 16, 17, 18, 19, 20, 21, 22, 23, 24, 25, 26, 27] 0 rfl (xfOk_cons T.xb_InvalidName T.xn_InvalidName_code (xfOk_cons T.xb_InvalidScheme T.xn_InvalidScheme_code (xfOk_cons T.xb_InvalidRow T.xn_InvalidRow_code (xfOk_cons T.xb_InvalidLoose T.xn_InvalidLoose_code (xfOk_cons T.xb_InvalidVariables T.xn_InvalidVariables_code (xfOk_cons T.xb_InvalidPart T.xn_InvalidPart_code (xfOk_cons T.xb_InvalidFormula T.xn_InvalidFormula_code (xfOk_cons T.xb_InvalidColumns T.xn_InvalidColumns_code (xfOk_cons T.xb_InvalidAnswer T.xn_InvalidAnswer_code (xfOk_cons T.xb_InvalidTruths T.xn_InvalidTruths_code (xfOk_cons T.xb_InvalidFilling T.xn_InvalidFilling_code (xfOk_cons T.xb_InvalidMeaning T.xn_InvalidMeaning_code (xfOk_cons T.xb_InvalidText T.xn_InvalidText_code (xfOk_cons T.xb_InvalidCommand T.xn_InvalidCommand_code (xfOk_cons T.xb_InvalidLimit T.xn_InvalidLimit_code (xfOk_cons T.xb_InvalidPage T.xn_InvalidPage_code (xfOk_cons T.xb_OtherScheme T.xn_OtherScheme_code (xfOk_cons T.xb_OtherColumns T.xn_OtherColumns_code (xfOk_cons T.xb_HasColumns T.xn_HasColumns_code (xfOk_cons T.xb_NotSafe T.xn_NotSafe_code (xfOk_cons T.xb_TooMany T.xn_TooMany_code (xfOk_cons T.xb_Full T.xn_Full_code (xfOk_cons T.xb_UnknownName T.xn_UnknownName_code (xfOk_cons T.xb_UnknownRow T.xn_UnknownRow_code (xfOk_cons T.xb_UnknownValue T.xn_UnknownValue_code (xfOk_cons T.xb_NothingLeft T.xn_NothingLeft_code xfOk_nil)))))))))))))))))))))))))) (fld_code rfl) (fv 0)) (fp (f_str' [84, 111, 111, 77, 97, 110, 121] lit_23)))) (fe_xg [22] 4 rfl (xfOk_cons T.xb_TooMany T.xn_TooMany_most xfOk_nil) (fld_most rfl) (fv 0)) (fe_xg [23] 5 rfl (xfOk_cons T.xb_Full T.xn_Full_limit xfOk_nil) (fld_limit rfl) (fv 0)))))
      (fss_nil)))
        (fss_nil))
      ((fss_cons (O1 := []) (fs_if (ft_cmp (op_inP hr.units) op2_in f_in (fq (fe_xg [2, 3, 4, 5, 6, 7, 8, 9, 10, 11, 12, 13, 14, 15, 16, 17, 18, 19, 20, 21, 22, 23, 24, 25, 26, 27] 0 rfl (xfOk_cons T.xb_InvalidName T.xn_InvalidName_code (xfOk_cons T.xb_InvalidScheme T.xn_InvalidScheme_code (xfOk_cons T.xb_InvalidRow T.xn_InvalidRow_code (xfOk_cons T.xb_InvalidLoose T.xn_InvalidLoose_code (xfOk_cons T.xb_InvalidVariables T.xn_InvalidVariables_code (xfOk_cons T.xb_InvalidPart T.xn_InvalidPart_code (xfOk_cons T.xb_InvalidFormula T.xn_InvalidFormula_code (xfOk_cons T.xb_InvalidColumns T.xn_InvalidColumns_code (xfOk_cons T.xb_InvalidAnswer T.xn_InvalidAnswer_code (xfOk_cons T.xb_InvalidTruths T.xn_InvalidTruths_code (xfOk_cons T.xb_InvalidFilling T.xn_InvalidFilling_code (xfOk_cons T.xb_InvalidMeaning T.xn_InvalidMeaning_code (xfOk_cons T.xb_InvalidText T.xn_InvalidText_code (xfOk_cons T.xb_InvalidCommand T.xn_InvalidCommand_code (xfOk_cons T.xb_InvalidLimit T.xn_InvalidLimit_code (xfOk_cons T.xb_InvalidPage T.xn_InvalidPage_code (xfOk_cons T.xb_OtherScheme T.xn_OtherScheme_code (xfOk_cons T.xb_OtherColumns T.xn_OtherColumns_code (xfOk_cons T.xb_HasColumns T.xn_HasColumns_code (xfOk_cons T.xb_NotSafe T.xn_NotSafe_code (xfOk_cons T.xb_TooMany T.xn_TooMany_code (xfOk_cons T.xb_Full T.xn_Full_code (xfOk_cons T.xb_UnknownName T.xn_UnknownName_code (xfOk_cons T.xb_UnknownRow T.xn_UnknownRow_code (xfOk_cons T.xb_UnknownValue T.xn_UnknownValue_code (xfOk_cons T.xb_NothingLeft T.xn_NothingLeft_code xfOk_nil)))))))))))))))))))))))))) (fld_code rfl) (fv 0)) (fp (fe_tup (fa_cons (f_str' [85, 110, 107, 110, 111, 119, 110, 78, 97, 109, 101] lit_25) (fa_cons (f_str' [85, 110, 107, 110, 111, 119, 110, 82, 111, 119] lit_26) (fa_nil)))))))
        ((fss_cons (O1 := []) (fs_ret (fv_e (fe_if (ft_cmp (op_eqP hr.units) op2_eq f_eq (fq (fe_xg [2, 3, 4, 5, 6, 7, 8, 9, 10, 11, 12, 13, 14, 15, 16, 17, 18, 19, 20, 21, 22, 23, 24, 25, 26, 27] 0 rfl (xfOk_cons T.xb_InvalidName T.xn_InvalidName_code (xfOk_cons T.xb_InvalidScheme T.xn_InvalidScheme_code (xfOk_cons T.xb_InvalidRow T.xn_InvalidRow_code (xfOk_cons T.xb_InvalidLoose T.xn_InvalidLoose_code (xfOk_cons T.xb_InvalidVariables T.xn_InvalidVariables_code (xfOk_cons T.xb_InvalidPart T.xn_InvalidPart_code (xfOk_cons T.xb_InvalidFormula T.xn_InvalidFormula_code (xfOk_cons T.xb_InvalidColumns T.xn_InvalidColumns_code (xfOk_cons T.xb_InvalidAnswer T.xn_InvalidAnswer_code (xfOk_cons T.xb_InvalidTruths T.xn_InvalidTruths_code (xfOk_cons T.xb_InvalidFilling T.xn_InvalidFilling_code (xfOk_cons T.xb_InvalidMeaning T.xn_InvalidMeaning_code (xfOk_cons T.xb_InvalidText T.xn_InvalidText_code (xfOk_cons T.xb_InvalidCommand T.xn_InvalidCommand_code (xfOk_cons T.xb_InvalidLimit T.xn_InvalidLimit_code (xfOk_cons T.xb_InvalidPage T.xn_InvalidPage_code (xfOk_cons T.xb_OtherScheme T.xn_OtherScheme_code (xfOk_cons T.xb_OtherColumns T.xn_OtherColumns_code (xfOk_cons T.xb_HasColumns T.xn_HasColumns_code (xfOk_cons T.xb_NotSafe T.xn_NotSafe_code (xfOk_cons T.xb_TooMany T.xn_TooMany_code (xfOk_cons T.xb_Full T.xn_Full_code (xfOk_cons T.xb_UnknownName T.xn_UnknownName_code (xfOk_cons T.xb_UnknownRow T.xn_UnknownRow_code (xfOk_cons T.xb_UnknownValue T.xn_UnknownValue_code (xfOk_cons T.xb_NothingLeft T.xn_NothingLeft_code xfOk_nil)))))))))))))))))))))))))) (fld_code rfl) (fv 0)) (fp (f_str' [85, 110, 107, 110, 111, 119, 110, 78, 97, 109, 101] lit_25)))) (fe_xg [24] 6 rfl (xfOk_cons T.xb_UnknownName T.xn_UnknownName_name xfOk_nil) (fld_name rfl) (fv 0)) (fe_xg [25] 7 rfl (xfOk_cons T.xb_UnknownRow T.xn_UnknownRow_row xfOk_nil) (fld_row rfl) (fv 0)))))
      (fss_nil)))
        (fss_nil))
      ((fss_cons (O1 := []) (fs_ret (fv_e (fe_if (ft_cmp (op_eqP hr.units) op2_eq f_eq (fq (fe_xg [2, 3, 4, 5, 6, 7, 8, 9, 10, 11, 12, 13, 14, 15, 16, 17, 18, 19, 20, 21, 22, 23, 24, 25, 26, 27] 0 rfl (xfOk_cons T.xb_InvalidName T.xn_InvalidName_code (xfOk_cons T.xb_InvalidScheme T.xn_InvalidScheme_code (xfOk_cons T.xb_InvalidRow T.xn_InvalidRow_code (xfOk_cons T.xb_InvalidLoose T.xn_InvalidLoose_code (xfOk_cons T.xb_InvalidVariables T.xn_InvalidVariables_code (xfOk_cons T.xb_InvalidPart T.xn_InvalidPart_code (xfOk_cons T.xb_InvalidFormula T.xn_InvalidFormula_code (xfOk_cons T.xb_InvalidColumns T.xn_InvalidColumns_code (xfOk_cons T.xb_InvalidAnswer T.xn_InvalidAnswer_code (xfOk_cons T.xb_InvalidTruths T.xn_InvalidTruths_code (xfOk_cons T.xb_InvalidFilling T.xn_InvalidFilling_code (xfOk_cons T.xb_InvalidMeaning T.xn_InvalidMeaning_code (xfOk_cons T.xb_InvalidText T.xn_InvalidText_code (xfOk_cons T.xb_InvalidCommand T.xn_InvalidCommand_code (xfOk_cons T.xb_InvalidLimit T.xn_InvalidLimit_code (xfOk_cons T.xb_InvalidPage T.xn_InvalidPage_code (xfOk_cons T.xb_OtherScheme T.xn_OtherScheme_code (xfOk_cons T.xb_OtherColumns T.xn_OtherColumns_code (xfOk_cons T.xb_HasColumns T.xn_HasColumns_code (xfOk_cons T.xb_NotSafe T.xn_NotSafe_code (xfOk_cons T.xb_TooMany T.xn_TooMany_code (xfOk_cons T.xb_Full T.xn_Full_code (xfOk_cons T.xb_UnknownName T.xn_UnknownName_code (xfOk_cons T.xb_UnknownRow T.xn_UnknownRow_code (xfOk_cons T.xb_UnknownValue T.xn_UnknownValue_code (xfOk_cons T.xb_NothingLeft T.xn_NothingLeft_code xfOk_nil)))))))))))))))))))))))))) (fld_code rfl) (fv 0)) (fp (f_str' [73, 110, 118, 97, 108, 105, 100, 80, 97, 103, 101] lit_18)))) (fe_xg [17] 3 rfl (xfOk_cons T.xb_InvalidPage T.xn_InvalidPage_line xfOk_nil) (fld_line rfl) (fv 0)) (fe_xg [2, 6, 8, 9, 10, 11, 12, 13, 16, 26] 1 rfl (xfOk_cons T.xb_InvalidName T.xn_InvalidName_given (xfOk_cons T.xb_InvalidVariables T.xn_InvalidVariables_given (xfOk_cons T.xb_InvalidFormula T.xn_InvalidFormula_given (xfOk_cons T.xb_InvalidColumns T.xn_InvalidColumns_given (xfOk_cons T.xb_InvalidAnswer T.xn_InvalidAnswer_given (xfOk_cons T.xb_InvalidTruths T.xn_InvalidTruths_given (xfOk_cons T.xb_InvalidFilling T.xn_InvalidFilling_given (xfOk_cons T.xb_InvalidMeaning T.xn_InvalidMeaning_given (xfOk_cons T.xb_InvalidLimit T.xn_InvalidLimit_given (xfOk_cons T.xb_UnknownValue T.xn_UnknownValue_given xfOk_nil)))))))))) (fld_given rfl) (fv 0)))))
      (fss_nil))))))))))
theorem ok__law_field (T : Tp P w K mg base) : FnOk P w K mg base (CXq P w) 1 T.f__law_field T.fd__law_field ["_law_e"] (spD K (spF (cmT T) 1 false f__law_field)) := by
  exact okF T.F__law_field sc__law_field fun cdv A outer s H E Fm hr => der__law_field T hr 
theorem der__law_classes (T : Tp P w K mg base) {cdv : Value} {A : Around} {outer : List PySem.Env} {s : Shared} {H : Hp} {E : XK} {Fm : Fm} (hr : Room 0 (cxD P w K mg base ["_law_e", "_law_found"] "_law_classes" (defScope s__law_classes) T.f__law_classes cdv A outer s H E).A) :
    FSs (cmT T) (cxD P w K mg base ["_law_e", "_law_found"] "_law_classes" (defScope s__law_classes) T.f__law_classes cdv A outer s H E) Fm (wxD E) [] ⟨[], [], [], false⟩ (defBody s__law_classes) b__law_classes :=
  (fss_cons (O1 := []) (fs_set (i := 1) sc__law_classes.nd (fv_e (fl_e (fl_lst (fa_cons (fe_isx [(2, true), (3, false), (4, false), (5, false), (6, false), (7, false), (8, false), (9, false), (10, false), (11, false), (12, false), (13, false), (14, false), (15, false), (16, false), (17, false), (18, false), (19, false), (20, false), (21, false), (22, false), (23, false), (24, false), (25, false), (26, false), (27, false)] rfl (isxOk_of [2, 3, 4, 5, 6, 7, 8, 9, 10, 11, 12, 13, 14, 15, 16, 17, 18, 19, 20, 21, 22, 23, 24, 25, 26, 27] [(2, true), (3, false), (4, false), (5, false), (6, false), (7, false), (8, false), (9, false), (10, false), (11, false), (12, false), (13, false), (14, false), (15, false), (16, false), (17, false), (18, false), (19, false), (20, false), (21, false), (22, false), (23, false), (24, false), (25, false), (26, false), (27, false)] T.esl_ T.kil_InvalidName) T.z_isinstance T.mC_InvalidName (fv 0)) (fa_cons (fe_isx [(2, false), (3, true), (4, false), (5, false), (6, false), (7, false), (8, false), (9, false), (10, false), (11, false), (12, false), (13, false), (14, false), (15, false), (16, false), (17, false), (18, false), (19, false), (20, false), (21, false), (22, false), (23, false), (24, false), (25, false), (26, false), (27, false)] rfl (isxOk_of [2, 3, 4, 5, 6, 7, 8, 9, 10, 11, 12, 13, 14, 15, 16, 17, 18, 19, 20, 21, 22, 23, 24, 25, 26, 27] [(2, false), (3, true), (4, false), (5, false), (6, false), (7, false), (8, false), (9, false), (10, false), (11, false), (12, false), (13, false), (14, false), (15, false), (16, false), (17, false), (18, false), (19, false), (20, false), (21, false), (22, false), (23, false), (24, false), (25, false), (26, false), (27, false)] T.esl_ T.kil_InvalidScheme) T.z_isinstance T.mC_InvalidScheme (fv 0)) (fa_cons (fe_isx [(2, false), (3, false), (4, true), (5, false), (6, false), (7, false), (8, false), (9, false), (10, false), (11, false), (12, false), (13, false), (14, false), (15, false), (16, false), (17, false), (18, false), (19, false), (20, false), (21, false), (22, false), (23, false), (24, false), (25, false), (26, false), (27, false)] rfl (isxOk_of [2, 3, 4, 5, 6, 7, 8, 9, 10, 11, 12, 13, 14, 15, 16, 17, 18, 19, 20, 21, 22, 23, 24, 25, 26, 27] [(2, false), (3, false), (4, true), (5, false), (6, false), (7, false), (8, false), (9, false), (10, false), (11, false), (12, false), (13, false), (14, false), (15, false), (16, false), (17, false), (18, false), (19, false), (20, false), (21, false), (22, false), (23, false), (24, false), (25, false), (26, false), (27, false)] T.esl_ T.kil_InvalidRow) T.z_isinstance T.mC_InvalidRow (fv 0)) (fa_nil))))))))
      ((fss_cons (O1 := []) (fs_set (i := 1) sc__law_classes.nd (fv_e (fl_e (fl_op op_cat op2_cat f_cat (fqn 1 (fl_p (fl_lst (fa_cons (fe_isx [(2, false), (3, false), (4, false), (5, true), (6, false), (7, false), (8, false), (9, false), (10, false), (11, false), (12, false), (13, false), (14, false), (15, false), (16, false), (17, false), (18, false), (19, false), (20, false), (21, false), (22, false), (23, false), (24, false), (25, false), (26, false), (27, false)] rfl (isxOk_of [2, 3, 4, 5, 6, 7, 8, 9, 10, 11, 12, 13, 14, 15, 16, 17, 18, 19, 20, 21, 22, 23, 24, 25, 26, 27] [(2, false), (3, false), (4, false), (5, true), (6, false), (7, false), (8, false), (9, false), (10, false), (11, false), (12, false), (13, false), (14, false), (15, false), (16, false), (17, false), (18, false), (19, false), (20, false), (21, false), (22, false), (23, false), (24, false), (25, false), (26, false), (27, false)] T.esl_ T.kil_InvalidLoose) T.z_isinstance T.mC_InvalidLoose (fv 0)) (fa_cons (fe_isx [(2, false), (3, false), (4, false), (5, false), (6, true), (7, false), (8, false), (9, false), (10, false), (11, false), (12, false), (13, false), (14, false), (15, false), (16, false), (17, false), (18, false), (19, false), (20, false), (21, false), (22, false), (23, false), (24, false), (25, false), (26, false), (27, false)] rfl (isxOk_of [2, 3, 4, 5, 6, 7, 8, 9, 10, 11, 12, 13, 14, 15, 16, 17, 18, 19, 20, 21, 22, 23, 24, 25, 26, 27] [(2, false), (3, false), (4, false), (5, false), (6, true), (7, false), (8, false), (9, false), (10, false), (11, false), (12, false), (13, false), (14, false), (15, false), (16, false), (17, false), (18, false), (19, false), (20, false), (21, false), (22, false), (23, false), (24, false), (25, false), (26, false), (27, false)] T.esl_ T.kil_InvalidVariables) T.z_isinstance T.mC_InvalidVariables (fv 0)) (fa_cons (fe_isx [(2, false), (3, false), (4, false), (5, false), (6, false), (7, true), (8, false), (9, false), (10, false), (11, false), (12, false), (13, false), (14, false), (15, false), (16, false), (17, false), (18, false), (19, false), (20, false), (21, false), (22, false), (23, false), (24, false), (25, false), (26, false), (27, false)] rfl (isxOk_of [2, 3, 4, 5, 6, 7, 8, 9, 10, 11, 12, 13, 14, 15, 16, 17, 18, 19, 20, 21, 22, 23, 24, 25, 26, 27] [(2, false), (3, false), (4, false), (5, false), (6, false), (7, true), (8, false), (9, false), (10, false), (11, false), (12, false), (13, false), (14, false), (15, false), (16, false), (17, false), (18, false), (19, false), (20, false), (21, false), (22, false), (23, false), (24, false), (25, false), (26, false), (27, false)] T.esl_ T.kil_InvalidPart) T.z_isinstance T.mC_InvalidPart (fv 0)) (fa_nil)))))))))))
      ((fss_cons (O1 := []) (fs_set (i := 1) sc__law_classes.nd (fv_e (fl_e (fl_op op_cat op2_cat f_cat (fqn 1 (fl_p (fl_lst (fa_cons (fe_isx [(2, false), (3, false), (4, false), (5, false), (6, false), (7, false), (8, true), (9, false), (10, false), (11, false), (12, false), (13, false), (14, false), (15, false), (16, false), (17, false), (18, false), (19, false), (20, false), (21, false), (22, false), (23, false), (24, false), (25, false), (26, false), (27, false)] rfl (isxOk_of [2, 3, 4, 5, 6, 7, 8, 9, 10, 11, 12, 13, 14, 15, 16, 17, 18, 19, 20, 21, 22, 23, 24, 25, 26, 27] [(2, false), (3, false), (4, false), (5, false), (6, false), (7, false), (8, true), (9, false), (10, false), (11, false), (12, false), (13, false), (14, false), (15, false), (16, false), (17, false), (18, false), (19, false), (20, false), (21, false), (22, false), (23, false), (24, false), (25, false), (26, false), (27, false)] T.esl_ T.kil_InvalidFormula) T.z_isinstance T.mC_InvalidFormula (fv 0)) (fa_cons (fe_isx [(2, false), (3, false), (4, false), (5, false), (6, false), (7, false), (8, false), (9, true), (10, false), (11, false), (12, false), (13, false), (14, false), (15, false), (16, false), (17, false), (18, false), (19, false), (20, false), (21, false), (22, false), (23, false), (24, false), (25, false), (26, false), (27, false)] rfl (isxOk_of [2, 3, 4, 5, 6, 7, 8, 9, 10, 11, 12, 13, 14, 15, 16, 17, 18, 19, 20, 21, 22, 23, 24, 25, 26, 27] [(2, false), (3, false), (4, false), (5, false), (6, false), (7, false), (8, false), (9, true), (10, false), (11, false), (12, false), (13, false), (14, false), (15, false), (16, false), (17, false), (18, false), (19, false), (20, false), (21, false), (22, false), (23, false), (24, false), (25, false), (26, false), (27, false)] T.esl_ T.kil_InvalidColumns) T.z_isinstance T.mC_InvalidColumns (fv 0)) (fa_cons (fe_isx [(2, false), (3, false), (4, false), (5, false), (6, false), (7, false), (8, false), (9, false), (10, true), (11, false), (12, false), (13, false), (14, false), (15, false), (16, false), (17, false), (18, false), (19, false), (20, false), (21, false), (22, false), (23, false), (24, false), (25, false), (26, false), (27, false)] rfl (isxOk_of [2, 3, 4, 5, 6, 7, 8, 9, 10, 11, 12, 13, 14, 15, 16, 17, 18, 19, 20, 21, 22, 23, 24, 25, 26, 27] [(2, false), (3, false), (4, false), (5, false), (6, false), (7, false), (8, false), (9, false), (10, true), (11, false), (12, false), (13, false), (14, false), (15, false), (16, false), (17, false), (18, false), (19, false), (20, false), (21, false), (22, false), (23, false), (24, false), (25, false), (26, false), (27, false)] T.esl_ T.kil_InvalidAnswer) T.z_isinstance T.mC_InvalidAnswer (fv 0)) (fa_nil)))))))))))
      ((fss_cons (O1 := []) (fs_set (i := 1) sc__law_classes.nd (fv_e (fl_e (fl_op op_cat op2_cat f_cat (fqn 1 (fl_p (fl_lst (fa_cons (fe_isx [(2, false), (3, false), (4, false), (5, false), (6, false), (7, false), (8, false), (9, false), (10, false), (11, true), (12, false), (13, false), (14, false), (15, false), (16, false), (17, false), (18, false), (19, false), (20, false), (21, false), (22, false), (23, false), (24, false), (25, false), (26, false), (27, false)] rfl (isxOk_of [2, 3, 4, 5, 6, 7, 8, 9, 10, 11, 12, 13, 14, 15, 16, 17, 18, 19, 20, 21, 22, 23, 24, 25, 26, 27] [(2, false), (3, false), (4, false), (5, false), (6, false), (7, false), (8, false), (9, false), (10, false), (11, true), (12, false), (13, false), (14, false), (15, false), (16, false), (17, false), (18, false), (19, false), (20, false), (21, false), (22, false), (23, false), (24, false), (25, false), (26, false), (27, false)] T.esl_ T.kil_InvalidTruths) T.z_isinstance T.mC_InvalidTruths (fv 0)) (fa_cons (fe_isx [(2, false), (3, false), (4, false), (5, false), (6, false), (7, false), (8, false), (9, false), (10, false), (11, false), (12, true), (13, false), (14, false), (15, false), (16, false), (17, false), (18, false), (19, false), (20, false), (21, false), (22, false), (23, false), (24, false), (25, false), (26, false), (27, false)] rfl (isxOk_of [2, 3, 4, 5, 6, 7, 8, 9, 10, 11, 12, 13, 14, 15, 16, 17, 18, 19, 20, 21, 22, 23, 24, 25, 26, 27] [(2, false), (3, false), (4, false), (5, false), (6, false), (7, false), (8, false), (9, false), (10, false), (11, false), (12, true), (13, false), (14, false), (15, false), (16, false), (17, false), (18, false), (19, false), (20, false), (21, false), (22, false), (23, false), (24, false), (25, false), (26, false), (27, false)] T.esl_ T.kil_InvalidFilling) T.z_isinstance T.mC_InvalidFilling (fv 0)) (fa_cons (fe_isx [(2, false), (3, false), (4, false), (5, false), (6, false), (7, false), (8, false), (9, false), (10, false), (11, false), (12, false), (13, true), (14, false), (15, false), (16, false), (17, false), (18, false), (19, false), (20, false), (21, false), (22, false), (23, false), (24, false), (25, false), (26, false), (27, false)] rfl (isxOk_of [2, 3, 4, 5, 6, 7, 8, 9, 10, 11, 12, 13, 14, 15, 16, 17, 18, 19, 20, 21, 22, 23, 24, 25, 26, 27] [(2, false), (3, false), (4, false), (5, false), (6, false), (7, false), (8, false), (9, false), (10, false), (11, false), (12, false), (13, true), (14, false), (15, false), (16, false), (17, false), (18, false), (19, false), (20, false), (21, false), (22, false), (23, false), (24, false), (25, false), (26, false), (27, false)] T.esl_ T.kil_InvalidMeaning) T.z_isinstance T.mC_InvalidMeaning (fv 0)) (fa_nil)))))))))))
      ((fss_cons (O1 := []) (fs_set (i := 1) sc__law_classes.nd (fv_e (fl_e (fl_op op_cat op2_cat f_cat (fqn 1 (fl_p (fl_lst (fa_cons (fe_isx [(2, false), (3, false), (4, false), (5, false), (6, false), (7, false), (8, false), (9, false), (10, false), (11, false), (12, false), (13, false), (14, true), (15, false), (16, false), (17, false), (18, false), (19, false), (20, false), (21, false), (22, false), (23, false), (24, false), (25, false), (26, false), (27, false)] rfl (isxOk_of [2, 3, 4, 5, 6, 7, 8, 9, 10, 11, 12, 13, 14, 15, 16, 17, 18, 19, 20, 21, 22, 23, 24, 25, 26, 27] [(2, false), (3, false), (4, false), (5, false), (6, false), (7, false), (8, false), (9, false), (10, false), (11, false), (12, false), (13, false), (14, true), (15, false), (16, false), (17, false), (18, false), (19, false), (20, false), (21, false), (22, false), (23, false), (24, false), (25, false), (26, false), (27, false)] T.esl_ T.kil_InvalidText) T.z_isinstance T.mC_InvalidText (fv 0)) (fa_cons (fe_isx [(2, false), (3, false), (4, false), (5, false), (6, false), (7, false), (8, false), (9, false), (10, false), (11, false), (12, false), (13, false), (14, false), (15, true), (16, false), (17, false), (18, false), (19, false), (20, false), (21, false), (22, false), (23, false), (24, false), (25, false), (26, false), (27, false)] rfl (isxOk_of [2, 3, 4, 5, 6, 7, 8, 9, 10, 11, 12, 13, 14, 15, 16, 17, 18, 19, 20, 21, 22, 23, 24, 25, 26, 27] [(2, false), (3, false), (4, false), (5, false), (6, false), (7, false), (8, false), (9, false), (10, false), (11, false), (12, false), (13, false), (14, false), (15, true), (16, false), (17, false), (18, false), (19, false), (20, false), (21, false), (22, false), (23, false), (24, false), (25, false), (26, false), (27, false)] T.esl_ T.kil_InvalidCommand) T.z_isinstance T.mC_InvalidCommand (fv 0)) (fa_cons (fe_isx [(2, false), (3, false), (4, false), (5, false), (6, false), (7, false), (8, false), (9, false), (10, false), (11, false), (12, false), (13, false), (14, false), (15, false), (16, true), (17, false), (18, false), (19, false), (20, false), (21, false), (22, false), (23, false), (24, false), (25, false), (26, false), (27, false)] rfl (isxOk_of [2, 3, 4, 5, 6, 7, 8, 9, 10, 11, 12, 13, 14, 15, 16, 17, 18, 19, 20, 21, 22, 23, 24, 25, 26, 27] [(2, false), (3, false), (4, false), (5, false), (6, false), (7, false), (8, false), (9, false), (10, false), (11, false), (12, false), (13, false), (14, false), (15, false), (16, true), (17, false), (18, false), (19, false), (20, false), (21, false), (22, false), (23, false), (24, false), (25, false), (26, false), (27, false)] T.esl_ T.kil_InvalidLimit) T.z_isinstance T.mC_InvalidLimit (fv 0)) (fa_nil)))))))))))
      ((fss_cons (O1 := []) (fs_set (i := 1) sc__law_classes.nd (fv_e (fl_e (fl_op op_cat op2_cat f_cat (fqn 1 (fl_p (fl_lst (fa_cons (fe_isx [(2, false), (3, false), (4, false), (5, false), (6, false), (7, false), (8, false), (9, false), (10, false), (11, false), (12, false), (13, false), (14, false), (15, false), (16, false), (17, true), (18, false), (19, false), (20, false), (21, false), (22, false), (23, false), (24, false), (25, false), (26, false), (27, false)] rfl (isxOk_of [2, 3, 4, 5, 6, 7, 8, 9, 10, 11, 12, 13, 14, 15, 16, 17, 18, 19, 20, 21, 22, 23, 24, 25, 26, 27] [(2, false), (3, false), (4, false), (5, false), (6, false), (7, false), (8, false), (9, false), (10, false), (11, false), (12, false), (13, false), (14, false), (15, false), (16, false), (17, true), (18, false), (19, false), (20, false), (21, false), (22, false), (23, false), (24, false), (25, false), (26, false), (27, false)] T.esl_ T.kil_InvalidPage) T.z_isinstance T.mC_InvalidPage (fv 0)) (fa_cons (fe_isx [(2, false), (3, false), (4, false), (5, false), (6, false), (7, false), (8, false), (9, false), (10, false), (11, false), (12, false), (13, false), (14, false), (15, false), (16, false), (17, false), (18, true), (19, false), (20, false), (21, false), (22, false), (23, false), (24, false), (25, false), (26, false), (27, false)] rfl (isxOk_of [2, 3, 4, 5, 6, 7, 8, 9, 10, 11, 12, 13, 14, 15, 16, 17, 18, 19, 20, 21, 22, 23, 24, 25, 26, 27] [(2, false), (3, false), (4, false), (5, false), (6, false), (7, false), (8, false), (9, false), (10, false), (11, false), (12, false), (13, false), (14, false), (15, false), (16, false), (17, false), (18, true), (19, false), (20, false), (21, false), (22, false), (23, false), (24, false), (25, false), (26, false), (27, false)] T.esl_ T.kil_OtherScheme) T.z_isinstance T.mC_OtherScheme (fv 0)) (fa_cons (fe_isx [(2, false), (3, false), (4, false), (5, false), (6, false), (7, false), (8, false), (9, false), (10, false), (11, false), (12, false), (13, false), (14, false), (15, false), (16, false), (17, false), (18, false), (19, true), (20, false), (21, false), (22, false), (23, false), (24, false), (25, false), (26, false), (27, false)] rfl (isxOk_of [2, 3, 4, 5, 6, 7, 8, 9, 10, 11, 12, 13, 14, 15, 16, 17, 18, 19, 20, 21, 22, 23, 24, 25, 26, 27] [(2, false), (3, false), (4, false), (5, false), (6, false), (7, false), (8, false), (9, false), (10, false), (11, false), (12, false), (13, false), (14, false), (15, false), (16, false), (17, false), (18, false), (19, true), (20, false), (21, false), (22, false), (23, false), (24, false), (25, false), (26, false), (27, false)] T.esl_ T.kil_OtherColumns) T.z_isinstance T.mC_OtherColumns (fv 0)) (fa_nil)))))))))))
      ((fss_cons (O1 := []) (fs_set (i := 1) sc__law_classes.nd (fv_e (fl_e (fl_op op_cat op2_cat f_cat (fqn 1 (fl_p (fl_lst (fa_cons (fe_isx [(2, false), (3, false), (4, false), (5, false), (6, false), (7, false), (8, false), (9, false), (10, false), (11, false), (12, false), (13, false), (14, false), (15, false), (16, false), (17, false), (18, false), (19, false), (20, true), (21, false), (22, false), (23, false), (24, false), (25, false), (26, false), (27, false)] rfl (isxOk_of [2, 3, 4, 5, 6, 7, 8, 9, 10, 11, 12, 13, 14, 15, 16, 17, 18, 19, 20, 21, 22, 23, 24, 25, 26, 27] [(2, false), (3, false), (4, false), (5, false), (6, false), (7, false), (8, false), (9, false), (10, false), (11, false), (12, false), (13, false), (14, false), (15, false), (16, false), (17, false), (18, false), (19, false), (20, true), (21, false), (22, false), (23, false), (24, false), (25, false), (26, false), (27, false)] T.esl_ T.kil_HasColumns) T.z_isinstance T.mC_HasColumns (fv 0)) (fa_cons (fe_isx [(2, false), (3, false), (4, false), (5, false), (6, false), (7, false), (8, false), (9, false), (10, false), (11, false), (12, false), (13, false), (14, false), (15, false), (16, false), (17, false), (18, false), (19, false), (20, false), (21, true), (22, false), (23, false), (24, false), (25, false), (26, false), (27, false)] rfl (isxOk_of [2, 3, 4, 5, 6, 7, 8, 9, 10, 11, 12, 13, 14, 15, 16, 17, 18, 19, 20, 21, 22, 23, 24, 25, 26, 27] [(2, false), (3, false), (4, false), (5, false), (6, false), (7, false), (8, false), (9, false), (10, false), (11, false), (12, false), (13, false), (14, false), (15, false), (16, false), (17, false), (18, false), (19, false), (20, false), (21, true), (22, false), (23, false), (24, false), (25, false), (26, false), (27, false)] T.esl_ T.kil_NotSafe) T.z_isinstance T.mC_NotSafe (fv 0)) (fa_cons (fe_isx [(2, false), (3, false), (4, false), (5, false), (6, false), (7, false), (8, false), (9, false), (10, false), (11, false), (12, false), (13, false), (14, false), (15, false), (16, false), (17, false), (18, false), (19, false), (20, false), (21, false), (22, true), (23, false), (24, false), (25, false), (26, false), (27, false)] rfl (isxOk_of [2, 3, 4, 5, 6, 7, 8, 9, 10, 11, 12, 13, 14, 15, 16, 17, 18, 19, 20, 21, 22, 23, 24, 25, 26, 27] [(2, false), (3, false), (4, false), (5, false), (6, false), (7, false), (8, false), (9, false), (10, false), (11, false), (12, false), (13, false), (14, false), (15, false), (16, false), (17, false), (18, false), (19, false), (20, false), (21, false), (22, true), (23, false), (24, false), (25, false), (26, false), (27, false)] T.esl_ T.kil_TooMany) T.z_isinstance T.mC_TooMany (fv 0)) (fa_cons (fe_isx [(2, false), (3, false), (4, false), (5, false), (6, false), (7, false), (8, false), (9, false), (10, false), (11, false), (12, false), (13, false), (14, false), (15, false), (16, false), (17, false), (18, false), (19, false), (20, false), (21, false), (22, false), (23, true), (24, false), (25, false), (26, false), (27, false)] rfl (isxOk_of [2, 3, 4, 5, 6, 7, 8, 9, 10, 11, 12, 13, 14, 15, 16, 17, 18, 19, 20, 21, 22, 23, 24, 25, 26, 27] [(2, false), (3, false), (4, false), (5, false), (6, false), (7, false), (8, false), (9, false), (10, false), (11, false), (12, false), (13, false), (14, false), (15, false), (16, false), (17, false), (18, false), (19, false), (20, false), (21, false), (22, false), (23, true), (24, false), (25, false), (26, false), (27, false)] T.esl_ T.kil_Full) T.z_isinstance T.mC_Full (fv 0)) (fa_nil))))))))))))
      ((fss_cons (O1 := []) (fs_ret (fv_e (fl_e (fl_op op_cat op2_cat f_cat (fqn 1 (fl_p (fl_lst (fa_cons (fe_isx [(2, false), (3, false), (4, false), (5, false), (6, false), (7, false), (8, false), (9, false), (10, false), (11, false), (12, false), (13, false), (14, false), (15, false), (16, false), (17, false), (18, false), (19, false), (20, false), (21, false), (22, false), (23, false), (24, true), (25, false), (26, false), (27, false)] rfl (isxOk_of [2, 3, 4, 5, 6, 7, 8, 9, 10, 11, 12, 13, 14, 15, 16, 17, 18, 19, 20, 21, 22, 23, 24, 25, 26, 27] [(2, false), (3, false), (4, false), (5, false), (6, false), (7, false), (8, false), (9, false), (10, false), (11, false), (12, false), (13, false), (14, false), (15, false), (16, false), (17, false), (18, false), (19, false), (20, false), (21, false), (22, false), (23, false), (24, true), (25, false), (26, false), (27, false)] T.esl_ T.kil_UnknownName) T.z_isinstance T.mC_UnknownName (fv 0)) (fa_cons (fe_isx [(2, false), (3, false), (4, false), (5, false), (6, false), (7, false), (8, false), (9, false), (10, false), (11, false), (12, false), (13, false), (14, false), (15, false), (16, false), (17, false), (18, false), (19, false), (20, false), (21, false), (22, false), (23, false), (24, false), (25, true), (26, false), (27, false)] rfl (isxOk_of [2, 3, 4, 5, 6, 7, 8, 9, 10, 11, 12, 13, 14, 15, 16, 17, 18, 19, 20, 21, 22, 23, 24, 25, 26, 27] [(2, false), (3, false), (4, false), (5, false), (6, false), (7, false), (8, false), (9, false), (10, false), (11, false), (12, false), (13, false), (14, false), (15, false), (16, false), (17, false), (18, false), (19, false), (20, false), (21, false), (22, false), (23, false), (24, false), (25, true), (26, false), (27, false)] T.esl_ T.kil_UnknownRow) T.z_isinstance T.mC_UnknownRow (fv 0)) (fa_cons (fe_isx [(2, false), (3, false), (4, false), (5, false), (6, false), (7, false), (8, false), (9, false), (10, false), (11, false), (12, false), (13, false), (14, false), (15, false), (16, false), (17, false), (18, false), (19, false), (20, false), (21, false), (22, false), (23, false), (24, false), (25, false), (26, true), (27, false)] rfl (isxOk_of [2, 3, 4, 5, 6, 7, 8, 9, 10, 11, 12, 13, 14, 15, 16, 17, 18, 19, 20, 21, 22, 23, 24, 25, 26, 27] [(2, false), (3, false), (4, false), (5, false), (6, false), (7, false), (8, false), (9, false), (10, false), (11, false), (12, false), (13, false), (14, false), (15, false), (16, false), (17, false), (18, false), (19, false), (20, false), (21, false), (22, false), (23, false), (24, false), (25, false), (26, true), (27, false)] T.esl_ T.kil_UnknownValue) T.z_isinstance T.mC_UnknownValue (fv 0)) (fa_cons (fe_isx [(2, false), (3, false), (4, false), (5, false), (6, false), (7, false), (8, false), (9, false), (10, false), (11, false), (12, false), (13, false), (14, false), (15, false), (16, false), (17, false), (18, false), (19, false), (20, false), (21, false), (22, false), (23, false), (24, false), (25, false), (26, false), (27, true)] rfl (isxOk_of [2, 3, 4, 5, 6, 7, 8, 9, 10, 11, 12, 13, 14, 15, 16, 17, 18, 19, 20, 21, 22, 23, 24, 25, 26, 27] [(2, false), (3, false), (4, false), (5, false), (6, false), (7, false), (8, false), (9, false), (10, false), (11, false), (12, false), (13, false), (14, false), (15, false), (16, false), (17, false), (18, false), (19, false), (20, false), (21, false), (22, false), (23, false), (24, false), (25, false), (26, false), (27, true)] T.esl_ T.kil_NothingLeft) T.z_isinstance T.mC_NothingLeft (fv 0)) (fa_nil))))))))))))
      (fss_nil))))))))))))))))
theorem ok__law_classes (T : Tp P w K mg base) : FnOk P w K mg base (CXq P w) 1 T.f__law_classes T.fd__law_classes ["_law_e"] (spD K (spF (cmT T) 1 false f__law_classes)) := by
  exact okF T.F__law_classes sc__law_classes fun cdv A outer s H E Fm hr => der__law_classes T hr 
theorem der__law_named_errors (T : Tp P w K mg base) {cdv : Value} {A : Around} {outer : List PySem.Env} {s : Shared} {H : Hp} {E : XK} {Fm : Fm} (hr : Room 1 (cxD P w K mg base ["_law_a", "_law_found"] "_law_named_errors" (defScope s__law_named_errors) T.f__law_named_errors cdv A outer s H E).A) :
    FSs (cmT T) (cxD P w K mg base ["_law_a", "_law_found"] "_law_named_errors" (defScope s__law_named_errors) T.f__law_named_errors cdv A outer s H E) Fm (wxD E) [] ⟨[], [], [], false⟩ (defBody s__law_named_errors) b__law_named_errors :=
  (fss_cons (O1 := []) (fs_set (i := 1) sc__law_named_errors.nd (fv_e (fl_e (fl_lst (fa_cons (fe_v (fv_name (fc_errK 2 1 0 "InvalidName" lit_3 rfl T.er_InvalidName T.ei_InvalidName T.et_InvalidName T.ek_InvalidName (hr.mono (by omega)) (fld_given rfl) (fld_code rfl)) T.mC_InvalidName T.kC_InvalidName (fargs0 (fk_cons (fv 0) (fk_nil))))) (fa_cons (fe_v (fv_name (fc_errK 3 2 0 "InvalidScheme" lit_4 rfl T.er_InvalidScheme T.ei_InvalidScheme T.et_InvalidScheme T.ek_InvalidScheme (hr.mono (by omega)) (fld_at rfl) (fld_code rfl)) T.mC_InvalidScheme T.kC_InvalidScheme (fargs0 (fk_cons (fv 0) (fk_nil))))) (fa_cons (fe_v (fv_name (fc_errK 4 2 0 "InvalidRow" lit_5 rfl T.er_InvalidRow T.ei_InvalidRow T.et_InvalidRow T.ek_InvalidRow (hr.mono (by omega)) (fld_at rfl) (fld_code rfl)) T.mC_InvalidRow T.kC_InvalidRow (fargs0 (fk_cons (fv 0) (fk_nil))))) (fa_cons (fe_v (fv_name (fc_errK 5 2 0 "InvalidLoose" lit_6 rfl T.er_InvalidLoose T.ei_InvalidLoose T.et_InvalidLoose T.ek_InvalidLoose (hr.mono (by omega)) (fld_at rfl) (fld_code rfl)) T.mC_InvalidLoose T.kC_InvalidLoose (fargs0 (fk_cons (fv 0) (fk_nil))))) (fa_cons (fe_v (fv_name (fc_errK 6 1 0 "InvalidVariables" lit_7 rfl T.er_InvalidVariables T.ei_InvalidVariables T.et_InvalidVariables T.ek_InvalidVariables (hr.mono (by omega)) (fld_given rfl) (fld_code rfl)) T.mC_InvalidVariables T.kC_InvalidVariables (fargs0 (fk_cons (fv 0) (fk_nil))))) (fa_nil))))))))))
      ((fss_cons (O1 := []) (fs_set (i := 1) sc__law_named_errors.nd (fv_e (fl_e (fl_op op_cat op2_cat f_cat (fqn 1 (fl_p (fl_lst (fa_cons (fe_v (fv_name (fc_errK 7 2 0 "InvalidPart" lit_8 rfl T.er_InvalidPart T.ei_InvalidPart T.et_InvalidPart T.ek_InvalidPart (hr.mono (by omega)) (fld_at rfl) (fld_code rfl)) T.mC_InvalidPart T.kC_InvalidPart (fargs0 (fk_cons (fv 0) (fk_nil))))) (fa_cons (fe_v (fv_name (fc_errK 8 1 0 "InvalidFormula" lit_9 rfl T.er_InvalidFormula T.ei_InvalidFormula T.et_InvalidFormula T.ek_InvalidFormula (hr.mono (by omega)) (fld_given rfl) (fld_code rfl)) T.mC_InvalidFormula T.kC_InvalidFormula (fargs0 (fk_cons (fv 0) (fk_nil))))) (fa_cons (fe_v (fv_name (fc_errK 9 1 0 "InvalidColumns" lit_10 rfl T.er_InvalidColumns T.ei_InvalidColumns T.et_InvalidColumns T.ek_InvalidColumns (hr.mono (by omega)) (fld_given rfl) (fld_code rfl)) T.mC_InvalidColumns T.kC_InvalidColumns (fargs0 (fk_cons (fv 0) (fk_nil))))) (fa_cons (fe_v (fv_name (fc_errK 10 1 0 "InvalidAnswer" lit_11 rfl T.er_InvalidAnswer T.ei_InvalidAnswer T.et_InvalidAnswer T.ek_InvalidAnswer (hr.mono (by omega)) (fld_given rfl) (fld_code rfl)) T.mC_InvalidAnswer T.kC_InvalidAnswer (fargs0 (fk_cons (fv 0) (fk_nil))))) (fa_nil))))))))))))
      ((fss_cons (O1 := []) (fs_set (i := 1) sc__law_named_errors.nd (fv_e (fl_e (fl_op op_cat op2_cat f_cat (fqn 1 (fl_p (fl_lst (fa_cons (fe_v (fv_name (fc_errK 11 1 0 "InvalidTruths" lit_12 rfl T.er_InvalidTruths T.ei_InvalidTruths T.et_InvalidTruths T.ek_InvalidTruths (hr.mono (by omega)) (fld_given rfl) (fld_code rfl)) T.mC_InvalidTruths T.kC_InvalidTruths (fargs0 (fk_cons (fv 0) (fk_nil))))) (fa_cons (fe_v (fv_name (fc_errK 12 1 0 "InvalidFilling" lit_13 rfl T.er_InvalidFilling T.ei_InvalidFilling T.et_InvalidFilling T.ek_InvalidFilling (hr.mono (by omega)) (fld_given rfl) (fld_code rfl)) T.mC_InvalidFilling T.kC_InvalidFilling (fargs0 (fk_cons (fv 0) (fk_nil))))) (fa_cons (fe_v (fv_name (fc_errK 13 1 0 "InvalidMeaning" lit_14 rfl T.er_InvalidMeaning T.ei_InvalidMeaning T.et_InvalidMeaning T.ek_InvalidMeaning (hr.mono (by omega)) (fld_given rfl) (fld_code rfl)) T.mC_InvalidMeaning T.kC_InvalidMeaning (fargs0 (fk_cons (fv 0) (fk_nil))))) (fa_cons (fe_v (fv_name (fc_errK 14 2 0 "InvalidText" lit_15 rfl T.er_InvalidText T.ei_InvalidText T.et_InvalidText T.ek_InvalidText (hr.mono (by omega)) (fld_at rfl) (fld_code rfl)) T.mC_InvalidText T.kC_InvalidText (fargs0 (fk_cons (fv 0) (fk_nil))))) (fa_nil))))))))))))
      ((fss_cons (O1 := []) (fs_set (i := 1) sc__law_named_errors.nd (fv_e (fl_e (fl_op op_cat op2_cat f_cat (fqn 1 (fl_p (fl_lst (fa_cons (fe_v (fv_name (fc_errK 15 2 0 "InvalidCommand" lit_16 rfl T.er_InvalidCommand T.ei_InvalidCommand T.et_InvalidCommand T.ek_InvalidCommand (hr.mono (by omega)) (fld_at rfl) (fld_code rfl)) T.mC_InvalidCommand T.kC_InvalidCommand (fargs0 (fk_cons (fv 0) (fk_nil))))) (fa_cons (fe_v (fv_name (fc_errK 16 1 0 "InvalidLimit" lit_17 rfl T.er_InvalidLimit T.ei_InvalidLimit T.et_InvalidLimit T.ek_InvalidLimit (hr.mono (by omega)) (fld_given rfl) (fld_code rfl)) T.mC_InvalidLimit T.kC_InvalidLimit (fargs0 (fk_cons (fv 0) (fk_nil))))) (fa_cons (fe_v (fv_name (fc_errK 17 3 0 "InvalidPage" lit_18 rfl T.er_InvalidPage T.ei_InvalidPage T.et_InvalidPage T.ek_InvalidPage (hr.mono (by omega)) (fld_line rfl) (fld_code rfl)) T.mC_InvalidPage T.kC_InvalidPage (fargs0 (fk_cons (fv 0) (fk_nil))))) (fa_cons (fe_v (fv_name (fc_errK 22 4 0 "TooMany" lit_23 rfl T.er_TooMany T.ei_TooMany T.et_TooMany T.ek_TooMany (hr.mono (by omega)) (fld_most rfl) (fld_code rfl)) T.mC_TooMany T.kC_TooMany (fargs0 (fk_cons (fv 0) (fk_nil))))) (fa_cons (fe_v (fv_name (fc_errK 23 5 0 "Full" lit_24 rfl T.er_Full T.ei_Full T.et_Full T.ek_Full (hr.mono (by omega)) (fld_limit rfl) (fld_code rfl)) T.mC_Full T.kC_Full (fargs0 (fk_cons (fv 0) (fk_nil))))) (fa_nil)))))))))))))
      ((fss_cons (O1 := []) (fs_ret (fv_e (fl_e (fl_op op_cat op2_cat f_cat (fqn 1 (fl_p (fl_lst (fa_cons (fe_v (fv_name (fc_errK 24 6 0 "UnknownName" lit_25 rfl T.er_UnknownName T.ei_UnknownName T.et_UnknownName T.ek_UnknownName (hr.mono (by omega)) (fld_name rfl) (fld_code rfl)) T.mC_UnknownName T.kC_UnknownName (fargs0 (fk_cons (fv 0) (fk_nil))))) (fa_cons (fe_v (fv_name (fc_errK 25 7 0 "UnknownRow" lit_26 rfl T.er_UnknownRow T.ei_UnknownRow T.et_UnknownRow T.ek_UnknownRow (hr.mono (by omega)) (fld_row rfl) (fld_code rfl)) T.mC_UnknownRow T.kC_UnknownRow (fargs0 (fk_cons (fv 0) (fk_nil))))) (fa_cons (fe_v (fv_name (fc_errK 26 1 0 "UnknownValue" lit_27 rfl T.er_UnknownValue T.ei_UnknownValue T.et_UnknownValue T.ek_UnknownValue (hr.mono (by omega)) (fld_given rfl) (fld_code rfl)) T.mC_UnknownValue T.kC_UnknownValue (fargs0 (fk_cons (fv 0) (fk_nil))))) (fa_nil)))))))))))
      (fss_nil))))))))))
theorem ok__law_named_errors (T : Tp P w K mg base) : FnOk P w K mg base (CXq P w) 2 T.f__law_named_errors T.fd__law_named_errors ["_law_a"] (spD K (spF (cmT T) 1 false f__law_named_errors)) := by
  exact okF T.F__law_named_errors sc__law_named_errors fun cdv A outer s H E Fm hr => der__law_named_errors T hr 
theorem der_law (T : Tp P w K mg base) {co Tb : Addr} {A : Around} {outer : List PySem.Env} {s : Shared} {H : Hp} {E : XK} {Fm : Fm} (hr : Room 40 (cxD P w K mg base ["_law_script", "_law_bag_here", "_law_a", "_law_made", "_law_codes_here", "_law_k", "_law_e", "_law_named", "_law_j"] "law" (defScope s_law) T.f_law (.ref co) A outer s H E).A) (TB : LamX.TabB base mg co Tb) (hF : Fm.tb = [(Tb, (cxD P w K mg base ["_law_script", "_law_bag_here", "_law_a", "_law_made", "_law_codes_here", "_law_k", "_law_e", "_law_named", "_law_j"] "law" (defScope s_law) T.f_law (.ref co) A outer s H E).env.qual ++ "<lambda>")]) (hz : T.z = fun i => lamX ((cxD P w K mg base ["_law_script", "_law_bag_here", "_law_a", "_law_made", "_law_codes_here", "_law_k", "_law_e", "_law_named", "_law_j"] "law" (defScope s_law) T.f_law (.ref co) A outer s H E).env.qual ++ "<lambda>") (lamd i) (cxD P w K mg base ["_law_script", "_law_bag_here", "_law_a", "_law_made", "_law_codes_here", "_law_k", "_law_e", "_law_named", "_law_j"] "law" (defScope s_law) T.f_law (.ref co) A outer s H E).env.cells) (G__law_of : FnOk P w K mg base (CXq P w) 2 T.f__law_of T.fd__law_of ["_law_bag_here", "_law_some"] (spD K (spF (cmT T) 2 false f__law_of))) (G__law_draw : FnOk P w K mg base (CXq P w) 1 T.f__law_draw T.fd__law_draw ["_law_bag_here", "_law_many"] (spD K (spF (cmT T) 2 false fDraw))) (G__law_errors : FnOk P w K mg base (CXq P w) 2 T.f__law_errors T.fd__law_errors ["_law_a"] (spD K (spF (cmT T) 1 false f__law_errors))) (G__law_codes : FnOk P w K mg base (CXq P w) 1 T.f__law_codes T.fd__law_codes [] (spD K (spF (cmT T) 0 false f__law_codes))) (G__law_same : FnOk P w K mg base (CXq P w) 40 T.f__law_same T.fd__law_same ["_law_found", "_law_due"] (spD K (spF (cmT T) 2 false (f__law_same 40)))) (G__law_field : FnOk P w K mg base (CXq P w) 1 T.f__law_field T.fd__law_field ["_law_e"] (spD K (spF (cmT T) 1 false f__law_field))) (G__law_classes : FnOk P w K mg base (CXq P w) 1 T.f__law_classes T.fd__law_classes ["_law_e"] (spD K (spF (cmT T) 1 false f__law_classes))) (G__law_named_errors : FnOk P w K mg base (CXq P w) 2 T.f__law_named_errors T.fd__law_named_errors ["_law_a"] (spD K (spF (cmT T) 1 false f__law_named_errors))) :
    FSs (cmT T) (cxD P w K mg base ["_law_script", "_law_bag_here", "_law_a", "_law_made", "_law_codes_here", "_law_k", "_law_e", "_law_named", "_law_j"] "law" (defScope s_law) T.f_law (.ref co) A outer s H E) Fm (wxD E) [] ⟨[], [], [], false⟩ ((defBody s_law).tail) b_law :=
  (fss_cons (O1 := []) (fs_set (i := 2) sc_law.nd (fv_e (fe_v (fv_name (fc_fix (idx := [0, 1]) (dd := []) G__law_of (hr.mono (by omega)) (bd__law_of_2 T) .nil (fun _ => Reps.nil) (snk_of takesD)) T.m__law_of T.F__law_of.kp (fargs (fa_cons (fv 1) (fa_cons (fl_e (fl_lst (fa_cons (f_non) (fa_cons (f_int') (fa_cons (f_str' [] lit_0) (fa_cons (f_str' [120] lit_1) (fa_cons (f_bl) (fa_cons (fe_tup (fa_cons (f_int') (fa_cons (f_str' [97] lit_2) (fa_nil)))) (fa_cons (fl_e (fl_lst (fa_nil))) (fa_cons (fl_e (fl_lst (fa_cons (f_int') (fa_nil)))) (fa_cons (fe_op op_pow (op2_IC fun _ _ _ => .int _) f_pow (fq (f_int') (fp (f_int')))) (fa_cons (fe_v (fv_name (fc_fix (idx := [0, 1]) (dd := []) G__law_draw (hr.mono (by omega)) (bd__law_draw_2 T) .nil (fun _ => Reps.nil) (snk_of takesD)) T.m__law_draw T.F__law_draw.kp (fargs (fa_cons (fv 1) (fa_cons (fe_op op_pow (op2_IC fun _ _ _ => .int _) f_pow (fq (f_int') (fp (f_int')))) (fa_nil))) (fk_nil)))) (fa_nil))))))))))))) (fa_nil))) (fk_nil))))))
      ((fss_cons (O1 := []) (fs_par (i := 3) (j := 4) rfl sc_law.nd (fv_e (fe_v (fv_name (fc_fix (idx := [0]) (dd := []) G__law_errors (hr.mono (by omega)) (bd__law_errors_1 T) .nil (fun _ => Reps.nil) (snk_of takesD)) T.m__law_errors T.F__law_errors.kp (fargs (fa_cons (fv 2) (fa_nil)) (fk_nil))))) (fv_e (fe_v (fv_name (fc_fix (idx := []) (dd := []) G__law_codes (hr.mono (by omega)) (bd__law_codes_0 T) .nil (fun _ => Reps.nil) (snk_of takesD)) T.m__law_codes T.F__law_codes.kp (fargs0 (fk_nil))))))
      ((fss_cons (O1 := []) (fs_for ownD rfl (fi_range T.z_range (fe_len T.z_len (fvp 3))) (fg 5 sc_law.nd)
        ((fss_cons (O1 := []) (fs_set (i := 6) sc_law.nd (fv_e (fe_ix (fqn 3 (fvp 5)))))
      ((fss_cons (O1 := []) (fs_if (ft_not (ft_val (fe_v (fv_name (fc_fix (idx := [0, 1]) (dd := []) G__law_same (hr.mono (by omega)) (bd__law_same_2 T) .nil (fun _ => Reps.nil) (snk_of takesD)) T.m__law_same T.F__law_same.kp (fargs (fa_cons (fl_e (fl_lst (fa_cons (fe_xg [2, 3, 4, 5, 6, 7, 8, 9, 10, 11, 12, 13, 14, 15, 16, 17, 18, 19, 20, 21, 22, 23, 24, 25, 26, 27] 0 rfl (xfOk_cons T.xb_InvalidName T.xn_InvalidName_code (xfOk_cons T.xb_InvalidScheme T.xn_InvalidScheme_code (xfOk_cons T.xb_InvalidRow T.xn_InvalidRow_code (xfOk_cons T.xb_InvalidLoose T.xn_InvalidLoose_code (xfOk_cons T.xb_InvalidVariables T.xn_InvalidVariables_code (xfOk_cons T.xb_InvalidPart T.xn_InvalidPart_code (xfOk_cons T.xb_InvalidFormula T.xn_InvalidFormula_code (xfOk_cons T.xb_InvalidColumns T.xn_InvalidColumns_code (xfOk_cons T.xb_InvalidAnswer T.xn_InvalidAnswer_code (xfOk_cons T.xb_InvalidTruths T.xn_InvalidTruths_code (xfOk_cons T.xb_InvalidFilling T.xn_InvalidFilling_code (xfOk_cons T.xb_InvalidMeaning T.xn_InvalidMeaning_code (xfOk_cons T.xb_InvalidText T.xn_InvalidText_code (xfOk_cons T.xb_InvalidCommand T.xn_InvalidCommand_code (xfOk_cons T.xb_InvalidLimit T.xn_InvalidLimit_code (xfOk_cons T.xb_InvalidPage T.xn_InvalidPage_code (xfOk_cons T.xb_OtherScheme T.xn_OtherScheme_code (xfOk_cons T.xb_OtherColumns T.xn_OtherColumns_code (xfOk_cons T.xb_HasColumns T.xn_HasColumns_code (xfOk_cons T.xb_NotSafe T.xn_NotSafe_code (xfOk_cons T.xb_TooMany T.xn_TooMany_code (xfOk_cons T.xb_Full T.xn_Full_code (xfOk_cons T.xb_UnknownName T.xn_UnknownName_code (xfOk_cons T.xb_UnknownRow T.xn_UnknownRow_code (xfOk_cons T.xb_UnknownValue T.xn_UnknownValue_code (xfOk_cons T.xb_NothingLeft T.xn_NothingLeft_code xfOk_nil)))))))))))))))))))))))))) (fld_code rfl) (fv 6)) (fa_cons (fe_v (fv_name (fc_fix (idx := [0]) (dd := []) G__law_field (hr.mono (by omega)) (bd__law_field_1 T) .nil (fun _ => Reps.nil) (snk_of takesD)) T.m__law_field T.F__law_field.kp (fargs (fa_cons (fv 6) (fa_nil)) (fk_nil)))) (fa_nil))))) (fa_cons (fl_e (fl_lst (fa_cons (fe_ix (fqn 4 (fvp 5))) (fa_cons (fe_if (ft_cmp (op_inP hr.units) op2_in f_in (fqn 5 (fl_p (fl_lst (fa_cons (f_int') (fa_cons (f_int') (fa_cons (f_int') (fa_cons (f_int') (fa_cons (f_int') (fa_nil)))))))))) (f_non) (fv 2)) (fa_nil))))) (fa_nil))) (fk_nil))))))
        ((fss_cons (O1 := []) (fs_ret (fv_e (f_bl)))
      (fss_nil)))
        (fss_nil))
      ((fss_cons (O1 := []) (fs_if (ft_cmp (op_neP hr.units) op2_ne f_ne (fq (fl_e (fl_lst (fa_cons (fe_isx [(2, true), (3, true), (4, true), (5, true), (6, true), (7, true), (8, true), (9, true), (10, true), (11, true), (12, true), (13, true), (14, true), (15, true), (16, true), (17, true), (18, true), (19, true), (20, true), (21, true), (22, true), (23, true), (24, false), (25, false), (26, false), (27, false)] rfl (isxOk_of [2, 3, 4, 5, 6, 7, 8, 9, 10, 11, 12, 13, 14, 15, 16, 17, 18, 19, 20, 21, 22, 23, 24, 25, 26, 27] [(2, true), (3, true), (4, true), (5, true), (6, true), (7, true), (8, true), (9, true), (10, true), (11, true), (12, true), (13, true), (14, true), (15, true), (16, true), (17, true), (18, true), (19, true), (20, true), (21, true), (22, true), (23, true), (24, false), (25, false), (26, false), (27, false)] T.esl_ T.kil_SureError) T.z_isinstance T.mC_SureError (fv 6)) (fa_cons (fe_isxB "ValueError" [(2, true), (3, true), (4, true), (5, true), (6, true), (7, true), (8, true), (9, true), (10, true), (11, true), (12, true), (13, true), (14, true), (15, true), (16, true), (17, true), (18, true), (19, true), (20, true), (21, true), (22, true), (23, true), (24, false), (25, false), (26, false), (27, false)] rfl (isxOk_of [2, 3, 4, 5, 6, 7, 8, 9, 10, 11, 12, 13, 14, 15, 16, 17, 18, 19, 20, 21, 22, 23, 24, 25, 26, 27] [(2, true), (3, true), (4, true), (5, true), (6, true), (7, true), (8, true), (9, true), (10, true), (11, true), (12, true), (13, true), (14, true), (15, true), (16, true), (17, true), (18, true), (19, true), (20, true), (21, true), (22, true), (23, true), (24, false), (25, false), (26, false), (27, false)] T.esl_ T.kil_ValueError) T.z_isinstance T.z_ValueError (fv 6)) (fa_nil))))) (fl_p (fl_lst (fa_cons (fe_cmp op_lt (op2_I fun _ _ _ => .bl _) f_lt (fqn 5 (fp (f_int')))) (fa_cons (fe_cmp op_lt (op2_I fun _ _ _ => .bl _) f_lt (fqn 5 (fp (f_int')))) (fa_nil)))))))
        ((fss_cons (O1 := []) (fs_ret (fv_e (f_bl)))
      (fss_nil)))
        (fss_nil))
      ((fss_cons (O1 := []) (fs_if (ft_cmp (op_neP hr.units) op2_ne f_ne (fq (fl_e (fl_lst (fa_cons (fe_isx [(2, false), (3, false), (4, false), (5, false), (6, false), (7, false), (8, false), (9, false), (10, false), (11, false), (12, false), (13, false), (14, false), (15, false), (16, false), (17, false), (18, false), (19, false), (20, false), (21, false), (22, false), (23, false), (24, true), (25, true), (26, true), (27, false)] rfl (isxOk_of [2, 3, 4, 5, 6, 7, 8, 9, 10, 11, 12, 13, 14, 15, 16, 17, 18, 19, 20, 21, 22, 23, 24, 25, 26, 27] [(2, false), (3, false), (4, false), (5, false), (6, false), (7, false), (8, false), (9, false), (10, false), (11, false), (12, false), (13, false), (14, false), (15, false), (16, false), (17, false), (18, false), (19, false), (20, false), (21, false), (22, false), (23, false), (24, true), (25, true), (26, true), (27, false)] T.esl_ T.kil_Missing) T.z_isinstance T.mC_Missing (fv 6)) (fa_cons (fe_isxB "LookupError" [(2, false), (3, false), (4, false), (5, false), (6, false), (7, false), (8, false), (9, false), (10, false), (11, false), (12, false), (13, false), (14, false), (15, false), (16, false), (17, false), (18, false), (19, false), (20, false), (21, false), (22, false), (23, false), (24, true), (25, true), (26, true), (27, true)] rfl (isxOk_of [2, 3, 4, 5, 6, 7, 8, 9, 10, 11, 12, 13, 14, 15, 16, 17, 18, 19, 20, 21, 22, 23, 24, 25, 26, 27] [(2, false), (3, false), (4, false), (5, false), (6, false), (7, false), (8, false), (9, false), (10, false), (11, false), (12, false), (13, false), (14, false), (15, false), (16, false), (17, false), (18, false), (19, false), (20, false), (21, false), (22, false), (23, false), (24, true), (25, true), (26, true), (27, true)] T.esl_ T.kil_LookupError) T.z_isinstance T.z_LookupError (fv 6)) (fa_nil))))) (fl_p (fl_lst (fa_cons (fe_cmp (op_inP hr.units) op2_in f_in (fqn 5 (fl_p (fl_lst (fa_cons (f_int') (fa_cons (f_int') (fa_cons (f_int') (fa_nil)))))))) (fa_cons (fe_cmp op_gt (op2_I fun _ _ _ => .bl _) f_gt (fqn 5 (fp (f_int')))) (fa_nil)))))))
        ((fss_cons (O1 := []) (fs_ret (fv_e (f_bl)))
      (fss_nil)))
        (fss_nil))
      ((fss_cons (O1 := []) (fs_if (ft_w (fw_or (ft_cmp (op_neP hr.units) op2_ne f_ne (fq (fe_isxB "IndexError" [(2, false), (3, false), (4, false), (5, false), (6, false), (7, false), (8, false), (9, false), (10, false), (11, false), (12, false), (13, false), (14, false), (15, false), (16, false), (17, false), (18, false), (19, false), (20, false), (21, false), (22, false), (23, false), (24, false), (25, false), (26, false), (27, true)] rfl (isxOk_of [2, 3, 4, 5, 6, 7, 8, 9, 10, 11, 12, 13, 14, 15, 16, 17, 18, 19, 20, 21, 22, 23, 24, 25, 26, 27] [(2, false), (3, false), (4, false), (5, false), (6, false), (7, false), (8, false), (9, false), (10, false), (11, false), (12, false), (13, false), (14, false), (15, false), (16, false), (17, false), (18, false), (19, false), (20, false), (21, false), (22, false), (23, false), (24, false), (25, false), (26, false), (27, true)] T.esl_ T.kil_IndexError) T.z_isinstance T.z_IndexError (fv 6)) (fp (fe_cmp (op_eqP hr.units) op2_eq f_eq (fqn 5 (fp (f_int'))))))) (fw_or1 (ft_cmp (op_neP hr.units) op2_ne f_ne (fq (fe_v (fv_name (fc_fix (idx := [0]) (dd := []) G__law_classes (hr.mono (by omega)) (bd__law_classes_1 T) .nil (fun _ => Reps.nil) (snk_of takesD)) T.m__law_classes T.F__law_classes.kp (fargs (fa_cons (fv 6) (fa_nil)) (fk_nil)))) (fl_p (fl_lc (O := []) (own := [("_law_j", 8)]) (by rfl) sc_law.nd (fi_range T.z_range (f_int')) (blkOk_by (N := ["_law_script", "_law_bag_here", "_law_a", "_law_made", "_law_codes_here", "_law_k", "_law_e", "_law_named", "_law_j"]) (sc := defScope s_law) (by decide +kernel)) (fun _ _ _ _ _ => fg 8 sc_law.nd) (fun _ _ _ _ _ => fts_nil) (fun _ _ _ _ _ => fe_cmp (op_eqP hr.units) op2_eq f_eq (fqn 8 (fvp 5))))))))))
        ((fss_cons (O1 := []) (fs_ret (fv_e (f_bl)))
      (fss_nil)))
        (fss_nil))
      (fss_nil))))))))))))
      ((fss_cons (O1 := [7]) (fs_drop [6] (fs_setLc (i := 7) (O := []) (own := [("_law_e", 6)]) (by rfl) sc_law.nd (fi_seq (fe_v (fv_name (fc_fix (idx := [0]) (dd := []) G__law_named_errors (hr.mono (by omega)) (bd__law_named_errors_1 T) .nil (fun _ => Reps.nil) (snk_of takesD)) T.m__law_named_errors T.F__law_named_errors.kp (fargs (fa_cons (fv 2) (fa_nil)) (fk_nil))))) (blkOk_by (N := ["_law_script", "_law_bag_here", "_law_a", "_law_made", "_law_codes_here", "_law_k", "_law_e", "_law_named", "_law_j"]) (sc := defScope s_law) (by decide +kernel)) (fun _ _ _ _ _ => fg 6 sc_law.nd) (fun _ _ _ _ _ => fts_nil) (fun _ _ _ _ _ => fe_v (fv_name (fc_fix (idx := [0]) (dd := []) G__law_field (hr.mono (by omega)) (bd__law_field_1 T) .nil (fun _ => Reps.nil) snk0) T.m__law_field T.F__law_field.kp (fargs (fa_cons (fv 6) (fa_nil)) (fk_nil))))))
      ((fss_cons (O1 := []) (fs_frz (O' := []) (by rfl) (fs_if (ft_w (fw_or (ft_not (ft_val (fe_v (fv_name (fc_fix (idx := [0, 1]) (dd := []) G__law_same (hr.mono (by omega)) (bd__law_same_2 T) .nil (fun _ => Reps.nil) (snk_of takesD)) T.m__law_same T.F__law_same.kp (fargs (fa_cons (fv 7) (fa_cons (fl_e (fl_op op_rep op2_rep f_rep (fq (fl_e (fl_lst (fa_cons (fv 2) (fa_nil)))) (fp (f_int'))))) (fa_nil))) (fk_nil)))))) (fw_or1 (ft_cmp (op_neP hr.units) op2_ne f_ne (fq (fe_len T.z_len (fvp 3)) (fp (f_int')))))))
        ((fss_cons (O1 := []) (fs_ret (fv_e (f_bl)))
      (fss_nil)))
        (fss_nil)))
      ((fss_cons (O1 := []) (fs_ret (fv_e (f_bl)))
      (fss_nil))))))))))))
theorem ok_law_ (T : Tp P w K mg base) {co Tb : Addr} {kV doc pm ct oc : Value} {an od : Option Addr} {osl : Array (Option Value)} (lk : K.lookup T.f_law = some ⟨oc, od, .func (PySem.W.fnOf "law" "law" (defArgs s_law) (defBody s_law) (defScope s_law) .none kV doc pm an (.ref co) ct), osl⟩) (hcd : PySem.W.codeIn K (.ref co) "law" = true) (TB : LamX.TabB base mg co Tb) :
    FnOk P w K mg base (CXq P w) 41 T.f_law (PySem.W.fnOf "law" "law" (defArgs s_law) (defBody s_law) (defScope s_law) .none kV doc pm an (.ref co) ct) ["_law_script"] (spLawT K Tb) :=
  okF_lawT (k := 40) (qn := (("law" : Str) ++ ".<locals>.") ++ "<lambda>") lk hcd sc_law (by decide) (fun A outer s H E hr => by
    have G__law_of := ok__law_of (P := P) (w := w) (base := base) (T.at (fun i => lamX ((cxD P w K mg base ["_law_script", "_law_bag_here", "_law_a", "_law_made", "_law_codes_here", "_law_k", "_law_e", "_law_named", "_law_j"] "law" (defScope s_law) T.f_law (.ref co) A outer s H E).env.qual ++ "<lambda>") (lamd i) (cxD P w K mg base ["_law_script", "_law_bag_here", "_law_a", "_law_made", "_law_codes_here", "_law_k", "_law_e", "_law_named", "_law_j"] "law" (defScope s_law) T.f_law (.ref co) A outer s H E).env.cells))
    have G__law_draw := ok__law_draw (P := P) (w := w) (base := base) (T.at (fun i => lamX ((cxD P w K mg base ["_law_script", "_law_bag_here", "_law_a", "_law_made", "_law_codes_here", "_law_k", "_law_e", "_law_named", "_law_j"] "law" (defScope s_law) T.f_law (.ref co) A outer s H E).env.qual ++ "<lambda>") (lamd i) (cxD P w K mg base ["_law_script", "_law_bag_here", "_law_a", "_law_made", "_law_codes_here", "_law_k", "_law_e", "_law_named", "_law_j"] "law" (defScope s_law) T.f_law (.ref co) A outer s H E).env.cells))
    have G__law_errors := ok__law_errors (P := P) (w := w) (base := base) (T.at (fun i => lamX ((cxD P w K mg base ["_law_script", "_law_bag_here", "_law_a", "_law_made", "_law_codes_here", "_law_k", "_law_e", "_law_named", "_law_j"] "law" (defScope s_law) T.f_law (.ref co) A outer s H E).env.qual ++ "<lambda>") (lamd i) (cxD P w K mg base ["_law_script", "_law_bag_here", "_law_a", "_law_made", "_law_codes_here", "_law_k", "_law_e", "_law_named", "_law_j"] "law" (defScope s_law) T.f_law (.ref co) A outer s H E).env.cells))
    have G__law_codes := ok__law_codes (P := P) (w := w) (base := base) (T.at (fun i => lamX ((cxD P w K mg base ["_law_script", "_law_bag_here", "_law_a", "_law_made", "_law_codes_here", "_law_k", "_law_e", "_law_named", "_law_j"] "law" (defScope s_law) T.f_law (.ref co) A outer s H E).env.qual ++ "<lambda>") (lamd i) (cxD P w K mg base ["_law_script", "_law_bag_here", "_law_a", "_law_made", "_law_codes_here", "_law_k", "_law_e", "_law_named", "_law_j"] "law" (defScope s_law) T.f_law (.ref co) A outer s H E).env.cells))
    have G__law_same := ok__law_same (P := P) (w := w) (base := base) (T.at (fun i => lamX ((cxD P w K mg base ["_law_script", "_law_bag_here", "_law_a", "_law_made", "_law_codes_here", "_law_k", "_law_e", "_law_named", "_law_j"] "law" (defScope s_law) T.f_law (.ref co) A outer s H E).env.qual ++ "<lambda>") (lamd i) (cxD P w K mg base ["_law_script", "_law_bag_here", "_law_a", "_law_made", "_law_codes_here", "_law_k", "_law_e", "_law_named", "_law_j"] "law" (defScope s_law) T.f_law (.ref co) A outer s H E).env.cells)) 40
    have G__law_field := ok__law_field (P := P) (w := w) (base := base) (T.at (fun i => lamX ((cxD P w K mg base ["_law_script", "_law_bag_here", "_law_a", "_law_made", "_law_codes_here", "_law_k", "_law_e", "_law_named", "_law_j"] "law" (defScope s_law) T.f_law (.ref co) A outer s H E).env.qual ++ "<lambda>") (lamd i) (cxD P w K mg base ["_law_script", "_law_bag_here", "_law_a", "_law_made", "_law_codes_here", "_law_k", "_law_e", "_law_named", "_law_j"] "law" (defScope s_law) T.f_law (.ref co) A outer s H E).env.cells))
    have G__law_classes := ok__law_classes (P := P) (w := w) (base := base) (T.at (fun i => lamX ((cxD P w K mg base ["_law_script", "_law_bag_here", "_law_a", "_law_made", "_law_codes_here", "_law_k", "_law_e", "_law_named", "_law_j"] "law" (defScope s_law) T.f_law (.ref co) A outer s H E).env.qual ++ "<lambda>") (lamd i) (cxD P w K mg base ["_law_script", "_law_bag_here", "_law_a", "_law_made", "_law_codes_here", "_law_k", "_law_e", "_law_named", "_law_j"] "law" (defScope s_law) T.f_law (.ref co) A outer s H E).env.cells))
    have G__law_named_errors := ok__law_named_errors (P := P) (w := w) (base := base) (T.at (fun i => lamX ((cxD P w K mg base ["_law_script", "_law_bag_here", "_law_a", "_law_made", "_law_codes_here", "_law_k", "_law_e", "_law_named", "_law_j"] "law" (defScope s_law) T.f_law (.ref co) A outer s H E).env.qual ++ "<lambda>") (lamd i) (cxD P w K mg base ["_law_script", "_law_bag_here", "_law_a", "_law_made", "_law_codes_here", "_law_k", "_law_e", "_law_named", "_law_j"] "law" (defScope s_law) T.f_law (.ref co) A outer s H E).env.cells))
    exact ⟨cmT (T.at (fun i => lamX ((cxD P w K mg base ["_law_script", "_law_bag_here", "_law_a", "_law_made", "_law_codes_here", "_law_k", "_law_e", "_law_named", "_law_j"] "law" (defScope s_law) T.f_law (.ref co) A outer s H E).env.qual ++ "<lambda>") (lamd i) (cxD P w K mg base ["_law_script", "_law_bag_here", "_law_a", "_law_made", "_law_codes_here", "_law_k", "_law_e", "_law_named", "_law_j"] "law" (defScope s_law) T.f_law (.ref co) A outer s H E).env.cells)), _, (defBody s_law).tail, rfl, ps_set (i := 1) sc_law.nd rfl (by first | exact Or.inl rfl | exact Or.inr rfl) (pe_callSD (E := fun _ _ _ _ => False) (ok_bag_ T) (hr.mono (by omega)) rfl T.m__law_bag T.F__law_bag.kp (bdS__law_bag T) .nil snkF (pa_cons (pe_var (i := 0) rfl (by first | exact Or.inl rfl | exact Or.inr (Or.inl rfl) | exact Or.inr (Or.inr rfl))) pa_nil)), fun Fm hF => der_law (T.at (fun i => lamX ((cxD P w K mg base ["_law_script", "_law_bag_here", "_law_a", "_law_made", "_law_codes_here", "_law_k", "_law_e", "_law_named", "_law_j"] "law" (defScope s_law) T.f_law (.ref co) A outer s H E).env.qual ++ "<lambda>") (lamd i) (cxD P w K mg base ["_law_script", "_law_bag_here", "_law_a", "_law_made", "_law_codes_here", "_law_k", "_law_e", "_law_named", "_law_j"] "law" (defScope s_law) T.f_law (.ref co) A outer s H E).env.cells)) hr TB hF rfl G__law_of G__law_draw G__law_errors G__law_codes G__law_same G__law_field G__law_classes G__law_named_errors⟩) plain_law
end
theorem all_mk {l : PySem.W.OpenLaw} {w : World} {K : PySem.W.Frag} {h : Heap} {mg : Str → Option Value} {fa : Addr} {ts : List Addr} (X : K.In h) (G : h.Ns mainGlobals mg) (hfa : mg "law" = some (.ref fa)) (hts : ∀ P ∈ ts, h.get? P = some (PySem.W.tabObj #[]))
    {c0 : Addr} {c1 : Addr} {c2 : Addr} {c3 : Addr} {c4 : Addr} {c5 : Addr} {c6 : Addr} {c7 : Addr} {c8 : Addr} {c9 : Addr} {c10 : Addr} {c11 : Addr} {c12 : Addr} {c13 : Addr} {c14 : Addr} {c15 : Addr} {c16 : Addr} {c17 : Addr} {c18 : Addr} {c19 : Addr} {c20 : Addr} {c21 : Addr} {c22 : Addr} {c23 : Addr} {c24 : Addr} {c25 : Addr} {c26 : Addr} {c27 : Addr} {f0 : Addr} {od0 an0 : Option Addr} {sl0 : Array (Option Value)} {oc0 kV0 dc0 pm0 cd0 ct0 : Value} {f1 : Addr} {od1 an1 : Option Addr} {sl1 : Array (Option Value)} {oc1 kV1 dc1 pm1 cd1 ct1 : Value} {f2 : Addr} {od2 an2 : Option Addr} {sl2 : Array (Option Value)} {oc2 kV2 dc2 pm2 cd2 ct2 : Value} {f3 : Addr} {od3 an3 : Option Addr} {sl3 : Array (Option Value)} {oc3 kV3 dc3 pm3 cd3 ct3 : Value} {f4 : Addr} {od4 an4 : Option Addr} {sl4 : Array (Option Value)} {oc4 kV4 dc4 pm4 cd4 ct4 : Value} {f5 : Addr} {od5 an5 : Option Addr} {sl5 : Array (Option Value)} {oc5 kV5 dc5 pm5 cd5 ct5 : Value} {f6 : Addr} {od6 an6 : Option Addr} {sl6 : Array (Option Value)} {oc6 kV6 dc6 pm6 cd6 ct6 : Value} {f7 : Addr} {od7 an7 : Option Addr} {sl7 : Array (Option Value)} {oc7 kV7 dc7 pm7 cd7 ct7 : Value} {f8 : Addr} {od8 an8 : Option Addr} {sl8 : Array (Option Value)} {oc8 kV8 dc8 pm8 cd8 ct8 : Value} {f9 : Addr} {od9 an9 : Option Addr} {sl9 : Array (Option Value)} {oc9 kV9 dc9 pm9 cd9 ct9 : Value} {ef0 el0 : Addr} {eoc0 eo20 eo30 ekV0 edc0 epm0 ect0 : Value} {ecc0 : Addr} {eod0 ean0 ed20 ed30 : Option Addr} {eol0 es20 es30 : Array (Option Value)} {evs0 : Array Value} {efl0 : Str} {etk0 : Tok} {ef1 el1 : Addr} {eoc1 eo21 eo31 ekV1 edc1 epm1 ect1 : Value} {ecc1 : Addr} {eod1 ean1 ed21 ed31 : Option Addr} {eol1 es21 es31 : Array (Option Value)} {evs1 : Array Value} {efl1 : Str} {etk1 : Tok} {ef2 el2 : Addr} {eoc2 eo22 eo32 ekV2 edc2 epm2 ect2 : Value} {ecc2 : Addr} {eod2 ean2 ed22 ed32 : Option Addr} {eol2 es22 es32 : Array (Option Value)} {evs2 : Array Value} {efl2 : Str} {etk2 : Tok} {ef3 el3 : Addr} {eoc3 eo23 eo33 ekV3 edc3 epm3 ect3 : Value} {ecc3 : Addr} {eod3 ean3 ed23 ed33 : Option Addr} {eol3 es23 es33 : Array (Option Value)} {evs3 : Array Value} {efl3 : Str} {etk3 : Tok} {ef4 el4 : Addr} {eoc4 eo24 eo34 ekV4 edc4 epm4 ect4 : Value} {ecc4 : Addr} {eod4 ean4 ed24 ed34 : Option Addr} {eol4 es24 es34 : Array (Option Value)} {evs4 : Array Value} {efl4 : Str} {etk4 : Tok} {ef5 el5 : Addr} {eoc5 eo25 eo35 ekV5 edc5 epm5 ect5 : Value} {ecc5 : Addr} {eod5 ean5 ed25 ed35 : Option Addr} {eol5 es25 es35 : Array (Option Value)} {evs5 : Array Value} {efl5 : Str} {etk5 : Tok} {ef6 el6 : Addr} {eoc6 eo26 eo36 ekV6 edc6 epm6 ect6 : Value} {ecc6 : Addr} {eod6 ean6 ed26 ed36 : Option Addr} {eol6 es26 es36 : Array (Option Value)} {evs6 : Array Value} {efl6 : Str} {etk6 : Tok} {ef7 el7 : Addr} {eoc7 eo27 eo37 ekV7 edc7 epm7 ect7 : Value} {ecc7 : Addr} {eod7 ean7 ed27 ed37 : Option Addr} {eol7 es27 es37 : Array (Option Value)} {evs7 : Array Value} {efl7 : Str} {etk7 : Tok} {ef8 el8 : Addr} {eoc8 eo28 eo38 ekV8 edc8 epm8 ect8 : Value} {ecc8 : Addr} {eod8 ean8 ed28 ed38 : Option Addr} {eol8 es28 es38 : Array (Option Value)} {evs8 : Array Value} {efl8 : Str} {etk8 : Tok} {ef9 el9 : Addr} {eoc9 eo29 eo39 ekV9 edc9 epm9 ect9 : Value} {ecc9 : Addr} {eod9 ean9 ed29 ed39 : Option Addr} {eol9 es29 es39 : Array (Option Value)} {evs9 : Array Value} {efl9 : Str} {etk9 : Tok} {ef10 el10 : Addr} {eoc10 eo210 eo310 ekV10 edc10 epm10 ect10 : Value} {ecc10 : Addr} {eod10 ean10 ed210 ed310 : Option Addr} {eol10 es210 es310 : Array (Option Value)} {evs10 : Array Value} {efl10 : Str} {etk10 : Tok} {ef11 el11 : Addr} {eoc11 eo211 eo311 ekV11 edc11 epm11 ect11 : Value} {ecc11 : Addr} {eod11 ean11 ed211 ed311 : Option Addr} {eol11 es211 es311 : Array (Option Value)} {evs11 : Array Value} {efl11 : Str} {etk11 : Tok} {ef12 el12 : Addr} {eoc12 eo212 eo312 ekV12 edc12 epm12 ect12 : Value} {ecc12 : Addr} {eod12 ean12 ed212 ed312 : Option Addr} {eol12 es212 es312 : Array (Option Value)} {evs12 : Array Value} {efl12 : Str} {etk12 : Tok} {ef13 el13 : Addr} {eoc13 eo213 eo313 ekV13 edc13 epm13 ect13 : Value} {ecc13 : Addr} {eod13 ean13 ed213 ed313 : Option Addr} {eol13 es213 es313 : Array (Option Value)} {evs13 : Array Value} {efl13 : Str} {etk13 : Tok} {ef14 el14 : Addr} {eoc14 eo214 eo314 ekV14 edc14 epm14 ect14 : Value} {ecc14 : Addr} {eod14 ean14 ed214 ed314 : Option Addr} {eol14 es214 es314 : Array (Option Value)} {evs14 : Array Value} {efl14 : Str} {etk14 : Tok} {ef15 el15 : Addr} {eoc15 eo215 eo315 ekV15 edc15 epm15 ect15 : Value} {ecc15 : Addr} {eod15 ean15 ed215 ed315 : Option Addr} {eol15 es215 es315 : Array (Option Value)} {evs15 : Array Value} {efl15 : Str} {etk15 : Tok} {ef16 el16 : Addr} {eoc16 eo216 eo316 ekV16 edc16 epm16 ect16 : Value} {ecc16 : Addr} {eod16 ean16 ed216 ed316 : Option Addr} {eol16 es216 es316 : Array (Option Value)} {evs16 : Array Value} {efl16 : Str} {etk16 : Tok} {ef17 el17 : Addr} {eoc17 eo217 eo317 ekV17 edc17 epm17 ect17 : Value} {ecc17 : Addr} {eod17 ean17 ed217 ed317 : Option Addr} {eol17 es217 es317 : Array (Option Value)} {evs17 : Array Value} {efl17 : Str} {etk17 : Tok} {ef18 el18 : Addr} {eoc18 eo218 eo318 ekV18 edc18 epm18 ect18 : Value} {ecc18 : Addr} {eod18 ean18 ed218 ed318 : Option Addr} {eol18 es218 es318 : Array (Option Value)} {evs18 : Array Value} {efl18 : Str} {etk18 : Tok} {ef19 el19 : Addr} {eoc19 eo219 eo319 ekV19 edc19 epm19 ect19 : Value} {ecc19 : Addr} {eod19 ean19 ed219 ed319 : Option Addr} {eol19 es219 es319 : Array (Option Value)} {evs19 : Array Value} {efl19 : Str} {etk19 : Tok} {ef20 el20 : Addr} {eoc20 eo220 eo320 ekV20 edc20 epm20 ect20 : Value} {ecc20 : Addr} {eod20 ean20 ed220 ed320 : Option Addr} {eol20 es220 es320 : Array (Option Value)} {evs20 : Array Value} {efl20 : Str} {etk20 : Tok} {ef21 el21 : Addr} {eoc21 eo221 eo321 ekV21 edc21 epm21 ect21 : Value} {ecc21 : Addr} {eod21 ean21 ed221 ed321 : Option Addr} {eol21 es221 es321 : Array (Option Value)} {evs21 : Array Value} {efl21 : Str} {etk21 : Tok} {ef22 el22 : Addr} {eoc22 eo222 eo322 ekV22 edc22 epm22 ect22 : Value} {ecc22 : Addr} {eod22 ean22 ed222 ed322 : Option Addr} {eol22 es222 es322 : Array (Option Value)} {evs22 : Array Value} {efl22 : Str} {etk22 : Tok} {ef23 el23 : Addr} {eoc23 eo223 eo323 ekV23 edc23 epm23 ect23 : Value} {ecc23 : Addr} {eod23 ean23 ed223 ed323 : Option Addr} {eol23 es223 es323 : Array (Option Value)} {evs23 : Array Value} {efl23 : Str} {etk23 : Tok} {ef24 el24 : Addr} {eoc24 eo224 eo324 ekV24 edc24 epm24 ect24 : Value} {ecc24 : Addr} {eod24 ean24 ed224 ed324 : Option Addr} {eol24 es224 es324 : Array (Option Value)} {evs24 : Array Value} {efl24 : Str} {etk24 : Tok} {ef25 el25 : Addr} {eoc25 eo225 eo325 ekV25 edc25 epm25 ect25 : Value} {ecc25 : Addr} {eod25 ean25 ed225 ed325 : Option Addr} {eol25 es225 es325 : Array (Option Value)} {evs25 : Array Value} {efl25 : Str} {etk25 : Tok}
        (ca0 : PySem.W.nsIn K mainGlobals "SureError" = some (some (.ref c0)))
    (ca1 : PySem.W.nsIn K mainGlobals "Missing" = some (some (.ref c1)))
    (ca2 : PySem.W.nsIn K mainGlobals "InvalidName" = some (some (.ref c2)))
    (ca3 : PySem.W.nsIn K mainGlobals "InvalidScheme" = some (some (.ref c3)))
    (ca4 : PySem.W.nsIn K mainGlobals "InvalidRow" = some (some (.ref c4)))
    (ca5 : PySem.W.nsIn K mainGlobals "InvalidLoose" = some (some (.ref c5)))
    (ca6 : PySem.W.nsIn K mainGlobals "InvalidVariables" = some (some (.ref c6)))
    (ca7 : PySem.W.nsIn K mainGlobals "InvalidPart" = some (some (.ref c7)))
    (ca8 : PySem.W.nsIn K mainGlobals "InvalidFormula" = some (some (.ref c8)))
    (ca9 : PySem.W.nsIn K mainGlobals "InvalidColumns" = some (some (.ref c9)))
    (ca10 : PySem.W.nsIn K mainGlobals "InvalidAnswer" = some (some (.ref c10)))
    (ca11 : PySem.W.nsIn K mainGlobals "InvalidTruths" = some (some (.ref c11)))
    (ca12 : PySem.W.nsIn K mainGlobals "InvalidFilling" = some (some (.ref c12)))
    (ca13 : PySem.W.nsIn K mainGlobals "InvalidMeaning" = some (some (.ref c13)))
    (ca14 : PySem.W.nsIn K mainGlobals "InvalidText" = some (some (.ref c14)))
    (ca15 : PySem.W.nsIn K mainGlobals "InvalidCommand" = some (some (.ref c15)))
    (ca16 : PySem.W.nsIn K mainGlobals "InvalidLimit" = some (some (.ref c16)))
    (ca17 : PySem.W.nsIn K mainGlobals "InvalidPage" = some (some (.ref c17)))
    (ca18 : PySem.W.nsIn K mainGlobals "OtherScheme" = some (some (.ref c18)))
    (ca19 : PySem.W.nsIn K mainGlobals "OtherColumns" = some (some (.ref c19)))
    (ca20 : PySem.W.nsIn K mainGlobals "HasColumns" = some (some (.ref c20)))
    (ca21 : PySem.W.nsIn K mainGlobals "NotSafe" = some (some (.ref c21)))
    (ca22 : PySem.W.nsIn K mainGlobals "TooMany" = some (some (.ref c22)))
    (ca23 : PySem.W.nsIn K mainGlobals "Full" = some (some (.ref c23)))
    (ca24 : PySem.W.nsIn K mainGlobals "UnknownName" = some (some (.ref c24)))
    (ca25 : PySem.W.nsIn K mainGlobals "UnknownRow" = some (some (.ref c25)))
    (ca26 : PySem.W.nsIn K mainGlobals "UnknownValue" = some (some (.ref c26)))
    (ca27 : PySem.W.nsIn K mainGlobals "NothingLeft" = some (some (.ref c27)))
    (a0 : PySem.W.nsIn K mainGlobals "_law_bag" = some (some (.ref f0)))
    (a1 : PySem.W.nsIn K mainGlobals "_law_draw" = some (some (.ref f1)))
    (a2 : PySem.W.nsIn K mainGlobals "_law_of" = some (some (.ref f2)))
    (a3 : PySem.W.nsIn K mainGlobals "_law_errors" = some (some (.ref f3)))
    (a4 : PySem.W.nsIn K mainGlobals "_law_codes" = some (some (.ref f4)))
    (a5 : PySem.W.nsIn K mainGlobals "_law_same" = some (some (.ref f5)))
    (a6 : PySem.W.nsIn K mainGlobals "_law_field" = some (some (.ref f6)))
    (a7 : PySem.W.nsIn K mainGlobals "_law_classes" = some (some (.ref f7)))
    (a8 : PySem.W.nsIn K mainGlobals "_law_named_errors" = some (some (.ref f8)))
    (a9 : PySem.W.nsIn K mainGlobals "law" = some (some (.ref f9)))
    (zsup : PySem.W.nsIn K mainGlobals "super" = some none)
    (ei0 : PySem.W.findIn K (.ref c2) "__init__" = some (some (.ref ef0)))
    (ei1 : PySem.W.findIn K (.ref c3) "__init__" = some (some (.ref ef1)))
    (ei2 : PySem.W.findIn K (.ref c4) "__init__" = some (some (.ref ef2)))
    (ei3 : PySem.W.findIn K (.ref c5) "__init__" = some (some (.ref ef3)))
    (ei4 : PySem.W.findIn K (.ref c6) "__init__" = some (some (.ref ef4)))
    (ei5 : PySem.W.findIn K (.ref c7) "__init__" = some (some (.ref ef5)))
    (ei6 : PySem.W.findIn K (.ref c8) "__init__" = some (some (.ref ef6)))
    (ei7 : PySem.W.findIn K (.ref c9) "__init__" = some (some (.ref ef7)))
    (ei8 : PySem.W.findIn K (.ref c10) "__init__" = some (some (.ref ef8)))
    (ei9 : PySem.W.findIn K (.ref c11) "__init__" = some (some (.ref ef9)))
    (ei10 : PySem.W.findIn K (.ref c12) "__init__" = some (some (.ref ef10)))
    (ei11 : PySem.W.findIn K (.ref c13) "__init__" = some (some (.ref ef11)))
    (ei12 : PySem.W.findIn K (.ref c14) "__init__" = some (some (.ref ef12)))
    (ei13 : PySem.W.findIn K (.ref c15) "__init__" = some (some (.ref ef13)))
    (ei14 : PySem.W.findIn K (.ref c16) "__init__" = some (some (.ref ef14)))
    (ei15 : PySem.W.findIn K (.ref c17) "__init__" = some (some (.ref ef15)))
    (ei16 : PySem.W.findIn K (.ref c18) "__init__" = some (some (.ref ef16)))
    (ei17 : PySem.W.findIn K (.ref c19) "__init__" = some (some (.ref ef17)))
    (ei18 : PySem.W.findIn K (.ref c20) "__init__" = some (some (.ref ef18)))
    (ei19 : PySem.W.findIn K (.ref c21) "__init__" = some (some (.ref ef19)))
    (ei20 : PySem.W.findIn K (.ref c22) "__init__" = some (some (.ref ef20)))
    (ei21 : PySem.W.findIn K (.ref c23) "__init__" = some (some (.ref ef21)))
    (ei22 : PySem.W.findIn K (.ref c24) "__init__" = some (some (.ref ef22)))
    (ei23 : PySem.W.findIn K (.ref c25) "__init__" = some (some (.ref ef23)))
    (ei24 : PySem.W.findIn K (.ref c26) "__init__" = some (some (.ref ef24)))
    (ei25 : PySem.W.findIn K (.ref c27) "__init__" = some (some (.ref ef25)))
    (l0 : K.lookup f0 = some ⟨oc0, od0, .func (PySem.W.fnOf "_law_bag" "_law_bag" (defArgs s__law_bag) (defBody s__law_bag) (defScope s__law_bag) .none kV0 dc0 pm0 an0 cd0 ct0), sl0⟩)
    (c_0 : PySem.W.codeIn K cd0 "_law_bag" = true)
    (k0 : PySem.W.keepIn K (.ref f0) = true)
    (l1 : K.lookup f1 = some ⟨oc1, od1, .func (PySem.W.fnOf "_law_draw" "_law_draw" (defArgs s__law_draw) (defBody s__law_draw) (defScope s__law_draw) .none kV1 dc1 pm1 an1 cd1 ct1), sl1⟩)
    (c_1 : PySem.W.codeIn K cd1 "_law_draw" = true)
    (k1 : PySem.W.keepIn K (.ref f1) = true)
    (l2 : K.lookup f2 = some ⟨oc2, od2, .func (PySem.W.fnOf "_law_of" "_law_of" (defArgs s__law_of) (defBody s__law_of) (defScope s__law_of) .none kV2 dc2 pm2 an2 cd2 ct2), sl2⟩)
    (c_2 : PySem.W.codeIn K cd2 "_law_of" = true)
    (k2 : PySem.W.keepIn K (.ref f2) = true)
    (l3 : K.lookup f3 = some ⟨oc3, od3, .func (PySem.W.fnOf "_law_errors" "_law_errors" (defArgs s__law_errors) (defBody s__law_errors) (defScope s__law_errors) .none kV3 dc3 pm3 an3 cd3 ct3), sl3⟩)
    (c_3 : PySem.W.codeIn K cd3 "_law_errors" = true)
    (k3 : PySem.W.keepIn K (.ref f3) = true)
    (l4 : K.lookup f4 = some ⟨oc4, od4, .func (PySem.W.fnOf "_law_codes" "_law_codes" (defArgs s__law_codes) (defBody s__law_codes) (defScope s__law_codes) .none kV4 dc4 pm4 an4 cd4 ct4), sl4⟩)
    (c_4 : PySem.W.codeIn K cd4 "_law_codes" = true)
    (k4 : PySem.W.keepIn K (.ref f4) = true)
    (l5 : K.lookup f5 = some ⟨oc5, od5, .func (PySem.W.fnOf "_law_same" "_law_same" (defArgs s__law_same) (defBody s__law_same) (defScope s__law_same) .none kV5 dc5 pm5 an5 cd5 ct5), sl5⟩)
    (c_5 : PySem.W.codeIn K cd5 "_law_same" = true)
    (k5 : PySem.W.keepIn K (.ref f5) = true)
    (l6 : K.lookup f6 = some ⟨oc6, od6, .func (PySem.W.fnOf "_law_field" "_law_field" (defArgs s__law_field) (defBody s__law_field) (defScope s__law_field) .none kV6 dc6 pm6 an6 cd6 ct6), sl6⟩)
    (c_6 : PySem.W.codeIn K cd6 "_law_field" = true)
    (k6 : PySem.W.keepIn K (.ref f6) = true)
    (l7 : K.lookup f7 = some ⟨oc7, od7, .func (PySem.W.fnOf "_law_classes" "_law_classes" (defArgs s__law_classes) (defBody s__law_classes) (defScope s__law_classes) .none kV7 dc7 pm7 an7 cd7 ct7), sl7⟩)
    (c_7 : PySem.W.codeIn K cd7 "_law_classes" = true)
    (k7 : PySem.W.keepIn K (.ref f7) = true)
    (l8 : K.lookup f8 = some ⟨oc8, od8, .func (PySem.W.fnOf "_law_named_errors" "_law_named_errors" (defArgs s__law_named_errors) (defBody s__law_named_errors) (defScope s__law_named_errors) .none kV8 dc8 pm8 an8 cd8 ct8), sl8⟩)
    (c_8 : PySem.W.codeIn K cd8 "_law_named_errors" = true)
    (k8 : PySem.W.keepIn K (.ref f8) = true)
    (l9 : K.lookup f9 = some ⟨oc9, od9, .func (PySem.W.fnOf "law" "law" (defArgs s_law) (defBody s_law) (defScope s_law) .none kV9 dc9 pm9 an9 cd9 ct9), sl9⟩)
    (c_9 : PySem.W.codeIn K cd9 "law" = true)
    (k9 : PySem.W.keepIn K (.ref f9) = true)
    (z0 : PySem.W.nsIn K mainGlobals "len" = some none)
    (z1 : PySem.W.nsIn K mainGlobals "range" = some none)
    (z2 : PySem.W.nsIn K mainGlobals "isinstance" = some none)
    (z3 : PySem.W.nsIn K mainGlobals "ValueError" = some none)
    (z4 : PySem.W.nsIn K mainGlobals "LookupError" = some none)
    (z5 : PySem.W.nsIn K mainGlobals "IndexError" = some none)
    (z6 : PySem.W.nsIn K mainGlobals "list" = some none)
    (z7 : PySem.W.nsIn K mainGlobals "tuple" = some none)
    (z8 : PySem.W.nsIn K mainGlobals "zip" = some none)
    (z9 : PySem.W.nsIn K mainGlobals "all" = some none)
    (z10 : PySem.W.nsIn K mainGlobals "bool" = some none)
    (z11 : PySem.W.nsIn K mainGlobals "int" = some none)
    (z12 : PySem.W.nsIn K mainGlobals "str" = some none)
    (h0a : PySem.W.findIn K (.ref c27) "__getattribute__" = some (some (.builtin "BaseException.__getattribute__")))
    (h0b : PySem.W.findIn K (.ref c27) "__getattr__" = some none)
    (h0c : PySem.W.subIn K (.ref c27) (.type "BaseException") = some true)
    (h0d : PySem.W.hasDictIn K c27 = true)
    (h1 : PySem.W.findIn K (.ref c27) "code" = some none)
    (h2a : PySem.W.findIn K (.ref c26) "__getattribute__" = some (some (.builtin "BaseException.__getattribute__")))
    (h2b : PySem.W.findIn K (.ref c26) "__getattr__" = some none)
    (h2c : PySem.W.subIn K (.ref c26) (.type "BaseException") = some true)
    (h2d : PySem.W.hasDictIn K c26 = true)
    (h3 : PySem.W.findIn K (.ref c26) "code" = some none)
    (h4a : PySem.W.findIn K (.ref c25) "__getattribute__" = some (some (.builtin "BaseException.__getattribute__")))
    (h4b : PySem.W.findIn K (.ref c25) "__getattr__" = some none)
    (h4c : PySem.W.subIn K (.ref c25) (.type "BaseException") = some true)
    (h4d : PySem.W.hasDictIn K c25 = true)
    (h5 : PySem.W.findIn K (.ref c25) "code" = some none)
    (h6a : PySem.W.findIn K (.ref c24) "__getattribute__" = some (some (.builtin "BaseException.__getattribute__")))
    (h6b : PySem.W.findIn K (.ref c24) "__getattr__" = some none)
    (h6c : PySem.W.subIn K (.ref c24) (.type "BaseException") = some true)
    (h6d : PySem.W.hasDictIn K c24 = true)
    (h7 : PySem.W.findIn K (.ref c24) "code" = some none)
    (h8a : PySem.W.findIn K (.ref c23) "__getattribute__" = some (some (.builtin "BaseException.__getattribute__")))
    (h8b : PySem.W.findIn K (.ref c23) "__getattr__" = some none)
    (h8c : PySem.W.subIn K (.ref c23) (.type "BaseException") = some true)
    (h8d : PySem.W.hasDictIn K c23 = true)
    (h9 : PySem.W.findIn K (.ref c23) "code" = some none)
    (h10a : PySem.W.findIn K (.ref c22) "__getattribute__" = some (some (.builtin "BaseException.__getattribute__")))
    (h10b : PySem.W.findIn K (.ref c22) "__getattr__" = some none)
    (h10c : PySem.W.subIn K (.ref c22) (.type "BaseException") = some true)
    (h10d : PySem.W.hasDictIn K c22 = true)
    (h11 : PySem.W.findIn K (.ref c22) "code" = some none)
    (h12a : PySem.W.findIn K (.ref c21) "__getattribute__" = some (some (.builtin "BaseException.__getattribute__")))
    (h12b : PySem.W.findIn K (.ref c21) "__getattr__" = some none)
    (h12c : PySem.W.subIn K (.ref c21) (.type "BaseException") = some true)
    (h12d : PySem.W.hasDictIn K c21 = true)
    (h13 : PySem.W.findIn K (.ref c21) "code" = some none)
    (h14a : PySem.W.findIn K (.ref c20) "__getattribute__" = some (some (.builtin "BaseException.__getattribute__")))
    (h14b : PySem.W.findIn K (.ref c20) "__getattr__" = some none)
    (h14c : PySem.W.subIn K (.ref c20) (.type "BaseException") = some true)
    (h14d : PySem.W.hasDictIn K c20 = true)
    (h15 : PySem.W.findIn K (.ref c20) "code" = some none)
    (h16a : PySem.W.findIn K (.ref c19) "__getattribute__" = some (some (.builtin "BaseException.__getattribute__")))
    (h16b : PySem.W.findIn K (.ref c19) "__getattr__" = some none)
    (h16c : PySem.W.subIn K (.ref c19) (.type "BaseException") = some true)
    (h16d : PySem.W.hasDictIn K c19 = true)
    (h17 : PySem.W.findIn K (.ref c19) "code" = some none)
    (h18a : PySem.W.findIn K (.ref c18) "__getattribute__" = some (some (.builtin "BaseException.__getattribute__")))
    (h18b : PySem.W.findIn K (.ref c18) "__getattr__" = some none)
    (h18c : PySem.W.subIn K (.ref c18) (.type "BaseException") = some true)
    (h18d : PySem.W.hasDictIn K c18 = true)
    (h19 : PySem.W.findIn K (.ref c18) "code" = some none)
    (h20a : PySem.W.findIn K (.ref c17) "__getattribute__" = some (some (.builtin "BaseException.__getattribute__")))
    (h20b : PySem.W.findIn K (.ref c17) "__getattr__" = some none)
    (h20c : PySem.W.subIn K (.ref c17) (.type "BaseException") = some true)
    (h20d : PySem.W.hasDictIn K c17 = true)
    (h21 : PySem.W.findIn K (.ref c17) "code" = some none)
    (h22a : PySem.W.findIn K (.ref c16) "__getattribute__" = some (some (.builtin "BaseException.__getattribute__")))
    (h22b : PySem.W.findIn K (.ref c16) "__getattr__" = some none)
    (h22c : PySem.W.subIn K (.ref c16) (.type "BaseException") = some true)
    (h22d : PySem.W.hasDictIn K c16 = true)
    (h23 : PySem.W.findIn K (.ref c16) "code" = some none)
    (h24a : PySem.W.findIn K (.ref c15) "__getattribute__" = some (some (.builtin "BaseException.__getattribute__")))
    (h24b : PySem.W.findIn K (.ref c15) "__getattr__" = some none)
    (h24c : PySem.W.subIn K (.ref c15) (.type "BaseException") = some true)
    (h24d : PySem.W.hasDictIn K c15 = true)
    (h25 : PySem.W.findIn K (.ref c15) "code" = some none)
    (h26a : PySem.W.findIn K (.ref c14) "__getattribute__" = some (some (.builtin "BaseException.__getattribute__")))
    (h26b : PySem.W.findIn K (.ref c14) "__getattr__" = some none)
    (h26c : PySem.W.subIn K (.ref c14) (.type "BaseException") = some true)
    (h26d : PySem.W.hasDictIn K c14 = true)
    (h27 : PySem.W.findIn K (.ref c14) "code" = some none)
    (h28a : PySem.W.findIn K (.ref c13) "__getattribute__" = some (some (.builtin "BaseException.__getattribute__")))
    (h28b : PySem.W.findIn K (.ref c13) "__getattr__" = some none)
    (h28c : PySem.W.subIn K (.ref c13) (.type "BaseException") = some true)
    (h28d : PySem.W.hasDictIn K c13 = true)
    (h29 : PySem.W.findIn K (.ref c13) "code" = some none)
    (h30a : PySem.W.findIn K (.ref c12) "__getattribute__" = some (some (.builtin "BaseException.__getattribute__")))
    (h30b : PySem.W.findIn K (.ref c12) "__getattr__" = some none)
    (h30c : PySem.W.subIn K (.ref c12) (.type "BaseException") = some true)
    (h30d : PySem.W.hasDictIn K c12 = true)
    (h31 : PySem.W.findIn K (.ref c12) "code" = some none)
    (h32a : PySem.W.findIn K (.ref c11) "__getattribute__" = some (some (.builtin "BaseException.__getattribute__")))
    (h32b : PySem.W.findIn K (.ref c11) "__getattr__" = some none)
    (h32c : PySem.W.subIn K (.ref c11) (.type "BaseException") = some true)
    (h32d : PySem.W.hasDictIn K c11 = true)
    (h33 : PySem.W.findIn K (.ref c11) "code" = some none)
    (h34a : PySem.W.findIn K (.ref c10) "__getattribute__" = some (some (.builtin "BaseException.__getattribute__")))
    (h34b : PySem.W.findIn K (.ref c10) "__getattr__" = some none)
    (h34c : PySem.W.subIn K (.ref c10) (.type "BaseException") = some true)
    (h34d : PySem.W.hasDictIn K c10 = true)
    (h35 : PySem.W.findIn K (.ref c10) "code" = some none)
    (h36a : PySem.W.findIn K (.ref c9) "__getattribute__" = some (some (.builtin "BaseException.__getattribute__")))
    (h36b : PySem.W.findIn K (.ref c9) "__getattr__" = some none)
    (h36c : PySem.W.subIn K (.ref c9) (.type "BaseException") = some true)
    (h36d : PySem.W.hasDictIn K c9 = true)
    (h37 : PySem.W.findIn K (.ref c9) "code" = some none)
    (h38a : PySem.W.findIn K (.ref c8) "__getattribute__" = some (some (.builtin "BaseException.__getattribute__")))
    (h38b : PySem.W.findIn K (.ref c8) "__getattr__" = some none)
    (h38c : PySem.W.subIn K (.ref c8) (.type "BaseException") = some true)
    (h38d : PySem.W.hasDictIn K c8 = true)
    (h39 : PySem.W.findIn K (.ref c8) "code" = some none)
    (h40a : PySem.W.findIn K (.ref c7) "__getattribute__" = some (some (.builtin "BaseException.__getattribute__")))
    (h40b : PySem.W.findIn K (.ref c7) "__getattr__" = some none)
    (h40c : PySem.W.subIn K (.ref c7) (.type "BaseException") = some true)
    (h40d : PySem.W.hasDictIn K c7 = true)
    (h41 : PySem.W.findIn K (.ref c7) "code" = some none)
    (h42a : PySem.W.findIn K (.ref c6) "__getattribute__" = some (some (.builtin "BaseException.__getattribute__")))
    (h42b : PySem.W.findIn K (.ref c6) "__getattr__" = some none)
    (h42c : PySem.W.subIn K (.ref c6) (.type "BaseException") = some true)
    (h42d : PySem.W.hasDictIn K c6 = true)
    (h43 : PySem.W.findIn K (.ref c6) "code" = some none)
    (h44a : PySem.W.findIn K (.ref c5) "__getattribute__" = some (some (.builtin "BaseException.__getattribute__")))
    (h44b : PySem.W.findIn K (.ref c5) "__getattr__" = some none)
    (h44c : PySem.W.subIn K (.ref c5) (.type "BaseException") = some true)
    (h44d : PySem.W.hasDictIn K c5 = true)
    (h45 : PySem.W.findIn K (.ref c5) "code" = some none)
    (h46a : PySem.W.findIn K (.ref c4) "__getattribute__" = some (some (.builtin "BaseException.__getattribute__")))
    (h46b : PySem.W.findIn K (.ref c4) "__getattr__" = some none)
    (h46c : PySem.W.subIn K (.ref c4) (.type "BaseException") = some true)
    (h46d : PySem.W.hasDictIn K c4 = true)
    (h47 : PySem.W.findIn K (.ref c4) "code" = some none)
    (h48a : PySem.W.findIn K (.ref c3) "__getattribute__" = some (some (.builtin "BaseException.__getattribute__")))
    (h48b : PySem.W.findIn K (.ref c3) "__getattr__" = some none)
    (h48c : PySem.W.subIn K (.ref c3) (.type "BaseException") = some true)
    (h48d : PySem.W.hasDictIn K c3 = true)
    (h49 : PySem.W.findIn K (.ref c3) "code" = some none)
    (h50a : PySem.W.findIn K (.ref c2) "__getattribute__" = some (some (.builtin "BaseException.__getattribute__")))
    (h50b : PySem.W.findIn K (.ref c2) "__getattr__" = some none)
    (h50c : PySem.W.subIn K (.ref c2) (.type "BaseException") = some true)
    (h50d : PySem.W.hasDictIn K c2 = true)
    (h51 : PySem.W.findIn K (.ref c2) "code" = some none)
    (h52 : HP.esL K [c2, c3, c4, c5, c6, c7, c8, c9, c10, c11, c12, c13, c14, c15, c16, c17, c18, c19, c20, c21, c22, c23, c24, c25, c26, c27] = true)
    (h53 : HP.kiL K (.ref c0) [(c2, true), (c3, true), (c4, true), (c5, true), (c6, true), (c7, true), (c8, true), (c9, true), (c10, true), (c11, true), (c12, true), (c13, true), (c14, true), (c15, true), (c16, true), (c17, true), (c18, true), (c19, true), (c20, true), (c21, true), (c22, true), (c23, true), (c24, false), (c25, false), (c26, false), (c27, false)] = true)
    (h55 : HP.kiL K (.type "ValueError") [(c2, true), (c3, true), (c4, true), (c5, true), (c6, true), (c7, true), (c8, true), (c9, true), (c10, true), (c11, true), (c12, true), (c13, true), (c14, true), (c15, true), (c16, true), (c17, true), (c18, true), (c19, true), (c20, true), (c21, true), (c22, true), (c23, true), (c24, false), (c25, false), (c26, false), (c27, false)] = true)
    (h56 : HP.kiL K (.ref c1) [(c2, false), (c3, false), (c4, false), (c5, false), (c6, false), (c7, false), (c8, false), (c9, false), (c10, false), (c11, false), (c12, false), (c13, false), (c14, false), (c15, false), (c16, false), (c17, false), (c18, false), (c19, false), (c20, false), (c21, false), (c22, false), (c23, false), (c24, true), (c25, true), (c26, true), (c27, false)] = true)
    (h58 : HP.kiL K (.type "LookupError") [(c2, false), (c3, false), (c4, false), (c5, false), (c6, false), (c7, false), (c8, false), (c9, false), (c10, false), (c11, false), (c12, false), (c13, false), (c14, false), (c15, false), (c16, false), (c17, false), (c18, false), (c19, false), (c20, false), (c21, false), (c22, false), (c23, false), (c24, true), (c25, true), (c26, true), (c27, true)] = true)
    (h59 : HP.kiL K (.type "IndexError") [(c2, false), (c3, false), (c4, false), (c5, false), (c6, false), (c7, false), (c8, false), (c9, false), (c10, false), (c11, false), (c12, false), (c13, false), (c14, false), (c15, false), (c16, false), (c17, false), (c18, false), (c19, false), (c20, false), (c21, false), (c22, false), (c23, false), (c24, false), (c25, false), (c26, false), (c27, true)] = true)
    (h61 : PySem.W.keepIn K (.ref c2) = true)
    (h63 : PySem.W.keepIn K (.ref c3) = true)
    (h65 : PySem.W.keepIn K (.ref c4) = true)
    (h67 : PySem.W.keepIn K (.ref c5) = true)
    (h69 : PySem.W.keepIn K (.ref c6) = true)
    (h71 : PySem.W.keepIn K (.ref c7) = true)
    (h73 : PySem.W.keepIn K (.ref c8) = true)
    (h75 : PySem.W.keepIn K (.ref c9) = true)
    (h77 : PySem.W.keepIn K (.ref c10) = true)
    (h79 : PySem.W.keepIn K (.ref c11) = true)
    (h81 : PySem.W.keepIn K (.ref c12) = true)
    (h83 : PySem.W.keepIn K (.ref c13) = true)
    (h85 : PySem.W.keepIn K (.ref c14) = true)
    (h87 : PySem.W.keepIn K (.ref c15) = true)
    (h89 : PySem.W.keepIn K (.ref c16) = true)
    (h91 : PySem.W.keepIn K (.ref c17) = true)
    (h93 : PySem.W.keepIn K (.ref c18) = true)
    (h95 : PySem.W.keepIn K (.ref c19) = true)
    (h97 : PySem.W.keepIn K (.ref c20) = true)
    (h99 : PySem.W.keepIn K (.ref c21) = true)
    (h101 : PySem.W.keepIn K (.ref c22) = true)
    (h103 : PySem.W.keepIn K (.ref c23) = true)
    (h105 : PySem.W.keepIn K (.ref c24) = true)
    (h107 : PySem.W.keepIn K (.ref c25) = true)
    (h109 : PySem.W.keepIn K (.ref c26) = true)
    (h111 : PySem.W.keepIn K (.ref c27) = true)
    (h112 : PySem.W.findIn K (.ref c15) "at" = some none)
    (h113 : PySem.W.findIn K (.ref c14) "at" = some none)
    (h114 : PySem.W.findIn K (.ref c7) "at" = some none)
    (h115 : PySem.W.findIn K (.ref c5) "at" = some none)
    (h116 : PySem.W.findIn K (.ref c4) "at" = some none)
    (h117 : PySem.W.findIn K (.ref c3) "at" = some none)
    (h118 : PySem.W.findIn K (.ref c22) "most" = some none)
    (h119 : PySem.W.findIn K (.ref c23) "limit" = some none)
    (h120 : PySem.W.findIn K (.ref c24) "name" = some none)
    (h121 : PySem.W.findIn K (.ref c25) "row" = some none)
    (h122 : PySem.W.findIn K (.ref c17) "line" = some none)
    (h123 : PySem.W.findIn K (.ref c26) "given" = some none)
    (h124 : PySem.W.findIn K (.ref c16) "given" = some none)
    (h125 : PySem.W.findIn K (.ref c13) "given" = some none)
    (h126 : PySem.W.findIn K (.ref c12) "given" = some none)
    (h127 : PySem.W.findIn K (.ref c11) "given" = some none)
    (h128 : PySem.W.findIn K (.ref c10) "given" = some none)
    (h129 : PySem.W.findIn K (.ref c9) "given" = some none)
    (h130 : PySem.W.findIn K (.ref c8) "given" = some none)
    (h131 : PySem.W.findIn K (.ref c6) "given" = some none)
    (h132 : PySem.W.findIn K (.ref c2) "given" = some none)
    (h133 : HP.kiL K (.ref c2) [(c2, true), (c3, false), (c4, false), (c5, false), (c6, false), (c7, false), (c8, false), (c9, false), (c10, false), (c11, false), (c12, false), (c13, false), (c14, false), (c15, false), (c16, false), (c17, false), (c18, false), (c19, false), (c20, false), (c21, false), (c22, false), (c23, false), (c24, false), (c25, false), (c26, false), (c27, false)] = true)
    (h134 : HP.kiL K (.ref c3) [(c2, false), (c3, true), (c4, false), (c5, false), (c6, false), (c7, false), (c8, false), (c9, false), (c10, false), (c11, false), (c12, false), (c13, false), (c14, false), (c15, false), (c16, false), (c17, false), (c18, false), (c19, false), (c20, false), (c21, false), (c22, false), (c23, false), (c24, false), (c25, false), (c26, false), (c27, false)] = true)
    (h135 : HP.kiL K (.ref c4) [(c2, false), (c3, false), (c4, true), (c5, false), (c6, false), (c7, false), (c8, false), (c9, false), (c10, false), (c11, false), (c12, false), (c13, false), (c14, false), (c15, false), (c16, false), (c17, false), (c18, false), (c19, false), (c20, false), (c21, false), (c22, false), (c23, false), (c24, false), (c25, false), (c26, false), (c27, false)] = true)
    (h136 : HP.kiL K (.ref c5) [(c2, false), (c3, false), (c4, false), (c5, true), (c6, false), (c7, false), (c8, false), (c9, false), (c10, false), (c11, false), (c12, false), (c13, false), (c14, false), (c15, false), (c16, false), (c17, false), (c18, false), (c19, false), (c20, false), (c21, false), (c22, false), (c23, false), (c24, false), (c25, false), (c26, false), (c27, false)] = true)
    (h137 : HP.kiL K (.ref c6) [(c2, false), (c3, false), (c4, false), (c5, false), (c6, true), (c7, false), (c8, false), (c9, false), (c10, false), (c11, false), (c12, false), (c13, false), (c14, false), (c15, false), (c16, false), (c17, false), (c18, false), (c19, false), (c20, false), (c21, false), (c22, false), (c23, false), (c24, false), (c25, false), (c26, false), (c27, false)] = true)
    (h138 : HP.kiL K (.ref c7) [(c2, false), (c3, false), (c4, false), (c5, false), (c6, false), (c7, true), (c8, false), (c9, false), (c10, false), (c11, false), (c12, false), (c13, false), (c14, false), (c15, false), (c16, false), (c17, false), (c18, false), (c19, false), (c20, false), (c21, false), (c22, false), (c23, false), (c24, false), (c25, false), (c26, false), (c27, false)] = true)
    (h139 : HP.kiL K (.ref c8) [(c2, false), (c3, false), (c4, false), (c5, false), (c6, false), (c7, false), (c8, true), (c9, false), (c10, false), (c11, false), (c12, false), (c13, false), (c14, false), (c15, false), (c16, false), (c17, false), (c18, false), (c19, false), (c20, false), (c21, false), (c22, false), (c23, false), (c24, false), (c25, false), (c26, false), (c27, false)] = true)
    (h140 : HP.kiL K (.ref c9) [(c2, false), (c3, false), (c4, false), (c5, false), (c6, false), (c7, false), (c8, false), (c9, true), (c10, false), (c11, false), (c12, false), (c13, false), (c14, false), (c15, false), (c16, false), (c17, false), (c18, false), (c19, false), (c20, false), (c21, false), (c22, false), (c23, false), (c24, false), (c25, false), (c26, false), (c27, false)] = true)
    (h141 : HP.kiL K (.ref c10) [(c2, false), (c3, false), (c4, false), (c5, false), (c6, false), (c7, false), (c8, false), (c9, false), (c10, true), (c11, false), (c12, false), (c13, false), (c14, false), (c15, false), (c16, false), (c17, false), (c18, false), (c19, false), (c20, false), (c21, false), (c22, false), (c23, false), (c24, false), (c25, false), (c26, false), (c27, false)] = true)
    (h142 : HP.kiL K (.ref c11) [(c2, false), (c3, false), (c4, false), (c5, false), (c6, false), (c7, false), (c8, false), (c9, false), (c10, false), (c11, true), (c12, false), (c13, false), (c14, false), (c15, false), (c16, false), (c17, false), (c18, false), (c19, false), (c20, false), (c21, false), (c22, false), (c23, false), (c24, false), (c25, false), (c26, false), (c27, false)] = true)
    (h143 : HP.kiL K (.ref c12) [(c2, false), (c3, false), (c4, false), (c5, false), (c6, false), (c7, false), (c8, false), (c9, false), (c10, false), (c11, false), (c12, true), (c13, false), (c14, false), (c15, false), (c16, false), (c17, false), (c18, false), (c19, false), (c20, false), (c21, false), (c22, false), (c23, false), (c24, false), (c25, false), (c26, false), (c27, false)] = true)
    (h144 : HP.kiL K (.ref c13) [(c2, false), (c3, false), (c4, false), (c5, false), (c6, false), (c7, false), (c8, false), (c9, false), (c10, false), (c11, false), (c12, false), (c13, true), (c14, false), (c15, false), (c16, false), (c17, false), (c18, false), (c19, false), (c20, false), (c21, false), (c22, false), (c23, false), (c24, false), (c25, false), (c26, false), (c27, false)] = true)
    (h145 : HP.kiL K (.ref c14) [(c2, false), (c3, false), (c4, false), (c5, false), (c6, false), (c7, false), (c8, false), (c9, false), (c10, false), (c11, false), (c12, false), (c13, false), (c14, true), (c15, false), (c16, false), (c17, false), (c18, false), (c19, false), (c20, false), (c21, false), (c22, false), (c23, false), (c24, false), (c25, false), (c26, false), (c27, false)] = true)
    (h146 : HP.kiL K (.ref c15) [(c2, false), (c3, false), (c4, false), (c5, false), (c6, false), (c7, false), (c8, false), (c9, false), (c10, false), (c11, false), (c12, false), (c13, false), (c14, false), (c15, true), (c16, false), (c17, false), (c18, false), (c19, false), (c20, false), (c21, false), (c22, false), (c23, false), (c24, false), (c25, false), (c26, false), (c27, false)] = true)
    (h147 : HP.kiL K (.ref c16) [(c2, false), (c3, false), (c4, false), (c5, false), (c6, false), (c7, false), (c8, false), (c9, false), (c10, false), (c11, false), (c12, false), (c13, false), (c14, false), (c15, false), (c16, true), (c17, false), (c18, false), (c19, false), (c20, false), (c21, false), (c22, false), (c23, false), (c24, false), (c25, false), (c26, false), (c27, false)] = true)
    (h148 : HP.kiL K (.ref c17) [(c2, false), (c3, false), (c4, false), (c5, false), (c6, false), (c7, false), (c8, false), (c9, false), (c10, false), (c11, false), (c12, false), (c13, false), (c14, false), (c15, false), (c16, false), (c17, true), (c18, false), (c19, false), (c20, false), (c21, false), (c22, false), (c23, false), (c24, false), (c25, false), (c26, false), (c27, false)] = true)
    (h149 : HP.kiL K (.ref c18) [(c2, false), (c3, false), (c4, false), (c5, false), (c6, false), (c7, false), (c8, false), (c9, false), (c10, false), (c11, false), (c12, false), (c13, false), (c14, false), (c15, false), (c16, false), (c17, false), (c18, true), (c19, false), (c20, false), (c21, false), (c22, false), (c23, false), (c24, false), (c25, false), (c26, false), (c27, false)] = true)
    (h150 : HP.kiL K (.ref c19) [(c2, false), (c3, false), (c4, false), (c5, false), (c6, false), (c7, false), (c8, false), (c9, false), (c10, false), (c11, false), (c12, false), (c13, false), (c14, false), (c15, false), (c16, false), (c17, false), (c18, false), (c19, true), (c20, false), (c21, false), (c22, false), (c23, false), (c24, false), (c25, false), (c26, false), (c27, false)] = true)
    (h151 : HP.kiL K (.ref c20) [(c2, false), (c3, false), (c4, false), (c5, false), (c6, false), (c7, false), (c8, false), (c9, false), (c10, false), (c11, false), (c12, false), (c13, false), (c14, false), (c15, false), (c16, false), (c17, false), (c18, false), (c19, false), (c20, true), (c21, false), (c22, false), (c23, false), (c24, false), (c25, false), (c26, false), (c27, false)] = true)
    (h152 : HP.kiL K (.ref c21) [(c2, false), (c3, false), (c4, false), (c5, false), (c6, false), (c7, false), (c8, false), (c9, false), (c10, false), (c11, false), (c12, false), (c13, false), (c14, false), (c15, false), (c16, false), (c17, false), (c18, false), (c19, false), (c20, false), (c21, true), (c22, false), (c23, false), (c24, false), (c25, false), (c26, false), (c27, false)] = true)
    (h153 : HP.kiL K (.ref c22) [(c2, false), (c3, false), (c4, false), (c5, false), (c6, false), (c7, false), (c8, false), (c9, false), (c10, false), (c11, false), (c12, false), (c13, false), (c14, false), (c15, false), (c16, false), (c17, false), (c18, false), (c19, false), (c20, false), (c21, false), (c22, true), (c23, false), (c24, false), (c25, false), (c26, false), (c27, false)] = true)
    (h154 : HP.kiL K (.ref c23) [(c2, false), (c3, false), (c4, false), (c5, false), (c6, false), (c7, false), (c8, false), (c9, false), (c10, false), (c11, false), (c12, false), (c13, false), (c14, false), (c15, false), (c16, false), (c17, false), (c18, false), (c19, false), (c20, false), (c21, false), (c22, false), (c23, true), (c24, false), (c25, false), (c26, false), (c27, false)] = true)
    (h155 : HP.kiL K (.ref c24) [(c2, false), (c3, false), (c4, false), (c5, false), (c6, false), (c7, false), (c8, false), (c9, false), (c10, false), (c11, false), (c12, false), (c13, false), (c14, false), (c15, false), (c16, false), (c17, false), (c18, false), (c19, false), (c20, false), (c21, false), (c22, false), (c23, false), (c24, true), (c25, false), (c26, false), (c27, false)] = true)
    (h156 : HP.kiL K (.ref c25) [(c2, false), (c3, false), (c4, false), (c5, false), (c6, false), (c7, false), (c8, false), (c9, false), (c10, false), (c11, false), (c12, false), (c13, false), (c14, false), (c15, false), (c16, false), (c17, false), (c18, false), (c19, false), (c20, false), (c21, false), (c22, false), (c23, false), (c24, false), (c25, true), (c26, false), (c27, false)] = true)
    (h157 : HP.kiL K (.ref c26) [(c2, false), (c3, false), (c4, false), (c5, false), (c6, false), (c7, false), (c8, false), (c9, false), (c10, false), (c11, false), (c12, false), (c13, false), (c14, false), (c15, false), (c16, false), (c17, false), (c18, false), (c19, false), (c20, false), (c21, false), (c22, false), (c23, false), (c24, false), (c25, false), (c26, true), (c27, false)] = true)
    (h158 : HP.kiL K (.ref c27) [(c2, false), (c3, false), (c4, false), (c5, false), (c6, false), (c7, false), (c8, false), (c9, false), (c10, false), (c11, false), (c12, false), (c13, false), (c14, false), (c15, false), (c16, false), (c17, false), (c18, false), (c19, false), (c20, false), (c21, false), (c22, false), (c23, false), (c24, false), (c25, false), (c26, false), (c27, true)] = true)
    (ztop : (l.prog.main.scope.names.lookup ("super" : Str)).isSome = false)
    (zthird : PySem.W.nsIn K cStatics "thirdparty.any" = some none)
    (elk0 : K.lookup ef0 = some ⟨eoc0, eod0, .func (PySem.W.fnX "__init__" "InvalidName.__init__" (defArgs s_InvalidName___init__) (defBody s_InvalidName___init__) (defScope s_InvalidName___init__) [("__class__", el0)] .none ekV0 edc0 epm0 ean0 (.ref ecc0) ect0), eol0⟩)
    (ety0 : PySem.W.typeIn K (.ref ef0) = some (.type "function"))
    (exi0 : PySem.W.excInitIn K c2 [.type "ValueError", .type "Exception", .type "BaseException", .type "object"] "ValueError.__new__" = true)
    (exo0 : PySem.W.excOver K c2 [.type "ValueError", .type "Exception", .type "BaseException", .type "object"] = true)
    (exd0 : PySem.W.hasDictIn K c2 = true)
    (exs0 : PySem.W.findIn K (.ref c2) "__setattr__" = some (some (.builtin "object.__setattr__")))
    (exb0 : PySem.W.subIn K (.ref c2) (.type "BaseException") = some true)
    (exv0 : PySem.W.subIn K (.ref c2) (.type "ValueError") = some true)
    (ext0 : PySem.W.typeIn K (.ref c2) = some (.type "type"))
    (exk0 : PySem.W.keepIn K (.ref c2) = true)
    (exu0 : PySem.W.ks_superIn K c2 c2 "__init__" = some (some (.builtin "ValueError.__init__")))
    (exc0 : PySem.W.codeIn K (.ref ecc0) "InvalidName.__init__" = true)
    (exl0 : K.lookup el0 = some ⟨eo20, ed20, .cell (some (.ref c2)), es20⟩)
    (exfa0 : K.lookup ecc0 = some ⟨eo30, ed30, .fields evs0, es30⟩)
    (exfb0 : (evs0[2]? : Option Value) = some (.str efl0 etk0))
    (exfc0 : ((l.prog.main.file : Str) == efl0) = true)
    (exm0 : PySem.W.mroIn K c2 (.ref c2) = some true)
    (exq0 : PySem.W.takerIn K c2 "code" = some none)
    (exg0 : PySem.W.takerIn K c2 "given" = some none)
    (elk1 : K.lookup ef1 = some ⟨eoc1, eod1, .func (PySem.W.fnX "__init__" "InvalidScheme.__init__" (defArgs s_InvalidScheme___init__) (defBody s_InvalidScheme___init__) (defScope s_InvalidScheme___init__) [("__class__", el1)] .none ekV1 edc1 epm1 ean1 (.ref ecc1) ect1), eol1⟩)
    (ety1 : PySem.W.typeIn K (.ref ef1) = some (.type "function"))
    (exi1 : PySem.W.excInitIn K c3 [.type "ValueError", .type "Exception", .type "BaseException", .type "object"] "ValueError.__new__" = true)
    (exo1 : PySem.W.excOver K c3 [.type "ValueError", .type "Exception", .type "BaseException", .type "object"] = true)
    (exd1 : PySem.W.hasDictIn K c3 = true)
    (exs1 : PySem.W.findIn K (.ref c3) "__setattr__" = some (some (.builtin "object.__setattr__")))
    (exb1 : PySem.W.subIn K (.ref c3) (.type "BaseException") = some true)
    (exv1 : PySem.W.subIn K (.ref c3) (.type "ValueError") = some true)
    (ext1 : PySem.W.typeIn K (.ref c3) = some (.type "type"))
    (exk1 : PySem.W.keepIn K (.ref c3) = true)
    (exu1 : PySem.W.ks_superIn K c3 c3 "__init__" = some (some (.builtin "ValueError.__init__")))
    (exc1 : PySem.W.codeIn K (.ref ecc1) "InvalidScheme.__init__" = true)
    (exl1 : K.lookup el1 = some ⟨eo21, ed21, .cell (some (.ref c3)), es21⟩)
    (exfa1 : K.lookup ecc1 = some ⟨eo31, ed31, .fields evs1, es31⟩)
    (exfb1 : (evs1[2]? : Option Value) = some (.str efl1 etk1))
    (exfc1 : ((l.prog.main.file : Str) == efl1) = true)
    (exm1 : PySem.W.mroIn K c3 (.ref c3) = some true)
    (exq1 : PySem.W.takerIn K c3 "code" = some none)
    (exg1 : PySem.W.takerIn K c3 "at" = some none)
    (elk2 : K.lookup ef2 = some ⟨eoc2, eod2, .func (PySem.W.fnX "__init__" "InvalidRow.__init__" (defArgs s_InvalidRow___init__) (defBody s_InvalidRow___init__) (defScope s_InvalidRow___init__) [("__class__", el2)] .none ekV2 edc2 epm2 ean2 (.ref ecc2) ect2), eol2⟩)
    (ety2 : PySem.W.typeIn K (.ref ef2) = some (.type "function"))
    (exi2 : PySem.W.excInitIn K c4 [.type "ValueError", .type "Exception", .type "BaseException", .type "object"] "ValueError.__new__" = true)
    (exo2 : PySem.W.excOver K c4 [.type "ValueError", .type "Exception", .type "BaseException", .type "object"] = true)
    (exd2 : PySem.W.hasDictIn K c4 = true)
    (exs2 : PySem.W.findIn K (.ref c4) "__setattr__" = some (some (.builtin "object.__setattr__")))
    (exb2 : PySem.W.subIn K (.ref c4) (.type "BaseException") = some true)
    (exv2 : PySem.W.subIn K (.ref c4) (.type "ValueError") = some true)
    (ext2 : PySem.W.typeIn K (.ref c4) = some (.type "type"))
    (exk2 : PySem.W.keepIn K (.ref c4) = true)
    (exu2 : PySem.W.ks_superIn K c4 c4 "__init__" = some (some (.builtin "ValueError.__init__")))
    (exc2 : PySem.W.codeIn K (.ref ecc2) "InvalidRow.__init__" = true)
    (exl2 : K.lookup el2 = some ⟨eo22, ed22, .cell (some (.ref c4)), es22⟩)
    (exfa2 : K.lookup ecc2 = some ⟨eo32, ed32, .fields evs2, es32⟩)
    (exfb2 : (evs2[2]? : Option Value) = some (.str efl2 etk2))
    (exfc2 : ((l.prog.main.file : Str) == efl2) = true)
    (exm2 : PySem.W.mroIn K c4 (.ref c4) = some true)
    (exq2 : PySem.W.takerIn K c4 "code" = some none)
    (exg2 : PySem.W.takerIn K c4 "at" = some none)
    (elk3 : K.lookup ef3 = some ⟨eoc3, eod3, .func (PySem.W.fnX "__init__" "InvalidLoose.__init__" (defArgs s_InvalidLoose___init__) (defBody s_InvalidLoose___init__) (defScope s_InvalidLoose___init__) [("__class__", el3)] .none ekV3 edc3 epm3 ean3 (.ref ecc3) ect3), eol3⟩)
    (ety3 : PySem.W.typeIn K (.ref ef3) = some (.type "function"))
    (exi3 : PySem.W.excInitIn K c5 [.type "ValueError", .type "Exception", .type "BaseException", .type "object"] "ValueError.__new__" = true)
    (exo3 : PySem.W.excOver K c5 [.type "ValueError", .type "Exception", .type "BaseException", .type "object"] = true)
    (exd3 : PySem.W.hasDictIn K c5 = true)
    (exs3 : PySem.W.findIn K (.ref c5) "__setattr__" = some (some (.builtin "object.__setattr__")))
    (exb3 : PySem.W.subIn K (.ref c5) (.type "BaseException") = some true)
    (exv3 : PySem.W.subIn K (.ref c5) (.type "ValueError") = some true)
    (ext3 : PySem.W.typeIn K (.ref c5) = some (.type "type"))
    (exk3 : PySem.W.keepIn K (.ref c5) = true)
    (exu3 : PySem.W.ks_superIn K c5 c5 "__init__" = some (some (.builtin "ValueError.__init__")))
    (exc3 : PySem.W.codeIn K (.ref ecc3) "InvalidLoose.__init__" = true)
    (exl3 : K.lookup el3 = some ⟨eo23, ed23, .cell (some (.ref c5)), es23⟩)
    (exfa3 : K.lookup ecc3 = some ⟨eo33, ed33, .fields evs3, es33⟩)
    (exfb3 : (evs3[2]? : Option Value) = some (.str efl3 etk3))
    (exfc3 : ((l.prog.main.file : Str) == efl3) = true)
    (exm3 : PySem.W.mroIn K c5 (.ref c5) = some true)
    (exq3 : PySem.W.takerIn K c5 "code" = some none)
    (exg3 : PySem.W.takerIn K c5 "at" = some none)
    (elk4 : K.lookup ef4 = some ⟨eoc4, eod4, .func (PySem.W.fnX "__init__" "InvalidVariables.__init__" (defArgs s_InvalidVariables___init__) (defBody s_InvalidVariables___init__) (defScope s_InvalidVariables___init__) [("__class__", el4)] .none ekV4 edc4 epm4 ean4 (.ref ecc4) ect4), eol4⟩)
    (ety4 : PySem.W.typeIn K (.ref ef4) = some (.type "function"))
    (exi4 : PySem.W.excInitIn K c6 [.type "ValueError", .type "Exception", .type "BaseException", .type "object"] "ValueError.__new__" = true)
    (exo4 : PySem.W.excOver K c6 [.type "ValueError", .type "Exception", .type "BaseException", .type "object"] = true)
    (exd4 : PySem.W.hasDictIn K c6 = true)
    (exs4 : PySem.W.findIn K (.ref c6) "__setattr__" = some (some (.builtin "object.__setattr__")))
    (exb4 : PySem.W.subIn K (.ref c6) (.type "BaseException") = some true)
    (exv4 : PySem.W.subIn K (.ref c6) (.type "ValueError") = some true)
    (ext4 : PySem.W.typeIn K (.ref c6) = some (.type "type"))
    (exk4 : PySem.W.keepIn K (.ref c6) = true)
    (exu4 : PySem.W.ks_superIn K c6 c6 "__init__" = some (some (.builtin "ValueError.__init__")))
    (exc4 : PySem.W.codeIn K (.ref ecc4) "InvalidVariables.__init__" = true)
    (exl4 : K.lookup el4 = some ⟨eo24, ed24, .cell (some (.ref c6)), es24⟩)
    (exfa4 : K.lookup ecc4 = some ⟨eo34, ed34, .fields evs4, es34⟩)
    (exfb4 : (evs4[2]? : Option Value) = some (.str efl4 etk4))
    (exfc4 : ((l.prog.main.file : Str) == efl4) = true)
    (exm4 : PySem.W.mroIn K c6 (.ref c6) = some true)
    (exq4 : PySem.W.takerIn K c6 "code" = some none)
    (exg4 : PySem.W.takerIn K c6 "given" = some none)
    (elk5 : K.lookup ef5 = some ⟨eoc5, eod5, .func (PySem.W.fnX "__init__" "InvalidPart.__init__" (defArgs s_InvalidPart___init__) (defBody s_InvalidPart___init__) (defScope s_InvalidPart___init__) [("__class__", el5)] .none ekV5 edc5 epm5 ean5 (.ref ecc5) ect5), eol5⟩)
    (ety5 : PySem.W.typeIn K (.ref ef5) = some (.type "function"))
    (exi5 : PySem.W.excInitIn K c7 [.type "ValueError", .type "Exception", .type "BaseException", .type "object"] "ValueError.__new__" = true)
    (exo5 : PySem.W.excOver K c7 [.type "ValueError", .type "Exception", .type "BaseException", .type "object"] = true)
    (exd5 : PySem.W.hasDictIn K c7 = true)
    (exs5 : PySem.W.findIn K (.ref c7) "__setattr__" = some (some (.builtin "object.__setattr__")))
    (exb5 : PySem.W.subIn K (.ref c7) (.type "BaseException") = some true)
    (exv5 : PySem.W.subIn K (.ref c7) (.type "ValueError") = some true)
    (ext5 : PySem.W.typeIn K (.ref c7) = some (.type "type"))
    (exk5 : PySem.W.keepIn K (.ref c7) = true)
    (exu5 : PySem.W.ks_superIn K c7 c7 "__init__" = some (some (.builtin "ValueError.__init__")))
    (exc5 : PySem.W.codeIn K (.ref ecc5) "InvalidPart.__init__" = true)
    (exl5 : K.lookup el5 = some ⟨eo25, ed25, .cell (some (.ref c7)), es25⟩)
    (exfa5 : K.lookup ecc5 = some ⟨eo35, ed35, .fields evs5, es35⟩)
    (exfb5 : (evs5[2]? : Option Value) = some (.str efl5 etk5))
    (exfc5 : ((l.prog.main.file : Str) == efl5) = true)
    (exm5 : PySem.W.mroIn K c7 (.ref c7) = some true)
    (exq5 : PySem.W.takerIn K c7 "code" = some none)
    (exg5 : PySem.W.takerIn K c7 "at" = some none)
    (elk6 : K.lookup ef6 = some ⟨eoc6, eod6, .func (PySem.W.fnX "__init__" "InvalidFormula.__init__" (defArgs s_InvalidFormula___init__) (defBody s_InvalidFormula___init__) (defScope s_InvalidFormula___init__) [("__class__", el6)] .none ekV6 edc6 epm6 ean6 (.ref ecc6) ect6), eol6⟩)
    (ety6 : PySem.W.typeIn K (.ref ef6) = some (.type "function"))
    (exi6 : PySem.W.excInitIn K c8 [.type "ValueError", .type "Exception", .type "BaseException", .type "object"] "ValueError.__new__" = true)
    (exo6 : PySem.W.excOver K c8 [.type "ValueError", .type "Exception", .type "BaseException", .type "object"] = true)
    (exd6 : PySem.W.hasDictIn K c8 = true)
    (exs6 : PySem.W.findIn K (.ref c8) "__setattr__" = some (some (.builtin "object.__setattr__")))
    (exb6 : PySem.W.subIn K (.ref c8) (.type "BaseException") = some true)
    (exv6 : PySem.W.subIn K (.ref c8) (.type "ValueError") = some true)
    (ext6 : PySem.W.typeIn K (.ref c8) = some (.type "type"))
    (exk6 : PySem.W.keepIn K (.ref c8) = true)
    (exu6 : PySem.W.ks_superIn K c8 c8 "__init__" = some (some (.builtin "ValueError.__init__")))
    (exc6 : PySem.W.codeIn K (.ref ecc6) "InvalidFormula.__init__" = true)
    (exl6 : K.lookup el6 = some ⟨eo26, ed26, .cell (some (.ref c8)), es26⟩)
    (exfa6 : K.lookup ecc6 = some ⟨eo36, ed36, .fields evs6, es36⟩)
    (exfb6 : (evs6[2]? : Option Value) = some (.str efl6 etk6))
    (exfc6 : ((l.prog.main.file : Str) == efl6) = true)
    (exm6 : PySem.W.mroIn K c8 (.ref c8) = some true)
    (exq6 : PySem.W.takerIn K c8 "code" = some none)
    (exg6 : PySem.W.takerIn K c8 "given" = some none)
    (elk7 : K.lookup ef7 = some ⟨eoc7, eod7, .func (PySem.W.fnX "__init__" "InvalidColumns.__init__" (defArgs s_InvalidColumns___init__) (defBody s_InvalidColumns___init__) (defScope s_InvalidColumns___init__) [("__class__", el7)] .none ekV7 edc7 epm7 ean7 (.ref ecc7) ect7), eol7⟩)
    (ety7 : PySem.W.typeIn K (.ref ef7) = some (.type "function"))
    (exi7 : PySem.W.excInitIn K c9 [.type "ValueError", .type "Exception", .type "BaseException", .type "object"] "ValueError.__new__" = true)
    (exo7 : PySem.W.excOver K c9 [.type "ValueError", .type "Exception", .type "BaseException", .type "object"] = true)
    (exd7 : PySem.W.hasDictIn K c9 = true)
    (exs7 : PySem.W.findIn K (.ref c9) "__setattr__" = some (some (.builtin "object.__setattr__")))
    (exb7 : PySem.W.subIn K (.ref c9) (.type "BaseException") = some true)
    (exv7 : PySem.W.subIn K (.ref c9) (.type "ValueError") = some true)
    (ext7 : PySem.W.typeIn K (.ref c9) = some (.type "type"))
    (exk7 : PySem.W.keepIn K (.ref c9) = true)
    (exu7 : PySem.W.ks_superIn K c9 c9 "__init__" = some (some (.builtin "ValueError.__init__")))
    (exc7 : PySem.W.codeIn K (.ref ecc7) "InvalidColumns.__init__" = true)
    (exl7 : K.lookup el7 = some ⟨eo27, ed27, .cell (some (.ref c9)), es27⟩)
    (exfa7 : K.lookup ecc7 = some ⟨eo37, ed37, .fields evs7, es37⟩)
    (exfb7 : (evs7[2]? : Option Value) = some (.str efl7 etk7))
    (exfc7 : ((l.prog.main.file : Str) == efl7) = true)
    (exm7 : PySem.W.mroIn K c9 (.ref c9) = some true)
    (exq7 : PySem.W.takerIn K c9 "code" = some none)
    (exg7 : PySem.W.takerIn K c9 "given" = some none)
    (elk8 : K.lookup ef8 = some ⟨eoc8, eod8, .func (PySem.W.fnX "__init__" "InvalidAnswer.__init__" (defArgs s_InvalidAnswer___init__) (defBody s_InvalidAnswer___init__) (defScope s_InvalidAnswer___init__) [("__class__", el8)] .none ekV8 edc8 epm8 ean8 (.ref ecc8) ect8), eol8⟩)
    (ety8 : PySem.W.typeIn K (.ref ef8) = some (.type "function"))
    (exi8 : PySem.W.excInitIn K c10 [.type "ValueError", .type "Exception", .type "BaseException", .type "object"] "ValueError.__new__" = true)
    (exo8 : PySem.W.excOver K c10 [.type "ValueError", .type "Exception", .type "BaseException", .type "object"] = true)
    (exd8 : PySem.W.hasDictIn K c10 = true)
    (exs8 : PySem.W.findIn K (.ref c10) "__setattr__" = some (some (.builtin "object.__setattr__")))
    (exb8 : PySem.W.subIn K (.ref c10) (.type "BaseException") = some true)
    (exv8 : PySem.W.subIn K (.ref c10) (.type "ValueError") = some true)
    (ext8 : PySem.W.typeIn K (.ref c10) = some (.type "type"))
    (exk8 : PySem.W.keepIn K (.ref c10) = true)
    (exu8 : PySem.W.ks_superIn K c10 c10 "__init__" = some (some (.builtin "ValueError.__init__")))
    (exc8 : PySem.W.codeIn K (.ref ecc8) "InvalidAnswer.__init__" = true)
    (exl8 : K.lookup el8 = some ⟨eo28, ed28, .cell (some (.ref c10)), es28⟩)
    (exfa8 : K.lookup ecc8 = some ⟨eo38, ed38, .fields evs8, es38⟩)
    (exfb8 : (evs8[2]? : Option Value) = some (.str efl8 etk8))
    (exfc8 : ((l.prog.main.file : Str) == efl8) = true)
    (exm8 : PySem.W.mroIn K c10 (.ref c10) = some true)
    (exq8 : PySem.W.takerIn K c10 "code" = some none)
    (exg8 : PySem.W.takerIn K c10 "given" = some none)
    (elk9 : K.lookup ef9 = some ⟨eoc9, eod9, .func (PySem.W.fnX "__init__" "InvalidTruths.__init__" (defArgs s_InvalidTruths___init__) (defBody s_InvalidTruths___init__) (defScope s_InvalidTruths___init__) [("__class__", el9)] .none ekV9 edc9 epm9 ean9 (.ref ecc9) ect9), eol9⟩)
    (ety9 : PySem.W.typeIn K (.ref ef9) = some (.type "function"))
    (exi9 : PySem.W.excInitIn K c11 [.type "ValueError", .type "Exception", .type "BaseException", .type "object"] "ValueError.__new__" = true)
    (exo9 : PySem.W.excOver K c11 [.type "ValueError", .type "Exception", .type "BaseException", .type "object"] = true)
    (exd9 : PySem.W.hasDictIn K c11 = true)
    (exs9 : PySem.W.findIn K (.ref c11) "__setattr__" = some (some (.builtin "object.__setattr__")))
    (exb9 : PySem.W.subIn K (.ref c11) (.type "BaseException") = some true)
    (exv9 : PySem.W.subIn K (.ref c11) (.type "ValueError") = some true)
    (ext9 : PySem.W.typeIn K (.ref c11) = some (.type "type"))
    (exk9 : PySem.W.keepIn K (.ref c11) = true)
    (exu9 : PySem.W.ks_superIn K c11 c11 "__init__" = some (some (.builtin "ValueError.__init__")))
    (exc9 : PySem.W.codeIn K (.ref ecc9) "InvalidTruths.__init__" = true)
    (exl9 : K.lookup el9 = some ⟨eo29, ed29, .cell (some (.ref c11)), es29⟩)
    (exfa9 : K.lookup ecc9 = some ⟨eo39, ed39, .fields evs9, es39⟩)
    (exfb9 : (evs9[2]? : Option Value) = some (.str efl9 etk9))
    (exfc9 : ((l.prog.main.file : Str) == efl9) = true)
    (exm9 : PySem.W.mroIn K c11 (.ref c11) = some true)
    (exq9 : PySem.W.takerIn K c11 "code" = some none)
    (exg9 : PySem.W.takerIn K c11 "given" = some none)
    (elk10 : K.lookup ef10 = some ⟨eoc10, eod10, .func (PySem.W.fnX "__init__" "InvalidFilling.__init__" (defArgs s_InvalidFilling___init__) (defBody s_InvalidFilling___init__) (defScope s_InvalidFilling___init__) [("__class__", el10)] .none ekV10 edc10 epm10 ean10 (.ref ecc10) ect10), eol10⟩)
    (ety10 : PySem.W.typeIn K (.ref ef10) = some (.type "function"))
    (exi10 : PySem.W.excInitIn K c12 [.type "ValueError", .type "Exception", .type "BaseException", .type "object"] "ValueError.__new__" = true)
    (exo10 : PySem.W.excOver K c12 [.type "ValueError", .type "Exception", .type "BaseException", .type "object"] = true)
    (exd10 : PySem.W.hasDictIn K c12 = true)
    (exs10 : PySem.W.findIn K (.ref c12) "__setattr__" = some (some (.builtin "object.__setattr__")))
    (exb10 : PySem.W.subIn K (.ref c12) (.type "BaseException") = some true)
    (exv10 : PySem.W.subIn K (.ref c12) (.type "ValueError") = some true)
    (ext10 : PySem.W.typeIn K (.ref c12) = some (.type "type"))
    (exk10 : PySem.W.keepIn K (.ref c12) = true)
    (exu10 : PySem.W.ks_superIn K c12 c12 "__init__" = some (some (.builtin "ValueError.__init__")))
    (exc10 : PySem.W.codeIn K (.ref ecc10) "InvalidFilling.__init__" = true)
    (exl10 : K.lookup el10 = some ⟨eo210, ed210, .cell (some (.ref c12)), es210⟩)
    (exfa10 : K.lookup ecc10 = some ⟨eo310, ed310, .fields evs10, es310⟩)
    (exfb10 : (evs10[2]? : Option Value) = some (.str efl10 etk10))
    (exfc10 : ((l.prog.main.file : Str) == efl10) = true)
    (exm10 : PySem.W.mroIn K c12 (.ref c12) = some true)
    (exq10 : PySem.W.takerIn K c12 "code" = some none)
    (exg10 : PySem.W.takerIn K c12 "given" = some none)
    (elk11 : K.lookup ef11 = some ⟨eoc11, eod11, .func (PySem.W.fnX "__init__" "InvalidMeaning.__init__" (defArgs s_InvalidMeaning___init__) (defBody s_InvalidMeaning___init__) (defScope s_InvalidMeaning___init__) [("__class__", el11)] .none ekV11 edc11 epm11 ean11 (.ref ecc11) ect11), eol11⟩)
    (ety11 : PySem.W.typeIn K (.ref ef11) = some (.type "function"))
    (exi11 : PySem.W.excInitIn K c13 [.type "ValueError", .type "Exception", .type "BaseException", .type "object"] "ValueError.__new__" = true)
    (exo11 : PySem.W.excOver K c13 [.type "ValueError", .type "Exception", .type "BaseException", .type "object"] = true)
    (exd11 : PySem.W.hasDictIn K c13 = true)
    (exs11 : PySem.W.findIn K (.ref c13) "__setattr__" = some (some (.builtin "object.__setattr__")))
    (exb11 : PySem.W.subIn K (.ref c13) (.type "BaseException") = some true)
    (exv11 : PySem.W.subIn K (.ref c13) (.type "ValueError") = some true)
    (ext11 : PySem.W.typeIn K (.ref c13) = some (.type "type"))
    (exk11 : PySem.W.keepIn K (.ref c13) = true)
    (exu11 : PySem.W.ks_superIn K c13 c13 "__init__" = some (some (.builtin "ValueError.__init__")))
    (exc11 : PySem.W.codeIn K (.ref ecc11) "InvalidMeaning.__init__" = true)
    (exl11 : K.lookup el11 = some ⟨eo211, ed211, .cell (some (.ref c13)), es211⟩)
    (exfa11 : K.lookup ecc11 = some ⟨eo311, ed311, .fields evs11, es311⟩)
    (exfb11 : (evs11[2]? : Option Value) = some (.str efl11 etk11))
    (exfc11 : ((l.prog.main.file : Str) == efl11) = true)
    (exm11 : PySem.W.mroIn K c13 (.ref c13) = some true)
    (exq11 : PySem.W.takerIn K c13 "code" = some none)
    (exg11 : PySem.W.takerIn K c13 "given" = some none)
    (elk12 : K.lookup ef12 = some ⟨eoc12, eod12, .func (PySem.W.fnX "__init__" "InvalidText.__init__" (defArgs s_InvalidText___init__) (defBody s_InvalidText___init__) (defScope s_InvalidText___init__) [("__class__", el12)] .none ekV12 edc12 epm12 ean12 (.ref ecc12) ect12), eol12⟩)
    (ety12 : PySem.W.typeIn K (.ref ef12) = some (.type "function"))
    (exi12 : PySem.W.excInitIn K c14 [.type "ValueError", .type "Exception", .type "BaseException", .type "object"] "ValueError.__new__" = true)
    (exo12 : PySem.W.excOver K c14 [.type "ValueError", .type "Exception", .type "BaseException", .type "object"] = true)
    (exd12 : PySem.W.hasDictIn K c14 = true)
    (exs12 : PySem.W.findIn K (.ref c14) "__setattr__" = some (some (.builtin "object.__setattr__")))
    (exb12 : PySem.W.subIn K (.ref c14) (.type "BaseException") = some true)
    (exv12 : PySem.W.subIn K (.ref c14) (.type "ValueError") = some true)
    (ext12 : PySem.W.typeIn K (.ref c14) = some (.type "type"))
    (exk12 : PySem.W.keepIn K (.ref c14) = true)
    (exu12 : PySem.W.ks_superIn K c14 c14 "__init__" = some (some (.builtin "ValueError.__init__")))
    (exc12 : PySem.W.codeIn K (.ref ecc12) "InvalidText.__init__" = true)
    (exl12 : K.lookup el12 = some ⟨eo212, ed212, .cell (some (.ref c14)), es212⟩)
    (exfa12 : K.lookup ecc12 = some ⟨eo312, ed312, .fields evs12, es312⟩)
    (exfb12 : (evs12[2]? : Option Value) = some (.str efl12 etk12))
    (exfc12 : ((l.prog.main.file : Str) == efl12) = true)
    (exm12 : PySem.W.mroIn K c14 (.ref c14) = some true)
    (exq12 : PySem.W.takerIn K c14 "code" = some none)
    (exg12 : PySem.W.takerIn K c14 "at" = some none)
    (elk13 : K.lookup ef13 = some ⟨eoc13, eod13, .func (PySem.W.fnX "__init__" "InvalidCommand.__init__" (defArgs s_InvalidCommand___init__) (defBody s_InvalidCommand___init__) (defScope s_InvalidCommand___init__) [("__class__", el13)] .none ekV13 edc13 epm13 ean13 (.ref ecc13) ect13), eol13⟩)
    (ety13 : PySem.W.typeIn K (.ref ef13) = some (.type "function"))
    (exi13 : PySem.W.excInitIn K c15 [.type "ValueError", .type "Exception", .type "BaseException", .type "object"] "ValueError.__new__" = true)
    (exo13 : PySem.W.excOver K c15 [.type "ValueError", .type "Exception", .type "BaseException", .type "object"] = true)
    (exd13 : PySem.W.hasDictIn K c15 = true)
    (exs13 : PySem.W.findIn K (.ref c15) "__setattr__" = some (some (.builtin "object.__setattr__")))
    (exb13 : PySem.W.subIn K (.ref c15) (.type "BaseException") = some true)
    (exv13 : PySem.W.subIn K (.ref c15) (.type "ValueError") = some true)
    (ext13 : PySem.W.typeIn K (.ref c15) = some (.type "type"))
    (exk13 : PySem.W.keepIn K (.ref c15) = true)
    (exu13 : PySem.W.ks_superIn K c15 c15 "__init__" = some (some (.builtin "ValueError.__init__")))
    (exc13 : PySem.W.codeIn K (.ref ecc13) "InvalidCommand.__init__" = true)
    (exl13 : K.lookup el13 = some ⟨eo213, ed213, .cell (some (.ref c15)), es213⟩)
    (exfa13 : K.lookup ecc13 = some ⟨eo313, ed313, .fields evs13, es313⟩)
    (exfb13 : (evs13[2]? : Option Value) = some (.str efl13 etk13))
    (exfc13 : ((l.prog.main.file : Str) == efl13) = true)
    (exm13 : PySem.W.mroIn K c15 (.ref c15) = some true)
    (exq13 : PySem.W.takerIn K c15 "code" = some none)
    (exg13 : PySem.W.takerIn K c15 "at" = some none)
    (elk14 : K.lookup ef14 = some ⟨eoc14, eod14, .func (PySem.W.fnX "__init__" "InvalidLimit.__init__" (defArgs s_InvalidLimit___init__) (defBody s_InvalidLimit___init__) (defScope s_InvalidLimit___init__) [("__class__", el14)] .none ekV14 edc14 epm14 ean14 (.ref ecc14) ect14), eol14⟩)
    (ety14 : PySem.W.typeIn K (.ref ef14) = some (.type "function"))
    (exi14 : PySem.W.excInitIn K c16 [.type "ValueError", .type "Exception", .type "BaseException", .type "object"] "ValueError.__new__" = true)
    (exo14 : PySem.W.excOver K c16 [.type "ValueError", .type "Exception", .type "BaseException", .type "object"] = true)
    (exd14 : PySem.W.hasDictIn K c16 = true)
    (exs14 : PySem.W.findIn K (.ref c16) "__setattr__" = some (some (.builtin "object.__setattr__")))
    (exb14 : PySem.W.subIn K (.ref c16) (.type "BaseException") = some true)
    (exv14 : PySem.W.subIn K (.ref c16) (.type "ValueError") = some true)
    (ext14 : PySem.W.typeIn K (.ref c16) = some (.type "type"))
    (exk14 : PySem.W.keepIn K (.ref c16) = true)
    (exu14 : PySem.W.ks_superIn K c16 c16 "__init__" = some (some (.builtin "ValueError.__init__")))
    (exc14 : PySem.W.codeIn K (.ref ecc14) "InvalidLimit.__init__" = true)
    (exl14 : K.lookup el14 = some ⟨eo214, ed214, .cell (some (.ref c16)), es214⟩)
    (exfa14 : K.lookup ecc14 = some ⟨eo314, ed314, .fields evs14, es314⟩)
    (exfb14 : (evs14[2]? : Option Value) = some (.str efl14 etk14))
    (exfc14 : ((l.prog.main.file : Str) == efl14) = true)
    (exm14 : PySem.W.mroIn K c16 (.ref c16) = some true)
    (exq14 : PySem.W.takerIn K c16 "code" = some none)
    (exg14 : PySem.W.takerIn K c16 "given" = some none)
    (elk15 : K.lookup ef15 = some ⟨eoc15, eod15, .func (PySem.W.fnX "__init__" "InvalidPage.__init__" (defArgs s_InvalidPage___init__) (defBody s_InvalidPage___init__) (defScope s_InvalidPage___init__) [("__class__", el15)] .none ekV15 edc15 epm15 ean15 (.ref ecc15) ect15), eol15⟩)
    (ety15 : PySem.W.typeIn K (.ref ef15) = some (.type "function"))
    (exi15 : PySem.W.excInitIn K c17 [.type "ValueError", .type "Exception", .type "BaseException", .type "object"] "ValueError.__new__" = true)
    (exo15 : PySem.W.excOver K c17 [.type "ValueError", .type "Exception", .type "BaseException", .type "object"] = true)
    (exd15 : PySem.W.hasDictIn K c17 = true)
    (exs15 : PySem.W.findIn K (.ref c17) "__setattr__" = some (some (.builtin "object.__setattr__")))
    (exb15 : PySem.W.subIn K (.ref c17) (.type "BaseException") = some true)
    (exv15 : PySem.W.subIn K (.ref c17) (.type "ValueError") = some true)
    (ext15 : PySem.W.typeIn K (.ref c17) = some (.type "type"))
    (exk15 : PySem.W.keepIn K (.ref c17) = true)
    (exu15 : PySem.W.ks_superIn K c17 c17 "__init__" = some (some (.builtin "ValueError.__init__")))
    (exc15 : PySem.W.codeIn K (.ref ecc15) "InvalidPage.__init__" = true)
    (exl15 : K.lookup el15 = some ⟨eo215, ed215, .cell (some (.ref c17)), es215⟩)
    (exfa15 : K.lookup ecc15 = some ⟨eo315, ed315, .fields evs15, es315⟩)
    (exfb15 : (evs15[2]? : Option Value) = some (.str efl15 etk15))
    (exfc15 : ((l.prog.main.file : Str) == efl15) = true)
    (exm15 : PySem.W.mroIn K c17 (.ref c17) = some true)
    (exq15 : PySem.W.takerIn K c17 "code" = some none)
    (exg15 : PySem.W.takerIn K c17 "line" = some none)
    (elk16 : K.lookup ef16 = some ⟨eoc16, eod16, .func (PySem.W.fnX "__init__" "OtherScheme.__init__" (defArgs s_OtherScheme___init__) (defBody s_OtherScheme___init__) (defScope s_OtherScheme___init__) [("__class__", el16)] .none ekV16 edc16 epm16 ean16 (.ref ecc16) ect16), eol16⟩)
    (ety16 : PySem.W.typeIn K (.ref ef16) = some (.type "function"))
    (exi16 : PySem.W.excInitIn K c18 [.type "ValueError", .type "Exception", .type "BaseException", .type "object"] "ValueError.__new__" = true)
    (exo16 : PySem.W.excOver K c18 [.type "ValueError", .type "Exception", .type "BaseException", .type "object"] = true)
    (exd16 : PySem.W.hasDictIn K c18 = true)
    (exs16 : PySem.W.findIn K (.ref c18) "__setattr__" = some (some (.builtin "object.__setattr__")))
    (exb16 : PySem.W.subIn K (.ref c18) (.type "BaseException") = some true)
    (exv16 : PySem.W.subIn K (.ref c18) (.type "ValueError") = some true)
    (ext16 : PySem.W.typeIn K (.ref c18) = some (.type "type"))
    (exk16 : PySem.W.keepIn K (.ref c18) = true)
    (exu16 : PySem.W.ks_superIn K c18 c18 "__init__" = some (some (.builtin "ValueError.__init__")))
    (exc16 : PySem.W.codeIn K (.ref ecc16) "OtherScheme.__init__" = true)
    (exl16 : K.lookup el16 = some ⟨eo216, ed216, .cell (some (.ref c18)), es216⟩)
    (exfa16 : K.lookup ecc16 = some ⟨eo316, ed316, .fields evs16, es316⟩)
    (exfb16 : (evs16[2]? : Option Value) = some (.str efl16 etk16))
    (exfc16 : ((l.prog.main.file : Str) == efl16) = true)
    (exm16 : PySem.W.mroIn K c18 (.ref c18) = some true)
    (exq16 : PySem.W.takerIn K c18 "code" = some none)
    (elk17 : K.lookup ef17 = some ⟨eoc17, eod17, .func (PySem.W.fnX "__init__" "OtherColumns.__init__" (defArgs s_OtherColumns___init__) (defBody s_OtherColumns___init__) (defScope s_OtherColumns___init__) [("__class__", el17)] .none ekV17 edc17 epm17 ean17 (.ref ecc17) ect17), eol17⟩)
    (ety17 : PySem.W.typeIn K (.ref ef17) = some (.type "function"))
    (exi17 : PySem.W.excInitIn K c19 [.type "ValueError", .type "Exception", .type "BaseException", .type "object"] "ValueError.__new__" = true)
    (exo17 : PySem.W.excOver K c19 [.type "ValueError", .type "Exception", .type "BaseException", .type "object"] = true)
    (exd17 : PySem.W.hasDictIn K c19 = true)
    (exs17 : PySem.W.findIn K (.ref c19) "__setattr__" = some (some (.builtin "object.__setattr__")))
    (exb17 : PySem.W.subIn K (.ref c19) (.type "BaseException") = some true)
    (exv17 : PySem.W.subIn K (.ref c19) (.type "ValueError") = some true)
    (ext17 : PySem.W.typeIn K (.ref c19) = some (.type "type"))
    (exk17 : PySem.W.keepIn K (.ref c19) = true)
    (exu17 : PySem.W.ks_superIn K c19 c19 "__init__" = some (some (.builtin "ValueError.__init__")))
    (exc17 : PySem.W.codeIn K (.ref ecc17) "OtherColumns.__init__" = true)
    (exl17 : K.lookup el17 = some ⟨eo217, ed217, .cell (some (.ref c19)), es217⟩)
    (exfa17 : K.lookup ecc17 = some ⟨eo317, ed317, .fields evs17, es317⟩)
    (exfb17 : (evs17[2]? : Option Value) = some (.str efl17 etk17))
    (exfc17 : ((l.prog.main.file : Str) == efl17) = true)
    (exm17 : PySem.W.mroIn K c19 (.ref c19) = some true)
    (exq17 : PySem.W.takerIn K c19 "code" = some none)
    (elk18 : K.lookup ef18 = some ⟨eoc18, eod18, .func (PySem.W.fnX "__init__" "HasColumns.__init__" (defArgs s_HasColumns___init__) (defBody s_HasColumns___init__) (defScope s_HasColumns___init__) [("__class__", el18)] .none ekV18 edc18 epm18 ean18 (.ref ecc18) ect18), eol18⟩)
    (ety18 : PySem.W.typeIn K (.ref ef18) = some (.type "function"))
    (exi18 : PySem.W.excInitIn K c20 [.type "ValueError", .type "Exception", .type "BaseException", .type "object"] "ValueError.__new__" = true)
    (exo18 : PySem.W.excOver K c20 [.type "ValueError", .type "Exception", .type "BaseException", .type "object"] = true)
    (exd18 : PySem.W.hasDictIn K c20 = true)
    (exs18 : PySem.W.findIn K (.ref c20) "__setattr__" = some (some (.builtin "object.__setattr__")))
    (exb18 : PySem.W.subIn K (.ref c20) (.type "BaseException") = some true)
    (exv18 : PySem.W.subIn K (.ref c20) (.type "ValueError") = some true)
    (ext18 : PySem.W.typeIn K (.ref c20) = some (.type "type"))
    (exk18 : PySem.W.keepIn K (.ref c20) = true)
    (exu18 : PySem.W.ks_superIn K c20 c20 "__init__" = some (some (.builtin "ValueError.__init__")))
    (exc18 : PySem.W.codeIn K (.ref ecc18) "HasColumns.__init__" = true)
    (exl18 : K.lookup el18 = some ⟨eo218, ed218, .cell (some (.ref c20)), es218⟩)
    (exfa18 : K.lookup ecc18 = some ⟨eo318, ed318, .fields evs18, es318⟩)
    (exfb18 : (evs18[2]? : Option Value) = some (.str efl18 etk18))
    (exfc18 : ((l.prog.main.file : Str) == efl18) = true)
    (exm18 : PySem.W.mroIn K c20 (.ref c20) = some true)
    (exq18 : PySem.W.takerIn K c20 "code" = some none)
    (elk19 : K.lookup ef19 = some ⟨eoc19, eod19, .func (PySem.W.fnX "__init__" "NotSafe.__init__" (defArgs s_NotSafe___init__) (defBody s_NotSafe___init__) (defScope s_NotSafe___init__) [("__class__", el19)] .none ekV19 edc19 epm19 ean19 (.ref ecc19) ect19), eol19⟩)
    (ety19 : PySem.W.typeIn K (.ref ef19) = some (.type "function"))
    (exi19 : PySem.W.excInitIn K c21 [.type "ValueError", .type "Exception", .type "BaseException", .type "object"] "ValueError.__new__" = true)
    (exo19 : PySem.W.excOver K c21 [.type "ValueError", .type "Exception", .type "BaseException", .type "object"] = true)
    (exd19 : PySem.W.hasDictIn K c21 = true)
    (exs19 : PySem.W.findIn K (.ref c21) "__setattr__" = some (some (.builtin "object.__setattr__")))
    (exb19 : PySem.W.subIn K (.ref c21) (.type "BaseException") = some true)
    (exv19 : PySem.W.subIn K (.ref c21) (.type "ValueError") = some true)
    (ext19 : PySem.W.typeIn K (.ref c21) = some (.type "type"))
    (exk19 : PySem.W.keepIn K (.ref c21) = true)
    (exu19 : PySem.W.ks_superIn K c21 c21 "__init__" = some (some (.builtin "ValueError.__init__")))
    (exc19 : PySem.W.codeIn K (.ref ecc19) "NotSafe.__init__" = true)
    (exl19 : K.lookup el19 = some ⟨eo219, ed219, .cell (some (.ref c21)), es219⟩)
    (exfa19 : K.lookup ecc19 = some ⟨eo319, ed319, .fields evs19, es319⟩)
    (exfb19 : (evs19[2]? : Option Value) = some (.str efl19 etk19))
    (exfc19 : ((l.prog.main.file : Str) == efl19) = true)
    (exm19 : PySem.W.mroIn K c21 (.ref c21) = some true)
    (exq19 : PySem.W.takerIn K c21 "code" = some none)
    (elk20 : K.lookup ef20 = some ⟨eoc20, eod20, .func (PySem.W.fnX "__init__" "TooMany.__init__" (defArgs s_TooMany___init__) (defBody s_TooMany___init__) (defScope s_TooMany___init__) [("__class__", el20)] .none ekV20 edc20 epm20 ean20 (.ref ecc20) ect20), eol20⟩)
    (ety20 : PySem.W.typeIn K (.ref ef20) = some (.type "function"))
    (exi20 : PySem.W.excInitIn K c22 [.type "ValueError", .type "Exception", .type "BaseException", .type "object"] "ValueError.__new__" = true)
    (exo20 : PySem.W.excOver K c22 [.type "ValueError", .type "Exception", .type "BaseException", .type "object"] = true)
    (exd20 : PySem.W.hasDictIn K c22 = true)
    (exs20 : PySem.W.findIn K (.ref c22) "__setattr__" = some (some (.builtin "object.__setattr__")))
    (exb20 : PySem.W.subIn K (.ref c22) (.type "BaseException") = some true)
    (exv20 : PySem.W.subIn K (.ref c22) (.type "ValueError") = some true)
    (ext20 : PySem.W.typeIn K (.ref c22) = some (.type "type"))
    (exk20 : PySem.W.keepIn K (.ref c22) = true)
    (exu20 : PySem.W.ks_superIn K c22 c22 "__init__" = some (some (.builtin "ValueError.__init__")))
    (exc20 : PySem.W.codeIn K (.ref ecc20) "TooMany.__init__" = true)
    (exl20 : K.lookup el20 = some ⟨eo220, ed220, .cell (some (.ref c22)), es220⟩)
    (exfa20 : K.lookup ecc20 = some ⟨eo320, ed320, .fields evs20, es320⟩)
    (exfb20 : (evs20[2]? : Option Value) = some (.str efl20 etk20))
    (exfc20 : ((l.prog.main.file : Str) == efl20) = true)
    (exm20 : PySem.W.mroIn K c22 (.ref c22) = some true)
    (exq20 : PySem.W.takerIn K c22 "code" = some none)
    (exg20 : PySem.W.takerIn K c22 "most" = some none)
    (elk21 : K.lookup ef21 = some ⟨eoc21, eod21, .func (PySem.W.fnX "__init__" "Full.__init__" (defArgs s_Full___init__) (defBody s_Full___init__) (defScope s_Full___init__) [("__class__", el21)] .none ekV21 edc21 epm21 ean21 (.ref ecc21) ect21), eol21⟩)
    (ety21 : PySem.W.typeIn K (.ref ef21) = some (.type "function"))
    (exi21 : PySem.W.excInitIn K c23 [.type "ValueError", .type "Exception", .type "BaseException", .type "object"] "ValueError.__new__" = true)
    (exo21 : PySem.W.excOver K c23 [.type "ValueError", .type "Exception", .type "BaseException", .type "object"] = true)
    (exd21 : PySem.W.hasDictIn K c23 = true)
    (exs21 : PySem.W.findIn K (.ref c23) "__setattr__" = some (some (.builtin "object.__setattr__")))
    (exb21 : PySem.W.subIn K (.ref c23) (.type "BaseException") = some true)
    (exv21 : PySem.W.subIn K (.ref c23) (.type "ValueError") = some true)
    (ext21 : PySem.W.typeIn K (.ref c23) = some (.type "type"))
    (exk21 : PySem.W.keepIn K (.ref c23) = true)
    (exu21 : PySem.W.ks_superIn K c23 c23 "__init__" = some (some (.builtin "ValueError.__init__")))
    (exc21 : PySem.W.codeIn K (.ref ecc21) "Full.__init__" = true)
    (exl21 : K.lookup el21 = some ⟨eo221, ed221, .cell (some (.ref c23)), es221⟩)
    (exfa21 : K.lookup ecc21 = some ⟨eo321, ed321, .fields evs21, es321⟩)
    (exfb21 : (evs21[2]? : Option Value) = some (.str efl21 etk21))
    (exfc21 : ((l.prog.main.file : Str) == efl21) = true)
    (exm21 : PySem.W.mroIn K c23 (.ref c23) = some true)
    (exq21 : PySem.W.takerIn K c23 "code" = some none)
    (exg21 : PySem.W.takerIn K c23 "limit" = some none)
    (elk22 : K.lookup ef22 = some ⟨eoc22, eod22, .func (PySem.W.fnX "__init__" "UnknownName.__init__" (defArgs s_UnknownName___init__) (defBody s_UnknownName___init__) (defScope s_UnknownName___init__) [("__class__", el22)] .none ekV22 edc22 epm22 ean22 (.ref ecc22) ect22), eol22⟩)
    (ety22 : PySem.W.typeIn K (.ref ef22) = some (.type "function"))
    (exi22 : PySem.W.excInitIn K c24 [.type "LookupError", .type "Exception", .type "BaseException", .type "object"] "LookupError.__new__" = true)
    (exo22 : PySem.W.excOver K c24 [.type "LookupError", .type "Exception", .type "BaseException", .type "object"] = true)
    (exd22 : PySem.W.hasDictIn K c24 = true)
    (exs22 : PySem.W.findIn K (.ref c24) "__setattr__" = some (some (.builtin "object.__setattr__")))
    (exb22 : PySem.W.subIn K (.ref c24) (.type "BaseException") = some true)
    (exv22 : PySem.W.subIn K (.ref c24) (.type "LookupError") = some true)
    (ext22 : PySem.W.typeIn K (.ref c24) = some (.type "type"))
    (exk22 : PySem.W.keepIn K (.ref c24) = true)
    (exu22 : PySem.W.ks_superIn K c24 c24 "__init__" = some (some (.builtin "LookupError.__init__")))
    (exc22 : PySem.W.codeIn K (.ref ecc22) "UnknownName.__init__" = true)
    (exl22 : K.lookup el22 = some ⟨eo222, ed222, .cell (some (.ref c24)), es222⟩)
    (exfa22 : K.lookup ecc22 = some ⟨eo322, ed322, .fields evs22, es322⟩)
    (exfb22 : (evs22[2]? : Option Value) = some (.str efl22 etk22))
    (exfc22 : ((l.prog.main.file : Str) == efl22) = true)
    (exm22 : PySem.W.mroIn K c24 (.ref c24) = some true)
    (exq22 : PySem.W.takerIn K c24 "code" = some none)
    (exg22 : PySem.W.takerIn K c24 "name" = some none)
    (elk23 : K.lookup ef23 = some ⟨eoc23, eod23, .func (PySem.W.fnX "__init__" "UnknownRow.__init__" (defArgs s_UnknownRow___init__) (defBody s_UnknownRow___init__) (defScope s_UnknownRow___init__) [("__class__", el23)] .none ekV23 edc23 epm23 ean23 (.ref ecc23) ect23), eol23⟩)
    (ety23 : PySem.W.typeIn K (.ref ef23) = some (.type "function"))
    (exi23 : PySem.W.excInitIn K c25 [.type "LookupError", .type "Exception", .type "BaseException", .type "object"] "LookupError.__new__" = true)
    (exo23 : PySem.W.excOver K c25 [.type "LookupError", .type "Exception", .type "BaseException", .type "object"] = true)
    (exd23 : PySem.W.hasDictIn K c25 = true)
    (exs23 : PySem.W.findIn K (.ref c25) "__setattr__" = some (some (.builtin "object.__setattr__")))
    (exb23 : PySem.W.subIn K (.ref c25) (.type "BaseException") = some true)
    (exv23 : PySem.W.subIn K (.ref c25) (.type "LookupError") = some true)
    (ext23 : PySem.W.typeIn K (.ref c25) = some (.type "type"))
    (exk23 : PySem.W.keepIn K (.ref c25) = true)
    (exu23 : PySem.W.ks_superIn K c25 c25 "__init__" = some (some (.builtin "LookupError.__init__")))
    (exc23 : PySem.W.codeIn K (.ref ecc23) "UnknownRow.__init__" = true)
    (exl23 : K.lookup el23 = some ⟨eo223, ed223, .cell (some (.ref c25)), es223⟩)
    (exfa23 : K.lookup ecc23 = some ⟨eo323, ed323, .fields evs23, es323⟩)
    (exfb23 : (evs23[2]? : Option Value) = some (.str efl23 etk23))
    (exfc23 : ((l.prog.main.file : Str) == efl23) = true)
    (exm23 : PySem.W.mroIn K c25 (.ref c25) = some true)
    (exq23 : PySem.W.takerIn K c25 "code" = some none)
    (exg23 : PySem.W.takerIn K c25 "row" = some none)
    (elk24 : K.lookup ef24 = some ⟨eoc24, eod24, .func (PySem.W.fnX "__init__" "UnknownValue.__init__" (defArgs s_UnknownValue___init__) (defBody s_UnknownValue___init__) (defScope s_UnknownValue___init__) [("__class__", el24)] .none ekV24 edc24 epm24 ean24 (.ref ecc24) ect24), eol24⟩)
    (ety24 : PySem.W.typeIn K (.ref ef24) = some (.type "function"))
    (exi24 : PySem.W.excInitIn K c26 [.type "LookupError", .type "Exception", .type "BaseException", .type "object"] "LookupError.__new__" = true)
    (exo24 : PySem.W.excOver K c26 [.type "LookupError", .type "Exception", .type "BaseException", .type "object"] = true)
    (exd24 : PySem.W.hasDictIn K c26 = true)
    (exs24 : PySem.W.findIn K (.ref c26) "__setattr__" = some (some (.builtin "object.__setattr__")))
    (exb24 : PySem.W.subIn K (.ref c26) (.type "BaseException") = some true)
    (exv24 : PySem.W.subIn K (.ref c26) (.type "LookupError") = some true)
    (ext24 : PySem.W.typeIn K (.ref c26) = some (.type "type"))
    (exk24 : PySem.W.keepIn K (.ref c26) = true)
    (exu24 : PySem.W.ks_superIn K c26 c26 "__init__" = some (some (.builtin "LookupError.__init__")))
    (exc24 : PySem.W.codeIn K (.ref ecc24) "UnknownValue.__init__" = true)
    (exl24 : K.lookup el24 = some ⟨eo224, ed224, .cell (some (.ref c26)), es224⟩)
    (exfa24 : K.lookup ecc24 = some ⟨eo324, ed324, .fields evs24, es324⟩)
    (exfb24 : (evs24[2]? : Option Value) = some (.str efl24 etk24))
    (exfc24 : ((l.prog.main.file : Str) == efl24) = true)
    (exm24 : PySem.W.mroIn K c26 (.ref c26) = some true)
    (exq24 : PySem.W.takerIn K c26 "code" = some none)
    (exg24 : PySem.W.takerIn K c26 "given" = some none)
    (elk25 : K.lookup ef25 = some ⟨eoc25, eod25, .func (PySem.W.fnX "__init__" "NothingLeft.__init__" (defArgs s_NothingLeft___init__) (defBody s_NothingLeft___init__) (defScope s_NothingLeft___init__) [("__class__", el25)] .none ekV25 edc25 epm25 ean25 (.ref ecc25) ect25), eol25⟩)
    (ety25 : PySem.W.typeIn K (.ref ef25) = some (.type "function"))
    (exi25 : PySem.W.excInitIn K c27 [.type "IndexError", .type "LookupError", .type "Exception", .type "BaseException", .type "object"] "IndexError.__new__" = true)
    (exo25 : PySem.W.excOver K c27 [.type "IndexError", .type "LookupError", .type "Exception", .type "BaseException", .type "object"] = true)
    (exd25 : PySem.W.hasDictIn K c27 = true)
    (exs25 : PySem.W.findIn K (.ref c27) "__setattr__" = some (some (.builtin "object.__setattr__")))
    (exb25 : PySem.W.subIn K (.ref c27) (.type "BaseException") = some true)
    (exv25 : PySem.W.subIn K (.ref c27) (.type "IndexError") = some true)
    (ext25 : PySem.W.typeIn K (.ref c27) = some (.type "type"))
    (exk25 : PySem.W.keepIn K (.ref c27) = true)
    (exu25 : PySem.W.ks_superIn K c27 c27 "__init__" = some (some (.builtin "IndexError.__init__")))
    (exc25 : PySem.W.codeIn K (.ref ecc25) "NothingLeft.__init__" = true)
    (exl25 : K.lookup el25 = some ⟨eo225, ed225, .cell (some (.ref c27)), es225⟩)
    (exfa25 : K.lookup ecc25 = some ⟨eo325, ed325, .fields evs25, es325⟩)
    (exfb25 : (evs25[2]? : Option Value) = some (.str efl25 etk25))
    (exfc25 : ((l.prog.main.file : Str) == efl25) = true)
    (exm25 : PySem.W.mroIn K c27 (.ref c27) = some true)
    (exq25 : PySem.W.takerIn K c27 "code" = some none)
    (hin : ts.contains (tabOfLaw K).2 = true) (hKt : K.lookup (tabOfLaw K).2 = none) (hCt : PySem.W.codeHdIn K (tabOfLaw K).1 (tabOfLaw K).2 = true) (hcdl : cd9 = .ref (tabOfLaw K).1) :
    LamX.LawAtS l w K (CXq l.prog w) 41 63 "_law_script" mg fa h := by
  have e := hfa.symm.trans (PySem.W.mg_of X G a9)
  cases e
  subst hcdl
  refine law_end X hts hin hKt hCt (fun s v => .of_eq rfl) (fun base hB hG TB => ok_law_ { z := fun _ => noX, C := fun n => cond (Nat.beq n 0) c0 (cond (Nat.beq n 1) c1 (cond (Nat.beq n 2) c2 (cond (Nat.beq n 3) c3 (cond (Nat.beq n 4) c4 (cond (Nat.beq n 5) c5 (cond (Nat.beq n 6) c6 (cond (Nat.beq n 7) c7 (cond (Nat.beq n 8) c8 (cond (Nat.beq n 9) c9 (cond (Nat.beq n 10) c10 (cond (Nat.beq n 11) c11 (cond (Nat.beq n 12) c12 (cond (Nat.beq n 13) c13 (cond (Nat.beq n 14) c14 (cond (Nat.beq n 15) c15 (cond (Nat.beq n 16) c16 (cond (Nat.beq n 17) c17 (cond (Nat.beq n 18) c18 (cond (Nat.beq n 19) c19 (cond (Nat.beq n 20) c20 (cond (Nat.beq n 21) c21 (cond (Nat.beq n 22) c22 (cond (Nat.beq n 23) c23 (cond (Nat.beq n 24) c24 (cond (Nat.beq n 25) c25 (cond (Nat.beq n 26) c26 (cond (Nat.beq n 27) c27 0))))))))))))))))))))))))))), xb_NothingLeft := ⟨h0a, h0b, h0c, h0d⟩, xn_NothingLeft_code := h1, xb_UnknownValue := ⟨h2a, h2b, h2c, h2d⟩, xn_UnknownValue_code := h3, xb_UnknownRow := ⟨h4a, h4b, h4c, h4d⟩, xn_UnknownRow_code := h5, xb_UnknownName := ⟨h6a, h6b, h6c, h6d⟩, xn_UnknownName_code := h7, xb_Full := ⟨h8a, h8b, h8c, h8d⟩, xn_Full_code := h9, xb_TooMany := ⟨h10a, h10b, h10c, h10d⟩, xn_TooMany_code := h11, xb_NotSafe := ⟨h12a, h12b, h12c, h12d⟩, xn_NotSafe_code := h13, xb_HasColumns := ⟨h14a, h14b, h14c, h14d⟩, xn_HasColumns_code := h15, xb_OtherColumns := ⟨h16a, h16b, h16c, h16d⟩, xn_OtherColumns_code := h17, xb_OtherScheme := ⟨h18a, h18b, h18c, h18d⟩, xn_OtherScheme_code := h19, xb_InvalidPage := ⟨h20a, h20b, h20c, h20d⟩, xn_InvalidPage_code := h21, xb_InvalidLimit := ⟨h22a, h22b, h22c, h22d⟩, xn_InvalidLimit_code := h23, xb_InvalidCommand := ⟨h24a, h24b, h24c, h24d⟩, xn_InvalidCommand_code := h25, xb_InvalidText := ⟨h26a, h26b, h26c, h26d⟩, xn_InvalidText_code := h27, xb_InvalidMeaning := ⟨h28a, h28b, h28c, h28d⟩, xn_InvalidMeaning_code := h29, xb_InvalidFilling := ⟨h30a, h30b, h30c, h30d⟩, xn_InvalidFilling_code := h31, xb_InvalidTruths := ⟨h32a, h32b, h32c, h32d⟩, xn_InvalidTruths_code := h33, xb_InvalidAnswer := ⟨h34a, h34b, h34c, h34d⟩, xn_InvalidAnswer_code := h35, xb_InvalidColumns := ⟨h36a, h36b, h36c, h36d⟩, xn_InvalidColumns_code := h37, xb_InvalidFormula := ⟨h38a, h38b, h38c, h38d⟩, xn_InvalidFormula_code := h39, xb_InvalidPart := ⟨h40a, h40b, h40c, h40d⟩, xn_InvalidPart_code := h41, xb_InvalidVariables := ⟨h42a, h42b, h42c, h42d⟩, xn_InvalidVariables_code := h43, xb_InvalidLoose := ⟨h44a, h44b, h44c, h44d⟩, xn_InvalidLoose_code := h45, xb_InvalidRow := ⟨h46a, h46b, h46c, h46d⟩, xn_InvalidRow_code := h47, xb_InvalidScheme := ⟨h48a, h48b, h48c, h48d⟩, xn_InvalidScheme_code := h49, xb_InvalidName := ⟨h50a, h50b, h50c, h50d⟩, xn_InvalidName_code := h51, esl_ := h52, kil_SureError := h53, mC_SureError := PySem.W.mg_of X G ca0, kil_ValueError := h55, kil_Missing := h56, mC_Missing := PySem.W.mg_of X G ca1, kil_LookupError := h58, kil_IndexError := h59, mC_InvalidName := PySem.W.mg_of X G ca2, kC_InvalidName := h61, mC_InvalidScheme := PySem.W.mg_of X G ca3, kC_InvalidScheme := h63, mC_InvalidRow := PySem.W.mg_of X G ca4, kC_InvalidRow := h65, mC_InvalidLoose := PySem.W.mg_of X G ca5, kC_InvalidLoose := h67, mC_InvalidVariables := PySem.W.mg_of X G ca6, kC_InvalidVariables := h69, mC_InvalidPart := PySem.W.mg_of X G ca7, kC_InvalidPart := h71, mC_InvalidFormula := PySem.W.mg_of X G ca8, kC_InvalidFormula := h73, mC_InvalidColumns := PySem.W.mg_of X G ca9, kC_InvalidColumns := h75, mC_InvalidAnswer := PySem.W.mg_of X G ca10, kC_InvalidAnswer := h77, mC_InvalidTruths := PySem.W.mg_of X G ca11, kC_InvalidTruths := h79, mC_InvalidFilling := PySem.W.mg_of X G ca12, kC_InvalidFilling := h81, mC_InvalidMeaning := PySem.W.mg_of X G ca13, kC_InvalidMeaning := h83, mC_InvalidText := PySem.W.mg_of X G ca14, kC_InvalidText := h85, mC_InvalidCommand := PySem.W.mg_of X G ca15, kC_InvalidCommand := h87, mC_InvalidLimit := PySem.W.mg_of X G ca16, kC_InvalidLimit := h89, mC_InvalidPage := PySem.W.mg_of X G ca17, kC_InvalidPage := h91, mC_OtherScheme := PySem.W.mg_of X G ca18, kC_OtherScheme := h93, mC_OtherColumns := PySem.W.mg_of X G ca19, kC_OtherColumns := h95, mC_HasColumns := PySem.W.mg_of X G ca20, kC_HasColumns := h97, mC_NotSafe := PySem.W.mg_of X G ca21, kC_NotSafe := h99, mC_TooMany := PySem.W.mg_of X G ca22, kC_TooMany := h101, mC_Full := PySem.W.mg_of X G ca23, kC_Full := h103, mC_UnknownName := PySem.W.mg_of X G ca24, kC_UnknownName := h105, mC_UnknownRow := PySem.W.mg_of X G ca25, kC_UnknownRow := h107, mC_UnknownValue := PySem.W.mg_of X G ca26, kC_UnknownValue := h109, mC_NothingLeft := PySem.W.mg_of X G ca27, kC_NothingLeft := h111, xn_InvalidCommand_at := h112, xn_InvalidText_at := h113, xn_InvalidPart_at := h114, xn_InvalidLoose_at := h115, xn_InvalidRow_at := h116, xn_InvalidScheme_at := h117, xn_TooMany_most := h118, xn_Full_limit := h119, xn_UnknownName_name := h120, xn_UnknownRow_row := h121, xn_InvalidPage_line := h122, xn_UnknownValue_given := h123, xn_InvalidLimit_given := h124, xn_InvalidMeaning_given := h125, xn_InvalidFilling_given := h126, xn_InvalidTruths_given := h127, xn_InvalidAnswer_given := h128, xn_InvalidColumns_given := h129, xn_InvalidFormula_given := h130, xn_InvalidVariables_given := h131, xn_InvalidName_given := h132, kil_InvalidName := h133, kil_InvalidScheme := h134, kil_InvalidRow := h135, kil_InvalidLoose := h136, kil_InvalidVariables := h137, kil_InvalidPart := h138, kil_InvalidFormula := h139, kil_InvalidColumns := h140, kil_InvalidAnswer := h141, kil_InvalidTruths := h142, kil_InvalidFilling := h143, kil_InvalidMeaning := h144, kil_InvalidText := h145, kil_InvalidCommand := h146, kil_InvalidLimit := h147, kil_InvalidPage := h148, kil_OtherScheme := h149, kil_OtherColumns := h150, kil_HasColumns := h151, kil_NotSafe := h152, kil_TooMany := h153, kil_Full := h154, kil_UnknownName := h155, kil_UnknownRow := h156, kil_UnknownValue := h157, kil_NothingLeft := h158, ef_InvalidName := ef0, efd_InvalidName := (PySem.W.fnX "__init__" "InvalidName.__init__" (defArgs s_InvalidName___init__) (defBody s_InvalidName___init__) (defScope s_InvalidName___init__) [("__class__", el0)] .none ekV0 edc0 epm0 ean0 (.ref ecc0) ect0), er_InvalidName := errD_mk exB_VE et_InvalidName ebd_InvalidName exi0 exo0 exd0 exs0 exb0 exv0 ext0 exk0 exu0 zthird elk0 exc0 exl0 (fileIn_of exfa0 exfb0 exfc0) (PySem.W.mg_none_of X G zsup) ztop exm0 exq0 (fun x z => by cases z; exact exg0), ei_InvalidName := ei0, et_InvalidName := ety0, eb_InvalidName := Binds.all fun us hl => match us, hl with | [_, _], _ => rfl, ek_InvalidName := bdK_of fun x u => rfl, ef_InvalidScheme := ef1, efd_InvalidScheme := (PySem.W.fnX "__init__" "InvalidScheme.__init__" (defArgs s_InvalidScheme___init__) (defBody s_InvalidScheme___init__) (defScope s_InvalidScheme___init__) [("__class__", el1)] .none ekV1 edc1 epm1 ean1 (.ref ecc1) ect1), er_InvalidScheme := errD_mk exB_VE et_InvalidScheme ebd_InvalidScheme exi1 exo1 exd1 exs1 exb1 exv1 ext1 exk1 exu1 zthird elk1 exc1 exl1 (fileIn_of exfa1 exfb1 exfc1) (PySem.W.mg_none_of X G zsup) ztop exm1 exq1 (fun x z => by cases z; exact exg1), ei_InvalidScheme := ei1, et_InvalidScheme := ety1, eb_InvalidScheme := Binds.all fun us hl => match us, hl with | [_, _], _ => rfl, ek_InvalidScheme := bdK_of fun x u => rfl, ef_InvalidRow := ef2, efd_InvalidRow := (PySem.W.fnX "__init__" "InvalidRow.__init__" (defArgs s_InvalidRow___init__) (defBody s_InvalidRow___init__) (defScope s_InvalidRow___init__) [("__class__", el2)] .none ekV2 edc2 epm2 ean2 (.ref ecc2) ect2), er_InvalidRow := errD_mk exB_VE et_InvalidRow ebd_InvalidRow exi2 exo2 exd2 exs2 exb2 exv2 ext2 exk2 exu2 zthird elk2 exc2 exl2 (fileIn_of exfa2 exfb2 exfc2) (PySem.W.mg_none_of X G zsup) ztop exm2 exq2 (fun x z => by cases z; exact exg2), ei_InvalidRow := ei2, et_InvalidRow := ety2, eb_InvalidRow := Binds.all fun us hl => match us, hl with | [_, _], _ => rfl, ek_InvalidRow := bdK_of fun x u => rfl, ef_InvalidLoose := ef3, efd_InvalidLoose := (PySem.W.fnX "__init__" "InvalidLoose.__init__" (defArgs s_InvalidLoose___init__) (defBody s_InvalidLoose___init__) (defScope s_InvalidLoose___init__) [("__class__", el3)] .none ekV3 edc3 epm3 ean3 (.ref ecc3) ect3), er_InvalidLoose := errD_mk exB_VE et_InvalidLoose ebd_InvalidLoose exi3 exo3 exd3 exs3 exb3 exv3 ext3 exk3 exu3 zthird elk3 exc3 exl3 (fileIn_of exfa3 exfb3 exfc3) (PySem.W.mg_none_of X G zsup) ztop exm3 exq3 (fun x z => by cases z; exact exg3), ei_InvalidLoose := ei3, et_InvalidLoose := ety3, eb_InvalidLoose := Binds.all fun us hl => match us, hl with | [_, _], _ => rfl, ek_InvalidLoose := bdK_of fun x u => rfl, ef_InvalidVariables := ef4, efd_InvalidVariables := (PySem.W.fnX "__init__" "InvalidVariables.__init__" (defArgs s_InvalidVariables___init__) (defBody s_InvalidVariables___init__) (defScope s_InvalidVariables___init__) [("__class__", el4)] .none ekV4 edc4 epm4 ean4 (.ref ecc4) ect4), er_InvalidVariables := errD_mk exB_VE et_InvalidVariables ebd_InvalidVariables exi4 exo4 exd4 exs4 exb4 exv4 ext4 exk4 exu4 zthird elk4 exc4 exl4 (fileIn_of exfa4 exfb4 exfc4) (PySem.W.mg_none_of X G zsup) ztop exm4 exq4 (fun x z => by cases z; exact exg4), ei_InvalidVariables := ei4, et_InvalidVariables := ety4, eb_InvalidVariables := Binds.all fun us hl => match us, hl with | [_, _], _ => rfl, ek_InvalidVariables := bdK_of fun x u => rfl, ef_InvalidPart := ef5, efd_InvalidPart := (PySem.W.fnX "__init__" "InvalidPart.__init__" (defArgs s_InvalidPart___init__) (defBody s_InvalidPart___init__) (defScope s_InvalidPart___init__) [("__class__", el5)] .none ekV5 edc5 epm5 ean5 (.ref ecc5) ect5), er_InvalidPart := errD_mk exB_VE et_InvalidPart ebd_InvalidPart exi5 exo5 exd5 exs5 exb5 exv5 ext5 exk5 exu5 zthird elk5 exc5 exl5 (fileIn_of exfa5 exfb5 exfc5) (PySem.W.mg_none_of X G zsup) ztop exm5 exq5 (fun x z => by cases z; exact exg5), ei_InvalidPart := ei5, et_InvalidPart := ety5, eb_InvalidPart := Binds.all fun us hl => match us, hl with | [_, _], _ => rfl, ek_InvalidPart := bdK_of fun x u => rfl, ef_InvalidFormula := ef6, efd_InvalidFormula := (PySem.W.fnX "__init__" "InvalidFormula.__init__" (defArgs s_InvalidFormula___init__) (defBody s_InvalidFormula___init__) (defScope s_InvalidFormula___init__) [("__class__", el6)] .none ekV6 edc6 epm6 ean6 (.ref ecc6) ect6), er_InvalidFormula := errD_mk exB_VE et_InvalidFormula ebd_InvalidFormula exi6 exo6 exd6 exs6 exb6 exv6 ext6 exk6 exu6 zthird elk6 exc6 exl6 (fileIn_of exfa6 exfb6 exfc6) (PySem.W.mg_none_of X G zsup) ztop exm6 exq6 (fun x z => by cases z; exact exg6), ei_InvalidFormula := ei6, et_InvalidFormula := ety6, eb_InvalidFormula := Binds.all fun us hl => match us, hl with | [_, _], _ => rfl, ek_InvalidFormula := bdK_of fun x u => rfl, ef_InvalidColumns := ef7, efd_InvalidColumns := (PySem.W.fnX "__init__" "InvalidColumns.__init__" (defArgs s_InvalidColumns___init__) (defBody s_InvalidColumns___init__) (defScope s_InvalidColumns___init__) [("__class__", el7)] .none ekV7 edc7 epm7 ean7 (.ref ecc7) ect7), er_InvalidColumns := errD_mk exB_VE et_InvalidColumns ebd_InvalidColumns exi7 exo7 exd7 exs7 exb7 exv7 ext7 exk7 exu7 zthird elk7 exc7 exl7 (fileIn_of exfa7 exfb7 exfc7) (PySem.W.mg_none_of X G zsup) ztop exm7 exq7 (fun x z => by cases z; exact exg7), ei_InvalidColumns := ei7, et_InvalidColumns := ety7, eb_InvalidColumns := Binds.all fun us hl => match us, hl with | [_, _], _ => rfl, ek_InvalidColumns := bdK_of fun x u => rfl, ef_InvalidAnswer := ef8, efd_InvalidAnswer := (PySem.W.fnX "__init__" "InvalidAnswer.__init__" (defArgs s_InvalidAnswer___init__) (defBody s_InvalidAnswer___init__) (defScope s_InvalidAnswer___init__) [("__class__", el8)] .none ekV8 edc8 epm8 ean8 (.ref ecc8) ect8), er_InvalidAnswer := errD_mk exB_VE et_InvalidAnswer ebd_InvalidAnswer exi8 exo8 exd8 exs8 exb8 exv8 ext8 exk8 exu8 zthird elk8 exc8 exl8 (fileIn_of exfa8 exfb8 exfc8) (PySem.W.mg_none_of X G zsup) ztop exm8 exq8 (fun x z => by cases z; exact exg8), ei_InvalidAnswer := ei8, et_InvalidAnswer := ety8, eb_InvalidAnswer := Binds.all fun us hl => match us, hl with | [_, _], _ => rfl, ek_InvalidAnswer := bdK_of fun x u => rfl, ef_InvalidTruths := ef9, efd_InvalidTruths := (PySem.W.fnX "__init__" "InvalidTruths.__init__" (defArgs s_InvalidTruths___init__) (defBody s_InvalidTruths___init__) (defScope s_InvalidTruths___init__) [("__class__", el9)] .none ekV9 edc9 epm9 ean9 (.ref ecc9) ect9), er_InvalidTruths := errD_mk exB_VE et_InvalidTruths ebd_InvalidTruths exi9 exo9 exd9 exs9 exb9 exv9 ext9 exk9 exu9 zthird elk9 exc9 exl9 (fileIn_of exfa9 exfb9 exfc9) (PySem.W.mg_none_of X G zsup) ztop exm9 exq9 (fun x z => by cases z; exact exg9), ei_InvalidTruths := ei9, et_InvalidTruths := ety9, eb_InvalidTruths := Binds.all fun us hl => match us, hl with | [_, _], _ => rfl, ek_InvalidTruths := bdK_of fun x u => rfl, ef_InvalidFilling := ef10, efd_InvalidFilling := (PySem.W.fnX "__init__" "InvalidFilling.__init__" (defArgs s_InvalidFilling___init__) (defBody s_InvalidFilling___init__) (defScope s_InvalidFilling___init__) [("__class__", el10)] .none ekV10 edc10 epm10 ean10 (.ref ecc10) ect10), er_InvalidFilling := errD_mk exB_VE et_InvalidFilling ebd_InvalidFilling exi10 exo10 exd10 exs10 exb10 exv10 ext10 exk10 exu10 zthird elk10 exc10 exl10 (fileIn_of exfa10 exfb10 exfc10) (PySem.W.mg_none_of X G zsup) ztop exm10 exq10 (fun x z => by cases z; exact exg10), ei_InvalidFilling := ei10, et_InvalidFilling := ety10, eb_InvalidFilling := Binds.all fun us hl => match us, hl with | [_, _], _ => rfl, ek_InvalidFilling := bdK_of fun x u => rfl, ef_InvalidMeaning := ef11, efd_InvalidMeaning := (PySem.W.fnX "__init__" "InvalidMeaning.__init__" (defArgs s_InvalidMeaning___init__) (defBody s_InvalidMeaning___init__) (defScope s_InvalidMeaning___init__) [("__class__", el11)] .none ekV11 edc11 epm11 ean11 (.ref ecc11) ect11), er_InvalidMeaning := errD_mk exB_VE et_InvalidMeaning ebd_InvalidMeaning exi11 exo11 exd11 exs11 exb11 exv11 ext11 exk11 exu11 zthird elk11 exc11 exl11 (fileIn_of exfa11 exfb11 exfc11) (PySem.W.mg_none_of X G zsup) ztop exm11 exq11 (fun x z => by cases z; exact exg11), ei_InvalidMeaning := ei11, et_InvalidMeaning := ety11, eb_InvalidMeaning := Binds.all fun us hl => match us, hl with | [_, _], _ => rfl, ek_InvalidMeaning := bdK_of fun x u => rfl, ef_InvalidText := ef12, efd_InvalidText := (PySem.W.fnX "__init__" "InvalidText.__init__" (defArgs s_InvalidText___init__) (defBody s_InvalidText___init__) (defScope s_InvalidText___init__) [("__class__", el12)] .none ekV12 edc12 epm12 ean12 (.ref ecc12) ect12), er_InvalidText := errD_mk exB_VE et_InvalidText ebd_InvalidText exi12 exo12 exd12 exs12 exb12 exv12 ext12 exk12 exu12 zthird elk12 exc12 exl12 (fileIn_of exfa12 exfb12 exfc12) (PySem.W.mg_none_of X G zsup) ztop exm12 exq12 (fun x z => by cases z; exact exg12), ei_InvalidText := ei12, et_InvalidText := ety12, eb_InvalidText := Binds.all fun us hl => match us, hl with | [_, _], _ => rfl, ek_InvalidText := bdK_of fun x u => rfl, ef_InvalidCommand := ef13, efd_InvalidCommand := (PySem.W.fnX "__init__" "InvalidCommand.__init__" (defArgs s_InvalidCommand___init__) (defBody s_InvalidCommand___init__) (defScope s_InvalidCommand___init__) [("__class__", el13)] .none ekV13 edc13 epm13 ean13 (.ref ecc13) ect13), er_InvalidCommand := errD_mk exB_VE et_InvalidCommand ebd_InvalidCommand exi13 exo13 exd13 exs13 exb13 exv13 ext13 exk13 exu13 zthird elk13 exc13 exl13 (fileIn_of exfa13 exfb13 exfc13) (PySem.W.mg_none_of X G zsup) ztop exm13 exq13 (fun x z => by cases z; exact exg13), ei_InvalidCommand := ei13, et_InvalidCommand := ety13, eb_InvalidCommand := Binds.all fun us hl => match us, hl with | [_, _], _ => rfl, ek_InvalidCommand := bdK_of fun x u => rfl, ef_InvalidLimit := ef14, efd_InvalidLimit := (PySem.W.fnX "__init__" "InvalidLimit.__init__" (defArgs s_InvalidLimit___init__) (defBody s_InvalidLimit___init__) (defScope s_InvalidLimit___init__) [("__class__", el14)] .none ekV14 edc14 epm14 ean14 (.ref ecc14) ect14), er_InvalidLimit := errD_mk exB_VE et_InvalidLimit ebd_InvalidLimit exi14 exo14 exd14 exs14 exb14 exv14 ext14 exk14 exu14 zthird elk14 exc14 exl14 (fileIn_of exfa14 exfb14 exfc14) (PySem.W.mg_none_of X G zsup) ztop exm14 exq14 (fun x z => by cases z; exact exg14), ei_InvalidLimit := ei14, et_InvalidLimit := ety14, eb_InvalidLimit := Binds.all fun us hl => match us, hl with | [_, _], _ => rfl, ek_InvalidLimit := bdK_of fun x u => rfl, ef_InvalidPage := ef15, efd_InvalidPage := (PySem.W.fnX "__init__" "InvalidPage.__init__" (defArgs s_InvalidPage___init__) (defBody s_InvalidPage___init__) (defScope s_InvalidPage___init__) [("__class__", el15)] .none ekV15 edc15 epm15 ean15 (.ref ecc15) ect15), er_InvalidPage := errD_mk exB_VE et_InvalidPage ebd_InvalidPage exi15 exo15 exd15 exs15 exb15 exv15 ext15 exk15 exu15 zthird elk15 exc15 exl15 (fileIn_of exfa15 exfb15 exfc15) (PySem.W.mg_none_of X G zsup) ztop exm15 exq15 (fun x z => by cases z; exact exg15), ei_InvalidPage := ei15, et_InvalidPage := ety15, eb_InvalidPage := Binds.all fun us hl => match us, hl with | [_, _], _ => rfl, ek_InvalidPage := bdK_of fun x u => rfl, ef_OtherScheme := ef16, efd_OtherScheme := (PySem.W.fnX "__init__" "OtherScheme.__init__" (defArgs s_OtherScheme___init__) (defBody s_OtherScheme___init__) (defScope s_OtherScheme___init__) [("__class__", el16)] .none ekV16 edc16 epm16 ean16 (.ref ecc16) ect16), er_OtherScheme := errD_mk exB_VE et_OtherScheme ebd_OtherScheme exi16 exo16 exd16 exs16 exb16 exv16 ext16 exk16 exu16 zthird elk16 exc16 exl16 (fileIn_of exfa16 exfb16 exfc16) (PySem.W.mg_none_of X G zsup) ztop exm16 exq16 (fun _ z => nomatch z), ei_OtherScheme := ei16, et_OtherScheme := ety16, eb_OtherScheme := Binds.all fun us hl => match us, hl with | [_], _ => rfl, ef_OtherColumns := ef17, efd_OtherColumns := (PySem.W.fnX "__init__" "OtherColumns.__init__" (defArgs s_OtherColumns___init__) (defBody s_OtherColumns___init__) (defScope s_OtherColumns___init__) [("__class__", el17)] .none ekV17 edc17 epm17 ean17 (.ref ecc17) ect17), er_OtherColumns := errD_mk exB_VE et_OtherColumns ebd_OtherColumns exi17 exo17 exd17 exs17 exb17 exv17 ext17 exk17 exu17 zthird elk17 exc17 exl17 (fileIn_of exfa17 exfb17 exfc17) (PySem.W.mg_none_of X G zsup) ztop exm17 exq17 (fun _ z => nomatch z), ei_OtherColumns := ei17, et_OtherColumns := ety17, eb_OtherColumns := Binds.all fun us hl => match us, hl with | [_], _ => rfl, ef_HasColumns := ef18, efd_HasColumns := (PySem.W.fnX "__init__" "HasColumns.__init__" (defArgs s_HasColumns___init__) (defBody s_HasColumns___init__) (defScope s_HasColumns___init__) [("__class__", el18)] .none ekV18 edc18 epm18 ean18 (.ref ecc18) ect18), er_HasColumns := errD_mk exB_VE et_HasColumns ebd_HasColumns exi18 exo18 exd18 exs18 exb18 exv18 ext18 exk18 exu18 zthird elk18 exc18 exl18 (fileIn_of exfa18 exfb18 exfc18) (PySem.W.mg_none_of X G zsup) ztop exm18 exq18 (fun _ z => nomatch z), ei_HasColumns := ei18, et_HasColumns := ety18, eb_HasColumns := Binds.all fun us hl => match us, hl with | [_], _ => rfl, ef_NotSafe := ef19, efd_NotSafe := (PySem.W.fnX "__init__" "NotSafe.__init__" (defArgs s_NotSafe___init__) (defBody s_NotSafe___init__) (defScope s_NotSafe___init__) [("__class__", el19)] .none ekV19 edc19 epm19 ean19 (.ref ecc19) ect19), er_NotSafe := errD_mk exB_VE et_NotSafe ebd_NotSafe exi19 exo19 exd19 exs19 exb19 exv19 ext19 exk19 exu19 zthird elk19 exc19 exl19 (fileIn_of exfa19 exfb19 exfc19) (PySem.W.mg_none_of X G zsup) ztop exm19 exq19 (fun _ z => nomatch z), ei_NotSafe := ei19, et_NotSafe := ety19, eb_NotSafe := Binds.all fun us hl => match us, hl with | [_], _ => rfl, ef_TooMany := ef20, efd_TooMany := (PySem.W.fnX "__init__" "TooMany.__init__" (defArgs s_TooMany___init__) (defBody s_TooMany___init__) (defScope s_TooMany___init__) [("__class__", el20)] .none ekV20 edc20 epm20 ean20 (.ref ecc20) ect20), er_TooMany := errD_mk exB_VE et_TooMany ebd_TooMany exi20 exo20 exd20 exs20 exb20 exv20 ext20 exk20 exu20 zthird elk20 exc20 exl20 (fileIn_of exfa20 exfb20 exfc20) (PySem.W.mg_none_of X G zsup) ztop exm20 exq20 (fun x z => by cases z; exact exg20), ei_TooMany := ei20, et_TooMany := ety20, eb_TooMany := Binds.all fun us hl => match us, hl with | [_, _], _ => rfl, ek_TooMany := bdK_of fun x u => rfl, ef_Full := ef21, efd_Full := (PySem.W.fnX "__init__" "Full.__init__" (defArgs s_Full___init__) (defBody s_Full___init__) (defScope s_Full___init__) [("__class__", el21)] .none ekV21 edc21 epm21 ean21 (.ref ecc21) ect21), er_Full := errD_mk exB_VE et_Full ebd_Full exi21 exo21 exd21 exs21 exb21 exv21 ext21 exk21 exu21 zthird elk21 exc21 exl21 (fileIn_of exfa21 exfb21 exfc21) (PySem.W.mg_none_of X G zsup) ztop exm21 exq21 (fun x z => by cases z; exact exg21), ei_Full := ei21, et_Full := ety21, eb_Full := Binds.all fun us hl => match us, hl with | [_, _], _ => rfl, ek_Full := bdK_of fun x u => rfl, ef_UnknownName := ef22, efd_UnknownName := (PySem.W.fnX "__init__" "UnknownName.__init__" (defArgs s_UnknownName___init__) (defBody s_UnknownName___init__) (defScope s_UnknownName___init__) [("__class__", el22)] .none ekV22 edc22 epm22 ean22 (.ref ecc22) ect22), er_UnknownName := errD_mk exB_LE et_UnknownName ebd_UnknownName exi22 exo22 exd22 exs22 exb22 exv22 ext22 exk22 exu22 zthird elk22 exc22 exl22 (fileIn_of exfa22 exfb22 exfc22) (PySem.W.mg_none_of X G zsup) ztop exm22 exq22 (fun x z => by cases z; exact exg22), ei_UnknownName := ei22, et_UnknownName := ety22, eb_UnknownName := Binds.all fun us hl => match us, hl with | [_, _], _ => rfl, ek_UnknownName := bdK_of fun x u => rfl, ef_UnknownRow := ef23, efd_UnknownRow := (PySem.W.fnX "__init__" "UnknownRow.__init__" (defArgs s_UnknownRow___init__) (defBody s_UnknownRow___init__) (defScope s_UnknownRow___init__) [("__class__", el23)] .none ekV23 edc23 epm23 ean23 (.ref ecc23) ect23), er_UnknownRow := errD_mk exB_LE et_UnknownRow ebd_UnknownRow exi23 exo23 exd23 exs23 exb23 exv23 ext23 exk23 exu23 zthird elk23 exc23 exl23 (fileIn_of exfa23 exfb23 exfc23) (PySem.W.mg_none_of X G zsup) ztop exm23 exq23 (fun x z => by cases z; exact exg23), ei_UnknownRow := ei23, et_UnknownRow := ety23, eb_UnknownRow := Binds.all fun us hl => match us, hl with | [_, _], _ => rfl, ek_UnknownRow := bdK_of fun x u => rfl, ef_UnknownValue := ef24, efd_UnknownValue := (PySem.W.fnX "__init__" "UnknownValue.__init__" (defArgs s_UnknownValue___init__) (defBody s_UnknownValue___init__) (defScope s_UnknownValue___init__) [("__class__", el24)] .none ekV24 edc24 epm24 ean24 (.ref ecc24) ect24), er_UnknownValue := errD_mk exB_LE et_UnknownValue ebd_UnknownValue exi24 exo24 exd24 exs24 exb24 exv24 ext24 exk24 exu24 zthird elk24 exc24 exl24 (fileIn_of exfa24 exfb24 exfc24) (PySem.W.mg_none_of X G zsup) ztop exm24 exq24 (fun x z => by cases z; exact exg24), ei_UnknownValue := ei24, et_UnknownValue := ety24, eb_UnknownValue := Binds.all fun us hl => match us, hl with | [_, _], _ => rfl, ek_UnknownValue := bdK_of fun x u => rfl, ef_NothingLeft := ef25, efd_NothingLeft := (PySem.W.fnX "__init__" "NothingLeft.__init__" (defArgs s_NothingLeft___init__) (defBody s_NothingLeft___init__) (defScope s_NothingLeft___init__) [("__class__", el25)] .none ekV25 edc25 epm25 ean25 (.ref ecc25) ect25), er_NothingLeft := errD_mk exB_IE et_NothingLeft ebd_NothingLeft exi25 exo25 exd25 exs25 exb25 exv25 ext25 exk25 exu25 zthird elk25 exc25 exl25 (fileIn_of exfa25 exfb25 exfc25) (PySem.W.mg_none_of X G zsup) ztop exm25 exq25 (fun _ z => nomatch z), ei_NothingLeft := ei25, et_NothingLeft := ety25, eb_NothingLeft := Binds.all fun us hl => match us, hl with | [_], _ => rfl, f__law_bag := f0, fd__law_bag := _, F__law_bag := fun_mk (st := s__law_bag) l0 c_0 k0, m__law_bag := PySem.W.mg_of X G a0, f__law_draw := f1, fd__law_draw := _, F__law_draw := fun_mk (st := s__law_draw) l1 c_1 k1, m__law_draw := PySem.W.mg_of X G a1, f__law_of := f2, fd__law_of := _, F__law_of := fun_mk (st := s__law_of) l2 c_2 k2, m__law_of := PySem.W.mg_of X G a2, f__law_errors := f3, fd__law_errors := _, F__law_errors := fun_mk (st := s__law_errors) l3 c_3 k3, m__law_errors := PySem.W.mg_of X G a3, f__law_codes := f4, fd__law_codes := _, F__law_codes := fun_mk (st := s__law_codes) l4 c_4 k4, m__law_codes := PySem.W.mg_of X G a4, f__law_same := f5, fd__law_same := _, F__law_same := fun_mk (st := s__law_same) l5 c_5 k5, m__law_same := PySem.W.mg_of X G a5, f__law_field := f6, fd__law_field := _, F__law_field := fun_mk (st := s__law_field) l6 c_6 k6, m__law_field := PySem.W.mg_of X G a6, f__law_classes := f7, fd__law_classes := _, F__law_classes := fun_mk (st := s__law_classes) l7 c_7 k7, m__law_classes := PySem.W.mg_of X G a7, f__law_named_errors := f8, fd__law_named_errors := _, F__law_named_errors := fun_mk (st := s__law_named_errors) l8 c_8 k8, m__law_named_errors := PySem.W.mg_of X G a8, f_law := fa, fd_law := _, F_law := fun_mk (st := s_law) l9 c_9 k9, m_law := PySem.W.mg_of X G a9, z_len := PySem.W.mg_none_of X G z0, z_range := PySem.W.mg_none_of X G z1, z_isinstance := PySem.W.mg_none_of X G z2, z_ValueError := PySem.W.mg_none_of X G z3, z_LookupError := PySem.W.mg_none_of X G z4, z_IndexError := PySem.W.mg_none_of X G z5, z_list := PySem.W.mg_none_of X G z6, z_tuple := PySem.W.mg_none_of X G z7, z_zip := PySem.W.mg_none_of X G z8, z_all := PySem.W.mg_none_of X G z9, z_bool := PySem.W.mg_none_of X G z10, z_int := PySem.W.mg_none_of X G z11, z_str := PySem.W.mg_none_of X G z12 } l9 c_9 TB)
end K01
namespace HE
open PySem PySem.W PySem.Calls PyProof.Rows
open PySem.Spec L2 PD PF in
theorem facts {w : World} {K : HP.Fr} {h : Heap} {mg : PySem.Str → Option Value} {fa : Addr} (KX : K.In h) (G : h.Ns mainGlobals mg) (hmg : mg "law" = some (.ref fa)) (c : HP.SaysP fns exs h K) :
    LamX.LawAtS PySem.Challenge.rw_plainsure_k01_errors_by_themselves w K (PD.CXq (PySem.Challenge.rw_plainsure_k01_errors_by_themselves).prog w) 41 63 "_law_script" mg fa h := by
  obtain ⟨oc0, od0, dc0, pm0, an0, cd0, ct0, sl0, l0, c_0⟩ := HP.fn_at (K := K) (f := (HP.ga K "_law_bag")) (name := "_law_bag") (qual := "_law_bag") (st := K01.s__law_bag) (c.def_ 0 (d := HE.d0) rfl) (c.at 66 rfl)
  rw [HP.isNone_ok (c.at 67 rfl)] at l0
  obtain ⟨oc1, od1, dc1, pm1, an1, cd1, ct1, sl1, l1, c_1⟩ := HP.fn_at (K := K) (f := (HP.ga K "_law_draw")) (name := "_law_draw") (qual := "_law_draw") (st := K01.s__law_draw) (c.def_ 1 (d := HE.d1) rfl) (c.at 69 rfl)
  rw [HP.isNone_ok (c.at 70 rfl)] at l1
  obtain ⟨oc2, od2, dc2, pm2, an2, cd2, ct2, sl2, l2, c_2⟩ := HP.fn_at (K := K) (f := (HP.ga K "_law_of")) (name := "_law_of") (qual := "_law_of") (st := K01.s__law_of) (c.def_ 2 (d := HE.d2) rfl) (c.at 72 rfl)
  rw [HP.isNone_ok (c.at 73 rfl)] at l2
  obtain ⟨oc3, od3, dc3, pm3, an3, cd3, ct3, sl3, l3, c_3⟩ := HP.fn_at (K := K) (f := (HP.ga K "_law_errors")) (name := "_law_errors") (qual := "_law_errors") (st := K01.s__law_errors) (c.def_ 3 (d := HE.d3) rfl) (c.at 75 rfl)
  rw [HP.isNone_ok (c.at 76 rfl)] at l3
  obtain ⟨oc4, od4, dc4, pm4, an4, cd4, ct4, sl4, l4, c_4⟩ := HP.fn_at (K := K) (f := (HP.ga K "_law_codes")) (name := "_law_codes") (qual := "_law_codes") (st := K01.s__law_codes) (c.def_ 4 (d := HE.d4) rfl) (c.at 78 rfl)
  rw [HP.isNone_ok (c.at 79 rfl)] at l4
  obtain ⟨oc5, od5, dc5, pm5, an5, cd5, ct5, sl5, l5, c_5⟩ := HP.fn_at (K := K) (f := (HP.ga K "_law_same")) (name := "_law_same") (qual := "_law_same") (st := K01.s__law_same) (c.def_ 5 (d := HE.d5) rfl) (c.at 81 rfl)
  rw [HP.isNone_ok (c.at 82 rfl)] at l5
  obtain ⟨oc6, od6, dc6, pm6, an6, cd6, ct6, sl6, l6, c_6⟩ := HP.fn_at (K := K) (f := (HP.ga K "_law_field")) (name := "_law_field") (qual := "_law_field") (st := K01.s__law_field) (c.def_ 6 (d := HE.d6) rfl) (c.at 84 rfl)
  rw [HP.isNone_ok (c.at 85 rfl)] at l6
  obtain ⟨oc7, od7, dc7, pm7, an7, cd7, ct7, sl7, l7, c_7⟩ := HP.fn_at (K := K) (f := (HP.ga K "_law_classes")) (name := "_law_classes") (qual := "_law_classes") (st := K01.s__law_classes) (c.def_ 7 (d := HE.d7) rfl) (c.at 87 rfl)
  rw [HP.isNone_ok (c.at 88 rfl)] at l7
  obtain ⟨oc8, od8, dc8, pm8, an8, cd8, ct8, sl8, l8, c_8⟩ := HP.fn_at (K := K) (f := (HP.ga K "_law_named_errors")) (name := "_law_named_errors") (qual := "_law_named_errors") (st := K01.s__law_named_errors) (c.def_ 8 (d := HE.d8) rfl) (c.at 90 rfl)
  rw [HP.isNone_ok (c.at 91 rfl)] at l8
  obtain ⟨oc9, od9, dc9, pm9, an9, cd9, ct9, sl9, l9, c_9⟩ := HP.fn_at (K := K) (f := (HP.ga K "law")) (name := "law") (qual := "law") (st := K01.s_law) (c.def_ 9 (d := HE.d9) rfl) (c.at 93 rfl)
  rw [HP.isNone_ok (c.at 94 rfl)] at l9
  obtain ⟨eoc0, eod0, ekV0, edc0, epm0, ean0, ect0, eol0, elk0⟩ := HP.fnx_at (K := K) (f := (HP.ma K (HP.ga K "InvalidName") "__init__")) (name := "__init__") (qual := "InvalidName.__init__") (st := K01.s_InvalidName___init__) (c.def_ 10 (d := HE.d10) rfl) (c.at 319 rfl)
  obtain ⟨eo20, ed20, es20, exl0⟩ := HP.cellB_ok (c.at 331 rfl)
  obtain ⟨eo30, ed30, evs0, es30, efl0, etk0, exfa0, exfb0, exfc0⟩ := HP.fileB_ok (c.at 332 rfl)
  obtain ⟨eoc1, eod1, ekV1, edc1, epm1, ean1, ect1, eol1, elk1⟩ := HP.fnx_at (K := K) (f := (HP.ma K (HP.ga K "InvalidScheme") "__init__")) (name := "__init__") (qual := "InvalidScheme.__init__") (st := K01.s_InvalidScheme___init__) (c.def_ 11 (d := HE.d11) rfl) (c.at 336 rfl)
  obtain ⟨eo21, ed21, es21, exl1⟩ := HP.cellB_ok (c.at 348 rfl)
  obtain ⟨eo31, ed31, evs1, es31, efl1, etk1, exfa1, exfb1, exfc1⟩ := HP.fileB_ok (c.at 349 rfl)
  obtain ⟨eoc2, eod2, ekV2, edc2, epm2, ean2, ect2, eol2, elk2⟩ := HP.fnx_at (K := K) (f := (HP.ma K (HP.ga K "InvalidRow") "__init__")) (name := "__init__") (qual := "InvalidRow.__init__") (st := K01.s_InvalidRow___init__) (c.def_ 12 (d := HE.d12) rfl) (c.at 353 rfl)
  obtain ⟨eo22, ed22, es22, exl2⟩ := HP.cellB_ok (c.at 365 rfl)
  obtain ⟨eo32, ed32, evs2, es32, efl2, etk2, exfa2, exfb2, exfc2⟩ := HP.fileB_ok (c.at 366 rfl)
  obtain ⟨eoc3, eod3, ekV3, edc3, epm3, ean3, ect3, eol3, elk3⟩ := HP.fnx_at (K := K) (f := (HP.ma K (HP.ga K "InvalidLoose") "__init__")) (name := "__init__") (qual := "InvalidLoose.__init__") (st := K01.s_InvalidLoose___init__) (c.def_ 13 (d := HE.d13) rfl) (c.at 370 rfl)
  obtain ⟨eo23, ed23, es23, exl3⟩ := HP.cellB_ok (c.at 382 rfl)
  obtain ⟨eo33, ed33, evs3, es33, efl3, etk3, exfa3, exfb3, exfc3⟩ := HP.fileB_ok (c.at 383 rfl)
  obtain ⟨eoc4, eod4, ekV4, edc4, epm4, ean4, ect4, eol4, elk4⟩ := HP.fnx_at (K := K) (f := (HP.ma K (HP.ga K "InvalidVariables") "__init__")) (name := "__init__") (qual := "InvalidVariables.__init__") (st := K01.s_InvalidVariables___init__) (c.def_ 14 (d := HE.d14) rfl) (c.at 387 rfl)
  obtain ⟨eo24, ed24, es24, exl4⟩ := HP.cellB_ok (c.at 399 rfl)
  obtain ⟨eo34, ed34, evs4, es34, efl4, etk4, exfa4, exfb4, exfc4⟩ := HP.fileB_ok (c.at 400 rfl)
  obtain ⟨eoc5, eod5, ekV5, edc5, epm5, ean5, ect5, eol5, elk5⟩ := HP.fnx_at (K := K) (f := (HP.ma K (HP.ga K "InvalidPart") "__init__")) (name := "__init__") (qual := "InvalidPart.__init__") (st := K01.s_InvalidPart___init__) (c.def_ 15 (d := HE.d15) rfl) (c.at 404 rfl)
  obtain ⟨eo25, ed25, es25, exl5⟩ := HP.cellB_ok (c.at 416 rfl)
  obtain ⟨eo35, ed35, evs5, es35, efl5, etk5, exfa5, exfb5, exfc5⟩ := HP.fileB_ok (c.at 417 rfl)
  obtain ⟨eoc6, eod6, ekV6, edc6, epm6, ean6, ect6, eol6, elk6⟩ := HP.fnx_at (K := K) (f := (HP.ma K (HP.ga K "InvalidFormula") "__init__")) (name := "__init__") (qual := "InvalidFormula.__init__") (st := K01.s_InvalidFormula___init__) (c.def_ 16 (d := HE.d16) rfl) (c.at 421 rfl)
  obtain ⟨eo26, ed26, es26, exl6⟩ := HP.cellB_ok (c.at 433 rfl)
  obtain ⟨eo36, ed36, evs6, es36, efl6, etk6, exfa6, exfb6, exfc6⟩ := HP.fileB_ok (c.at 434 rfl)
  obtain ⟨eoc7, eod7, ekV7, edc7, epm7, ean7, ect7, eol7, elk7⟩ := HP.fnx_at (K := K) (f := (HP.ma K (HP.ga K "InvalidColumns") "__init__")) (name := "__init__") (qual := "InvalidColumns.__init__") (st := K01.s_InvalidColumns___init__) (c.def_ 17 (d := HE.d17) rfl) (c.at 438 rfl)
  obtain ⟨eo27, ed27, es27, exl7⟩ := HP.cellB_ok (c.at 450 rfl)
  obtain ⟨eo37, ed37, evs7, es37, efl7, etk7, exfa7, exfb7, exfc7⟩ := HP.fileB_ok (c.at 451 rfl)
  obtain ⟨eoc8, eod8, ekV8, edc8, epm8, ean8, ect8, eol8, elk8⟩ := HP.fnx_at (K := K) (f := (HP.ma K (HP.ga K "InvalidAnswer") "__init__")) (name := "__init__") (qual := "InvalidAnswer.__init__") (st := K01.s_InvalidAnswer___init__) (c.def_ 18 (d := HE.d18) rfl) (c.at 455 rfl)
  obtain ⟨eo28, ed28, es28, exl8⟩ := HP.cellB_ok (c.at 467 rfl)
  obtain ⟨eo38, ed38, evs8, es38, efl8, etk8, exfa8, exfb8, exfc8⟩ := HP.fileB_ok (c.at 468 rfl)
  obtain ⟨eoc9, eod9, ekV9, edc9, epm9, ean9, ect9, eol9, elk9⟩ := HP.fnx_at (K := K) (f := (HP.ma K (HP.ga K "InvalidTruths") "__init__")) (name := "__init__") (qual := "InvalidTruths.__init__") (st := K01.s_InvalidTruths___init__) (c.def_ 19 (d := HE.d19) rfl) (c.at 472 rfl)
  obtain ⟨eo29, ed29, es29, exl9⟩ := HP.cellB_ok (c.at 484 rfl)
  obtain ⟨eo39, ed39, evs9, es39, efl9, etk9, exfa9, exfb9, exfc9⟩ := HP.fileB_ok (c.at 485 rfl)
  obtain ⟨eoc10, eod10, ekV10, edc10, epm10, ean10, ect10, eol10, elk10⟩ := HP.fnx_at (K := K) (f := (HP.ma K (HP.ga K "InvalidFilling") "__init__")) (name := "__init__") (qual := "InvalidFilling.__init__") (st := K01.s_InvalidFilling___init__) (c.def_ 20 (d := HE.d20) rfl) (c.at 489 rfl)
  obtain ⟨eo210, ed210, es210, exl10⟩ := HP.cellB_ok (c.at 501 rfl)
  obtain ⟨eo310, ed310, evs10, es310, efl10, etk10, exfa10, exfb10, exfc10⟩ := HP.fileB_ok (c.at 502 rfl)
  obtain ⟨eoc11, eod11, ekV11, edc11, epm11, ean11, ect11, eol11, elk11⟩ := HP.fnx_at (K := K) (f := (HP.ma K (HP.ga K "InvalidMeaning") "__init__")) (name := "__init__") (qual := "InvalidMeaning.__init__") (st := K01.s_InvalidMeaning___init__) (c.def_ 21 (d := HE.d21) rfl) (c.at 506 rfl)
  obtain ⟨eo211, ed211, es211, exl11⟩ := HP.cellB_ok (c.at 518 rfl)
  obtain ⟨eo311, ed311, evs11, es311, efl11, etk11, exfa11, exfb11, exfc11⟩ := HP.fileB_ok (c.at 519 rfl)
  obtain ⟨eoc12, eod12, ekV12, edc12, epm12, ean12, ect12, eol12, elk12⟩ := HP.fnx_at (K := K) (f := (HP.ma K (HP.ga K "InvalidText") "__init__")) (name := "__init__") (qual := "InvalidText.__init__") (st := K01.s_InvalidText___init__) (c.def_ 22 (d := HE.d22) rfl) (c.at 523 rfl)
  obtain ⟨eo212, ed212, es212, exl12⟩ := HP.cellB_ok (c.at 535 rfl)
  obtain ⟨eo312, ed312, evs12, es312, efl12, etk12, exfa12, exfb12, exfc12⟩ := HP.fileB_ok (c.at 536 rfl)
  obtain ⟨eoc13, eod13, ekV13, edc13, epm13, ean13, ect13, eol13, elk13⟩ := HP.fnx_at (K := K) (f := (HP.ma K (HP.ga K "InvalidCommand") "__init__")) (name := "__init__") (qual := "InvalidCommand.__init__") (st := K01.s_InvalidCommand___init__) (c.def_ 23 (d := HE.d23) rfl) (c.at 540 rfl)
  obtain ⟨eo213, ed213, es213, exl13⟩ := HP.cellB_ok (c.at 552 rfl)
  obtain ⟨eo313, ed313, evs13, es313, efl13, etk13, exfa13, exfb13, exfc13⟩ := HP.fileB_ok (c.at 553 rfl)
  obtain ⟨eoc14, eod14, ekV14, edc14, epm14, ean14, ect14, eol14, elk14⟩ := HP.fnx_at (K := K) (f := (HP.ma K (HP.ga K "InvalidLimit") "__init__")) (name := "__init__") (qual := "InvalidLimit.__init__") (st := K01.s_InvalidLimit___init__) (c.def_ 24 (d := HE.d24) rfl) (c.at 557 rfl)
  obtain ⟨eo214, ed214, es214, exl14⟩ := HP.cellB_ok (c.at 569 rfl)
  obtain ⟨eo314, ed314, evs14, es314, efl14, etk14, exfa14, exfb14, exfc14⟩ := HP.fileB_ok (c.at 570 rfl)
  obtain ⟨eoc15, eod15, ekV15, edc15, epm15, ean15, ect15, eol15, elk15⟩ := HP.fnx_at (K := K) (f := (HP.ma K (HP.ga K "InvalidPage") "__init__")) (name := "__init__") (qual := "InvalidPage.__init__") (st := K01.s_InvalidPage___init__) (c.def_ 25 (d := HE.d25) rfl) (c.at 574 rfl)
  obtain ⟨eo215, ed215, es215, exl15⟩ := HP.cellB_ok (c.at 586 rfl)
  obtain ⟨eo315, ed315, evs15, es315, efl15, etk15, exfa15, exfb15, exfc15⟩ := HP.fileB_ok (c.at 587 rfl)
  obtain ⟨eoc16, eod16, ekV16, edc16, epm16, ean16, ect16, eol16, elk16⟩ := HP.fnx_at (K := K) (f := (HP.ma K (HP.ga K "OtherScheme") "__init__")) (name := "__init__") (qual := "OtherScheme.__init__") (st := K01.s_OtherScheme___init__) (c.def_ 26 (d := HE.d26) rfl) (c.at 591 rfl)
  obtain ⟨eo216, ed216, es216, exl16⟩ := HP.cellB_ok (c.at 603 rfl)
  obtain ⟨eo316, ed316, evs16, es316, efl16, etk16, exfa16, exfb16, exfc16⟩ := HP.fileB_ok (c.at 604 rfl)
  obtain ⟨eoc17, eod17, ekV17, edc17, epm17, ean17, ect17, eol17, elk17⟩ := HP.fnx_at (K := K) (f := (HP.ma K (HP.ga K "OtherColumns") "__init__")) (name := "__init__") (qual := "OtherColumns.__init__") (st := K01.s_OtherColumns___init__) (c.def_ 27 (d := HE.d27) rfl) (c.at 607 rfl)
  obtain ⟨eo217, ed217, es217, exl17⟩ := HP.cellB_ok (c.at 619 rfl)
  obtain ⟨eo317, ed317, evs17, es317, efl17, etk17, exfa17, exfb17, exfc17⟩ := HP.fileB_ok (c.at 620 rfl)
  obtain ⟨eoc18, eod18, ekV18, edc18, epm18, ean18, ect18, eol18, elk18⟩ := HP.fnx_at (K := K) (f := (HP.ma K (HP.ga K "HasColumns") "__init__")) (name := "__init__") (qual := "HasColumns.__init__") (st := K01.s_HasColumns___init__) (c.def_ 28 (d := HE.d28) rfl) (c.at 623 rfl)
  obtain ⟨eo218, ed218, es218, exl18⟩ := HP.cellB_ok (c.at 635 rfl)
  obtain ⟨eo318, ed318, evs18, es318, efl18, etk18, exfa18, exfb18, exfc18⟩ := HP.fileB_ok (c.at 636 rfl)
  obtain ⟨eoc19, eod19, ekV19, edc19, epm19, ean19, ect19, eol19, elk19⟩ := HP.fnx_at (K := K) (f := (HP.ma K (HP.ga K "NotSafe") "__init__")) (name := "__init__") (qual := "NotSafe.__init__") (st := K01.s_NotSafe___init__) (c.def_ 29 (d := HE.d29) rfl) (c.at 639 rfl)
  obtain ⟨eo219, ed219, es219, exl19⟩ := HP.cellB_ok (c.at 651 rfl)
  obtain ⟨eo319, ed319, evs19, es319, efl19, etk19, exfa19, exfb19, exfc19⟩ := HP.fileB_ok (c.at 652 rfl)
  obtain ⟨eoc20, eod20, ekV20, edc20, epm20, ean20, ect20, eol20, elk20⟩ := HP.fnx_at (K := K) (f := (HP.ma K (HP.ga K "TooMany") "__init__")) (name := "__init__") (qual := "TooMany.__init__") (st := K01.s_TooMany___init__) (c.def_ 30 (d := HE.d30) rfl) (c.at 655 rfl)
  obtain ⟨eo220, ed220, es220, exl20⟩ := HP.cellB_ok (c.at 667 rfl)
  obtain ⟨eo320, ed320, evs20, es320, efl20, etk20, exfa20, exfb20, exfc20⟩ := HP.fileB_ok (c.at 668 rfl)
  obtain ⟨eoc21, eod21, ekV21, edc21, epm21, ean21, ect21, eol21, elk21⟩ := HP.fnx_at (K := K) (f := (HP.ma K (HP.ga K "Full") "__init__")) (name := "__init__") (qual := "Full.__init__") (st := K01.s_Full___init__) (c.def_ 31 (d := HE.d31) rfl) (c.at 672 rfl)
  obtain ⟨eo221, ed221, es221, exl21⟩ := HP.cellB_ok (c.at 684 rfl)
  obtain ⟨eo321, ed321, evs21, es321, efl21, etk21, exfa21, exfb21, exfc21⟩ := HP.fileB_ok (c.at 685 rfl)
  obtain ⟨eoc22, eod22, ekV22, edc22, epm22, ean22, ect22, eol22, elk22⟩ := HP.fnx_at (K := K) (f := (HP.ma K (HP.ga K "UnknownName") "__init__")) (name := "__init__") (qual := "UnknownName.__init__") (st := K01.s_UnknownName___init__) (c.def_ 32 (d := HE.d32) rfl) (c.at 689 rfl)
  obtain ⟨eo222, ed222, es222, exl22⟩ := HP.cellB_ok (c.at 701 rfl)
  obtain ⟨eo322, ed322, evs22, es322, efl22, etk22, exfa22, exfb22, exfc22⟩ := HP.fileB_ok (c.at 702 rfl)
  obtain ⟨eoc23, eod23, ekV23, edc23, epm23, ean23, ect23, eol23, elk23⟩ := HP.fnx_at (K := K) (f := (HP.ma K (HP.ga K "UnknownRow") "__init__")) (name := "__init__") (qual := "UnknownRow.__init__") (st := K01.s_UnknownRow___init__) (c.def_ 33 (d := HE.d33) rfl) (c.at 706 rfl)
  obtain ⟨eo223, ed223, es223, exl23⟩ := HP.cellB_ok (c.at 718 rfl)
  obtain ⟨eo323, ed323, evs23, es323, efl23, etk23, exfa23, exfb23, exfc23⟩ := HP.fileB_ok (c.at 719 rfl)
  obtain ⟨eoc24, eod24, ekV24, edc24, epm24, ean24, ect24, eol24, elk24⟩ := HP.fnx_at (K := K) (f := (HP.ma K (HP.ga K "UnknownValue") "__init__")) (name := "__init__") (qual := "UnknownValue.__init__") (st := K01.s_UnknownValue___init__) (c.def_ 34 (d := HE.d34) rfl) (c.at 723 rfl)
  obtain ⟨eo224, ed224, es224, exl24⟩ := HP.cellB_ok (c.at 735 rfl)
  obtain ⟨eo324, ed324, evs24, es324, efl24, etk24, exfa24, exfb24, exfc24⟩ := HP.fileB_ok (c.at 736 rfl)
  obtain ⟨eoc25, eod25, ekV25, edc25, epm25, ean25, ect25, eol25, elk25⟩ := HP.fnx_at (K := K) (f := (HP.ma K (HP.ga K "NothingLeft") "__init__")) (name := "__init__") (qual := "NothingLeft.__init__") (st := K01.s_NothingLeft___init__) (c.def_ 35 (d := HE.d35) rfl) (c.at 740 rfl)
  obtain ⟨eo225, ed225, es225, exl25⟩ := HP.cellB_ok (c.at 752 rfl)
  obtain ⟨eo325, ed325, evs25, es325, efl25, etk25, exfa25, exfb25, exfc25⟩ := HP.fileB_ok (c.at 753 rfl)
  exact K01.all_mk  KX G hmg c.tabs (HP.eqO_ok (c.at 1 rfl)) (HP.eqO_ok (c.at 2 rfl)) (HP.eqO_ok (c.at 3 rfl)) (HP.eqO_ok (c.at 4 rfl)) (HP.eqO_ok (c.at 5 rfl)) (HP.eqO_ok (c.at 6 rfl)) (HP.eqO_ok (c.at 7 rfl)) (HP.eqO_ok (c.at 8 rfl)) (HP.eqO_ok (c.at 9 rfl)) (HP.eqO_ok (c.at 10 rfl)) (HP.eqO_ok (c.at 11 rfl)) (HP.eqO_ok (c.at 12 rfl)) (HP.eqO_ok (c.at 13 rfl)) (HP.eqO_ok (c.at 14 rfl)) (HP.eqO_ok (c.at 15 rfl)) (HP.eqO_ok (c.at 16 rfl)) (HP.eqO_ok (c.at 17 rfl)) (HP.eqO_ok (c.at 18 rfl)) (HP.eqO_ok (c.at 19 rfl)) (HP.eqO_ok (c.at 20 rfl)) (HP.eqO_ok (c.at 21 rfl)) (HP.eqO_ok (c.at 22 rfl)) (HP.eqO_ok (c.at 23 rfl)) (HP.eqO_ok (c.at 24 rfl)) (HP.eqO_ok (c.at 25 rfl)) (HP.eqO_ok (c.at 26 rfl)) (HP.eqO_ok (c.at 27 rfl)) (HP.eqO_ok (c.at 28 rfl)) (HP.eqO_ok (c.at 29 rfl)) (HP.eqO_ok (c.at 30 rfl)) (HP.eqO_ok (c.at 31 rfl)) (HP.eqO_ok (c.at 32 rfl)) (HP.eqO_ok (c.at 33 rfl)) (HP.eqO_ok (c.at 34 rfl)) (HP.eqO_ok (c.at 35 rfl)) (HP.eqO_ok (c.at 36 rfl)) (HP.eqO_ok (c.at 37 rfl)) (HP.eqO_ok (c.at 38 rfl)) (HP.eqO_ok (c.at 39 rfl)) (HP.eqO_ok (c.at 40 rfl)) (HP.eqO_ok (c.at 41 rfl)) (HP.eqO_ok (c.at 42 rfl)) (HP.eqO_ok (c.at 43 rfl)) (HP.eqO_ok (c.at 44 rfl)) (HP.eqO_ok (c.at 45 rfl)) (HP.eqO_ok (c.at 46 rfl)) (HP.eqO_ok (c.at 47 rfl)) (HP.eqO_ok (c.at 48 rfl)) (HP.eqO_ok (c.at 49 rfl)) (HP.eqO_ok (c.at 50 rfl)) (HP.eqO_ok (c.at 51 rfl)) (HP.eqO_ok (c.at 52 rfl)) (HP.eqO_ok (c.at 53 rfl)) (HP.eqO_ok (c.at 54 rfl)) (HP.eqO_ok (c.at 55 rfl)) (HP.eqO_ok (c.at 56 rfl)) (HP.eqO_ok (c.at 57 rfl)) (HP.eqO_ok (c.at 58 rfl)) (HP.eqO_ok (c.at 59 rfl)) (HP.eqO_ok (c.at 60 rfl)) (HP.eqO_ok (c.at 61 rfl)) (HP.eqO_ok (c.at 62 rfl)) (HP.eqO_ok (c.at 63 rfl)) (HP.eqO_ok (c.at 64 rfl)) (HP.eqO_ok (c.at 65 rfl)) l0 c_0 (c.at 68 rfl) l1 c_1 (c.at 71 rfl) l2 c_2 (c.at 74 rfl) l3 c_3 (c.at 77 rfl) l4 c_4 (c.at 80 rfl) l5 c_5 (c.at 83 rfl) l6 c_6 (c.at 86 rfl) l7 c_7 (c.at 89 rfl) l8 c_8 (c.at 92 rfl) l9 c_9 (c.at 95 rfl) (HP.eqO_ok (c.at 96 rfl)) (HP.eqO_ok (c.at 97 rfl)) (HP.eqO_ok (c.at 98 rfl)) (HP.eqO_ok (c.at 99 rfl)) (HP.eqO_ok (c.at 100 rfl)) (HP.eqO_ok (c.at 101 rfl)) (HP.eqO_ok (c.at 102 rfl)) (HP.eqO_ok (c.at 103 rfl)) (HP.eqO_ok (c.at 104 rfl)) (HP.eqO_ok (c.at 105 rfl)) (HP.eqO_ok (c.at 106 rfl)) (HP.eqO_ok (c.at 107 rfl)) (HP.eqO_ok (c.at 108 rfl)) (HP.eqO_ok (c.at 109 rfl)) (HP.eqO_ok (c.at 110 rfl)) (HP.eqB_ok (c.at 111 rfl)) (c.at 112 rfl) (HP.eqO_ok (c.at 113 rfl)) (HP.eqO_ok (c.at 114 rfl)) (HP.eqO_ok (c.at 115 rfl)) (HP.eqB_ok (c.at 116 rfl)) (c.at 117 rfl) (HP.eqO_ok (c.at 118 rfl)) (HP.eqO_ok (c.at 119 rfl)) (HP.eqO_ok (c.at 120 rfl)) (HP.eqB_ok (c.at 121 rfl)) (c.at 122 rfl) (HP.eqO_ok (c.at 123 rfl)) (HP.eqO_ok (c.at 124 rfl)) (HP.eqO_ok (c.at 125 rfl)) (HP.eqB_ok (c.at 126 rfl)) (c.at 127 rfl) (HP.eqO_ok (c.at 128 rfl)) (HP.eqO_ok (c.at 129 rfl)) (HP.eqO_ok (c.at 130 rfl)) (HP.eqB_ok (c.at 131 rfl)) (c.at 132 rfl) (HP.eqO_ok (c.at 133 rfl)) (HP.eqO_ok (c.at 134 rfl)) (HP.eqO_ok (c.at 135 rfl)) (HP.eqB_ok (c.at 136 rfl)) (c.at 137 rfl) (HP.eqO_ok (c.at 138 rfl)) (HP.eqO_ok (c.at 139 rfl)) (HP.eqO_ok (c.at 140 rfl)) (HP.eqB_ok (c.at 141 rfl)) (c.at 142 rfl) (HP.eqO_ok (c.at 143 rfl)) (HP.eqO_ok (c.at 144 rfl)) (HP.eqO_ok (c.at 145 rfl)) (HP.eqB_ok (c.at 146 rfl)) (c.at 147 rfl) (HP.eqO_ok (c.at 148 rfl)) (HP.eqO_ok (c.at 149 rfl)) (HP.eqO_ok (c.at 150 rfl)) (HP.eqB_ok (c.at 151 rfl)) (c.at 152 rfl) (HP.eqO_ok (c.at 153 rfl)) (HP.eqO_ok (c.at 154 rfl)) (HP.eqO_ok (c.at 155 rfl)) (HP.eqB_ok (c.at 156 rfl)) (c.at 157 rfl) (HP.eqO_ok (c.at 158 rfl)) (HP.eqO_ok (c.at 159 rfl)) (HP.eqO_ok (c.at 160 rfl)) (HP.eqB_ok (c.at 161 rfl)) (c.at 162 rfl) (HP.eqO_ok (c.at 163 rfl)) (HP.eqO_ok (c.at 164 rfl)) (HP.eqO_ok (c.at 165 rfl)) (HP.eqB_ok (c.at 166 rfl)) (c.at 167 rfl) (HP.eqO_ok (c.at 168 rfl)) (HP.eqO_ok (c.at 169 rfl)) (HP.eqO_ok (c.at 170 rfl)) (HP.eqB_ok (c.at 171 rfl)) (c.at 172 rfl) (HP.eqO_ok (c.at 173 rfl)) (HP.eqO_ok (c.at 174 rfl)) (HP.eqO_ok (c.at 175 rfl)) (HP.eqB_ok (c.at 176 rfl)) (c.at 177 rfl) (HP.eqO_ok (c.at 178 rfl)) (HP.eqO_ok (c.at 179 rfl)) (HP.eqO_ok (c.at 180 rfl)) (HP.eqB_ok (c.at 181 rfl)) (c.at 182 rfl) (HP.eqO_ok (c.at 183 rfl)) (HP.eqO_ok (c.at 184 rfl)) (HP.eqO_ok (c.at 185 rfl)) (HP.eqB_ok (c.at 186 rfl)) (c.at 187 rfl) (HP.eqO_ok (c.at 188 rfl)) (HP.eqO_ok (c.at 189 rfl)) (HP.eqO_ok (c.at 190 rfl)) (HP.eqB_ok (c.at 191 rfl)) (c.at 192 rfl) (HP.eqO_ok (c.at 193 rfl)) (HP.eqO_ok (c.at 194 rfl)) (HP.eqO_ok (c.at 195 rfl)) (HP.eqB_ok (c.at 196 rfl)) (c.at 197 rfl) (HP.eqO_ok (c.at 198 rfl)) (HP.eqO_ok (c.at 199 rfl)) (HP.eqO_ok (c.at 200 rfl)) (HP.eqB_ok (c.at 201 rfl)) (c.at 202 rfl) (HP.eqO_ok (c.at 203 rfl)) (HP.eqO_ok (c.at 204 rfl)) (HP.eqO_ok (c.at 205 rfl)) (HP.eqB_ok (c.at 206 rfl)) (c.at 207 rfl) (HP.eqO_ok (c.at 208 rfl)) (HP.eqO_ok (c.at 209 rfl)) (HP.eqO_ok (c.at 210 rfl)) (HP.eqB_ok (c.at 211 rfl)) (c.at 212 rfl) (HP.eqO_ok (c.at 213 rfl)) (HP.eqO_ok (c.at 214 rfl)) (HP.eqO_ok (c.at 215 rfl)) (HP.eqB_ok (c.at 216 rfl)) (c.at 217 rfl) (HP.eqO_ok (c.at 218 rfl)) (HP.eqO_ok (c.at 219 rfl)) (HP.eqO_ok (c.at 220 rfl)) (HP.eqB_ok (c.at 221 rfl)) (c.at 222 rfl) (HP.eqO_ok (c.at 223 rfl)) (HP.eqO_ok (c.at 224 rfl)) (HP.eqO_ok (c.at 225 rfl)) (HP.eqB_ok (c.at 226 rfl)) (c.at 227 rfl) (HP.eqO_ok (c.at 228 rfl)) (HP.eqO_ok (c.at 229 rfl)) (HP.eqO_ok (c.at 230 rfl)) (HP.eqB_ok (c.at 231 rfl)) (c.at 232 rfl) (HP.eqO_ok (c.at 233 rfl)) (HP.eqO_ok (c.at 234 rfl)) (HP.eqO_ok (c.at 235 rfl)) (HP.eqB_ok (c.at 236 rfl)) (c.at 237 rfl) (HP.eqO_ok (c.at 238 rfl)) (c.at 239 rfl) (c.at 240 rfl) (c.at 241 rfl) (c.at 242 rfl) (c.at 243 rfl) (c.at 244 rfl) (c.at 245 rfl) (c.at 246 rfl) (c.at 247 rfl) (c.at 248 rfl) (c.at 249 rfl) (c.at 250 rfl) (c.at 251 rfl) (c.at 252 rfl) (c.at 253 rfl) (c.at 254 rfl) (c.at 255 rfl) (c.at 256 rfl) (c.at 257 rfl) (c.at 258 rfl) (c.at 259 rfl) (c.at 260 rfl) (c.at 261 rfl) (c.at 262 rfl) (c.at 263 rfl) (c.at 264 rfl) (c.at 265 rfl) (c.at 266 rfl) (c.at 267 rfl) (c.at 268 rfl) (c.at 269 rfl) (c.at 270 rfl) (HP.eqO_ok (c.at 271 rfl)) (HP.eqO_ok (c.at 272 rfl)) (HP.eqO_ok (c.at 273 rfl)) (HP.eqO_ok (c.at 274 rfl)) (HP.eqO_ok (c.at 275 rfl)) (HP.eqO_ok (c.at 276 rfl)) (HP.eqO_ok (c.at 277 rfl)) (HP.eqO_ok (c.at 278 rfl)) (HP.eqO_ok (c.at 279 rfl)) (HP.eqO_ok (c.at 280 rfl)) (HP.eqO_ok (c.at 281 rfl)) (HP.eqO_ok (c.at 282 rfl)) (HP.eqO_ok (c.at 283 rfl)) (HP.eqO_ok (c.at 284 rfl)) (HP.eqO_ok (c.at 285 rfl)) (HP.eqO_ok (c.at 286 rfl)) (HP.eqO_ok (c.at 287 rfl)) (HP.eqO_ok (c.at 288 rfl)) (HP.eqO_ok (c.at 289 rfl)) (HP.eqO_ok (c.at 290 rfl)) (HP.eqO_ok (c.at 291 rfl)) (c.at 292 rfl) (c.at 293 rfl) (c.at 294 rfl) (c.at 295 rfl) (c.at 296 rfl) (c.at 297 rfl) (c.at 298 rfl) (c.at 299 rfl) (c.at 300 rfl) (c.at 301 rfl) (c.at 302 rfl) (c.at 303 rfl) (c.at 304 rfl) (c.at 305 rfl) (c.at 306 rfl) (c.at 307 rfl) (c.at 308 rfl) (c.at 309 rfl) (c.at 310 rfl) (c.at 311 rfl) (c.at 312 rfl) (c.at 313 rfl) (c.at 314 rfl) (c.at 315 rfl) (c.at 316 rfl) (c.at 317 rfl) (by first | rfl | decide +kernel | kernel_rfl) (HP.eqO_ok (c.at 318 rfl)) elk0 (HP.eqV_ok (c.at 320 rfl)) (c.at 321 rfl) (c.at 322 rfl) (c.at 323 rfl) (HP.eqO_ok (c.at 324 rfl)) (HP.eqB_ok (c.at 325 rfl)) (HP.eqB_ok (c.at 326 rfl)) (HP.eqV_ok (c.at 327 rfl)) (c.at 328 rfl) (HP.eqO_ok (c.at 329 rfl)) (c.at 330 rfl) exl0 exfa0 exfb0 exfc0 (HP.eqB_ok (c.at 333 rfl)) (HP.eqO_ok (c.at 334 rfl)) (HP.eqO_ok (c.at 335 rfl)) elk1 (HP.eqV_ok (c.at 337 rfl)) (c.at 338 rfl) (c.at 339 rfl) (c.at 340 rfl) (HP.eqO_ok (c.at 341 rfl)) (HP.eqB_ok (c.at 342 rfl)) (HP.eqB_ok (c.at 343 rfl)) (HP.eqV_ok (c.at 344 rfl)) (c.at 345 rfl) (HP.eqO_ok (c.at 346 rfl)) (c.at 347 rfl) exl1 exfa1 exfb1 exfc1 (HP.eqB_ok (c.at 350 rfl)) (HP.eqO_ok (c.at 351 rfl)) (HP.eqO_ok (c.at 352 rfl)) elk2 (HP.eqV_ok (c.at 354 rfl)) (c.at 355 rfl) (c.at 356 rfl) (c.at 357 rfl) (HP.eqO_ok (c.at 358 rfl)) (HP.eqB_ok (c.at 359 rfl)) (HP.eqB_ok (c.at 360 rfl)) (HP.eqV_ok (c.at 361 rfl)) (c.at 362 rfl) (HP.eqO_ok (c.at 363 rfl)) (c.at 364 rfl) exl2 exfa2 exfb2 exfc2 (HP.eqB_ok (c.at 367 rfl)) (HP.eqO_ok (c.at 368 rfl)) (HP.eqO_ok (c.at 369 rfl)) elk3 (HP.eqV_ok (c.at 371 rfl)) (c.at 372 rfl) (c.at 373 rfl) (c.at 374 rfl) (HP.eqO_ok (c.at 375 rfl)) (HP.eqB_ok (c.at 376 rfl)) (HP.eqB_ok (c.at 377 rfl)) (HP.eqV_ok (c.at 378 rfl)) (c.at 379 rfl) (HP.eqO_ok (c.at 380 rfl)) (c.at 381 rfl) exl3 exfa3 exfb3 exfc3 (HP.eqB_ok (c.at 384 rfl)) (HP.eqO_ok (c.at 385 rfl)) (HP.eqO_ok (c.at 386 rfl)) elk4 (HP.eqV_ok (c.at 388 rfl)) (c.at 389 rfl) (c.at 390 rfl) (c.at 391 rfl) (HP.eqO_ok (c.at 392 rfl)) (HP.eqB_ok (c.at 393 rfl)) (HP.eqB_ok (c.at 394 rfl)) (HP.eqV_ok (c.at 395 rfl)) (c.at 396 rfl) (HP.eqO_ok (c.at 397 rfl)) (c.at 398 rfl) exl4 exfa4 exfb4 exfc4 (HP.eqB_ok (c.at 401 rfl)) (HP.eqO_ok (c.at 402 rfl)) (HP.eqO_ok (c.at 403 rfl)) elk5 (HP.eqV_ok (c.at 405 rfl)) (c.at 406 rfl) (c.at 407 rfl) (c.at 408 rfl) (HP.eqO_ok (c.at 409 rfl)) (HP.eqB_ok (c.at 410 rfl)) (HP.eqB_ok (c.at 411 rfl)) (HP.eqV_ok (c.at 412 rfl)) (c.at 413 rfl) (HP.eqO_ok (c.at 414 rfl)) (c.at 415 rfl) exl5 exfa5 exfb5 exfc5 (HP.eqB_ok (c.at 418 rfl)) (HP.eqO_ok (c.at 419 rfl)) (HP.eqO_ok (c.at 420 rfl)) elk6 (HP.eqV_ok (c.at 422 rfl)) (c.at 423 rfl) (c.at 424 rfl) (c.at 425 rfl) (HP.eqO_ok (c.at 426 rfl)) (HP.eqB_ok (c.at 427 rfl)) (HP.eqB_ok (c.at 428 rfl)) (HP.eqV_ok (c.at 429 rfl)) (c.at 430 rfl) (HP.eqO_ok (c.at 431 rfl)) (c.at 432 rfl) exl6 exfa6 exfb6 exfc6 (HP.eqB_ok (c.at 435 rfl)) (HP.eqO_ok (c.at 436 rfl)) (HP.eqO_ok (c.at 437 rfl)) elk7 (HP.eqV_ok (c.at 439 rfl)) (c.at 440 rfl) (c.at 441 rfl) (c.at 442 rfl) (HP.eqO_ok (c.at 443 rfl)) (HP.eqB_ok (c.at 444 rfl)) (HP.eqB_ok (c.at 445 rfl)) (HP.eqV_ok (c.at 446 rfl)) (c.at 447 rfl) (HP.eqO_ok (c.at 448 rfl)) (c.at 449 rfl) exl7 exfa7 exfb7 exfc7 (HP.eqB_ok (c.at 452 rfl)) (HP.eqO_ok (c.at 453 rfl)) (HP.eqO_ok (c.at 454 rfl)) elk8 (HP.eqV_ok (c.at 456 rfl)) (c.at 457 rfl) (c.at 458 rfl) (c.at 459 rfl) (HP.eqO_ok (c.at 460 rfl)) (HP.eqB_ok (c.at 461 rfl)) (HP.eqB_ok (c.at 462 rfl)) (HP.eqV_ok (c.at 463 rfl)) (c.at 464 rfl) (HP.eqO_ok (c.at 465 rfl)) (c.at 466 rfl) exl8 exfa8 exfb8 exfc8 (HP.eqB_ok (c.at 469 rfl)) (HP.eqO_ok (c.at 470 rfl)) (HP.eqO_ok (c.at 471 rfl)) elk9 (HP.eqV_ok (c.at 473 rfl)) (c.at 474 rfl) (c.at 475 rfl) (c.at 476 rfl) (HP.eqO_ok (c.at 477 rfl)) (HP.eqB_ok (c.at 478 rfl)) (HP.eqB_ok (c.at 479 rfl)) (HP.eqV_ok (c.at 480 rfl)) (c.at 481 rfl) (HP.eqO_ok (c.at 482 rfl)) (c.at 483 rfl) exl9 exfa9 exfb9 exfc9 (HP.eqB_ok (c.at 486 rfl)) (HP.eqO_ok (c.at 487 rfl)) (HP.eqO_ok (c.at 488 rfl)) elk10 (HP.eqV_ok (c.at 490 rfl)) (c.at 491 rfl) (c.at 492 rfl) (c.at 493 rfl) (HP.eqO_ok (c.at 494 rfl)) (HP.eqB_ok (c.at 495 rfl)) (HP.eqB_ok (c.at 496 rfl)) (HP.eqV_ok (c.at 497 rfl)) (c.at 498 rfl) (HP.eqO_ok (c.at 499 rfl)) (c.at 500 rfl) exl10 exfa10 exfb10 exfc10 (HP.eqB_ok (c.at 503 rfl)) (HP.eqO_ok (c.at 504 rfl)) (HP.eqO_ok (c.at 505 rfl)) elk11 (HP.eqV_ok (c.at 507 rfl)) (c.at 508 rfl) (c.at 509 rfl) (c.at 510 rfl) (HP.eqO_ok (c.at 511 rfl)) (HP.eqB_ok (c.at 512 rfl)) (HP.eqB_ok (c.at 513 rfl)) (HP.eqV_ok (c.at 514 rfl)) (c.at 515 rfl) (HP.eqO_ok (c.at 516 rfl)) (c.at 517 rfl) exl11 exfa11 exfb11 exfc11 (HP.eqB_ok (c.at 520 rfl)) (HP.eqO_ok (c.at 521 rfl)) (HP.eqO_ok (c.at 522 rfl)) elk12 (HP.eqV_ok (c.at 524 rfl)) (c.at 525 rfl) (c.at 526 rfl) (c.at 527 rfl) (HP.eqO_ok (c.at 528 rfl)) (HP.eqB_ok (c.at 529 rfl)) (HP.eqB_ok (c.at 530 rfl)) (HP.eqV_ok (c.at 531 rfl)) (c.at 532 rfl) (HP.eqO_ok (c.at 533 rfl)) (c.at 534 rfl) exl12 exfa12 exfb12 exfc12 (HP.eqB_ok (c.at 537 rfl)) (HP.eqO_ok (c.at 538 rfl)) (HP.eqO_ok (c.at 539 rfl)) elk13 (HP.eqV_ok (c.at 541 rfl)) (c.at 542 rfl) (c.at 543 rfl) (c.at 544 rfl) (HP.eqO_ok (c.at 545 rfl)) (HP.eqB_ok (c.at 546 rfl)) (HP.eqB_ok (c.at 547 rfl)) (HP.eqV_ok (c.at 548 rfl)) (c.at 549 rfl) (HP.eqO_ok (c.at 550 rfl)) (c.at 551 rfl) exl13 exfa13 exfb13 exfc13 (HP.eqB_ok (c.at 554 rfl)) (HP.eqO_ok (c.at 555 rfl)) (HP.eqO_ok (c.at 556 rfl)) elk14 (HP.eqV_ok (c.at 558 rfl)) (c.at 559 rfl) (c.at 560 rfl) (c.at 561 rfl) (HP.eqO_ok (c.at 562 rfl)) (HP.eqB_ok (c.at 563 rfl)) (HP.eqB_ok (c.at 564 rfl)) (HP.eqV_ok (c.at 565 rfl)) (c.at 566 rfl) (HP.eqO_ok (c.at 567 rfl)) (c.at 568 rfl) exl14 exfa14 exfb14 exfc14 (HP.eqB_ok (c.at 571 rfl)) (HP.eqO_ok (c.at 572 rfl)) (HP.eqO_ok (c.at 573 rfl)) elk15 (HP.eqV_ok (c.at 575 rfl)) (c.at 576 rfl) (c.at 577 rfl) (c.at 578 rfl) (HP.eqO_ok (c.at 579 rfl)) (HP.eqB_ok (c.at 580 rfl)) (HP.eqB_ok (c.at 581 rfl)) (HP.eqV_ok (c.at 582 rfl)) (c.at 583 rfl) (HP.eqO_ok (c.at 584 rfl)) (c.at 585 rfl) exl15 exfa15 exfb15 exfc15 (HP.eqB_ok (c.at 588 rfl)) (HP.eqO_ok (c.at 589 rfl)) (HP.eqO_ok (c.at 590 rfl)) elk16 (HP.eqV_ok (c.at 592 rfl)) (c.at 593 rfl) (c.at 594 rfl) (c.at 595 rfl) (HP.eqO_ok (c.at 596 rfl)) (HP.eqB_ok (c.at 597 rfl)) (HP.eqB_ok (c.at 598 rfl)) (HP.eqV_ok (c.at 599 rfl)) (c.at 600 rfl) (HP.eqO_ok (c.at 601 rfl)) (c.at 602 rfl) exl16 exfa16 exfb16 exfc16 (HP.eqB_ok (c.at 605 rfl)) (HP.eqO_ok (c.at 606 rfl)) elk17 (HP.eqV_ok (c.at 608 rfl)) (c.at 609 rfl) (c.at 610 rfl) (c.at 611 rfl) (HP.eqO_ok (c.at 612 rfl)) (HP.eqB_ok (c.at 613 rfl)) (HP.eqB_ok (c.at 614 rfl)) (HP.eqV_ok (c.at 615 rfl)) (c.at 616 rfl) (HP.eqO_ok (c.at 617 rfl)) (c.at 618 rfl) exl17 exfa17 exfb17 exfc17 (HP.eqB_ok (c.at 621 rfl)) (HP.eqO_ok (c.at 622 rfl)) elk18 (HP.eqV_ok (c.at 624 rfl)) (c.at 625 rfl) (c.at 626 rfl) (c.at 627 rfl) (HP.eqO_ok (c.at 628 rfl)) (HP.eqB_ok (c.at 629 rfl)) (HP.eqB_ok (c.at 630 rfl)) (HP.eqV_ok (c.at 631 rfl)) (c.at 632 rfl) (HP.eqO_ok (c.at 633 rfl)) (c.at 634 rfl) exl18 exfa18 exfb18 exfc18 (HP.eqB_ok (c.at 637 rfl)) (HP.eqO_ok (c.at 638 rfl)) elk19 (HP.eqV_ok (c.at 640 rfl)) (c.at 641 rfl) (c.at 642 rfl) (c.at 643 rfl) (HP.eqO_ok (c.at 644 rfl)) (HP.eqB_ok (c.at 645 rfl)) (HP.eqB_ok (c.at 646 rfl)) (HP.eqV_ok (c.at 647 rfl)) (c.at 648 rfl) (HP.eqO_ok (c.at 649 rfl)) (c.at 650 rfl) exl19 exfa19 exfb19 exfc19 (HP.eqB_ok (c.at 653 rfl)) (HP.eqO_ok (c.at 654 rfl)) elk20 (HP.eqV_ok (c.at 656 rfl)) (c.at 657 rfl) (c.at 658 rfl) (c.at 659 rfl) (HP.eqO_ok (c.at 660 rfl)) (HP.eqB_ok (c.at 661 rfl)) (HP.eqB_ok (c.at 662 rfl)) (HP.eqV_ok (c.at 663 rfl)) (c.at 664 rfl) (HP.eqO_ok (c.at 665 rfl)) (c.at 666 rfl) exl20 exfa20 exfb20 exfc20 (HP.eqB_ok (c.at 669 rfl)) (HP.eqO_ok (c.at 670 rfl)) (HP.eqO_ok (c.at 671 rfl)) elk21 (HP.eqV_ok (c.at 673 rfl)) (c.at 674 rfl) (c.at 675 rfl) (c.at 676 rfl) (HP.eqO_ok (c.at 677 rfl)) (HP.eqB_ok (c.at 678 rfl)) (HP.eqB_ok (c.at 679 rfl)) (HP.eqV_ok (c.at 680 rfl)) (c.at 681 rfl) (HP.eqO_ok (c.at 682 rfl)) (c.at 683 rfl) exl21 exfa21 exfb21 exfc21 (HP.eqB_ok (c.at 686 rfl)) (HP.eqO_ok (c.at 687 rfl)) (HP.eqO_ok (c.at 688 rfl)) elk22 (HP.eqV_ok (c.at 690 rfl)) (c.at 691 rfl) (c.at 692 rfl) (c.at 693 rfl) (HP.eqO_ok (c.at 694 rfl)) (HP.eqB_ok (c.at 695 rfl)) (HP.eqB_ok (c.at 696 rfl)) (HP.eqV_ok (c.at 697 rfl)) (c.at 698 rfl) (HP.eqO_ok (c.at 699 rfl)) (c.at 700 rfl) exl22 exfa22 exfb22 exfc22 (HP.eqB_ok (c.at 703 rfl)) (HP.eqO_ok (c.at 704 rfl)) (HP.eqO_ok (c.at 705 rfl)) elk23 (HP.eqV_ok (c.at 707 rfl)) (c.at 708 rfl) (c.at 709 rfl) (c.at 710 rfl) (HP.eqO_ok (c.at 711 rfl)) (HP.eqB_ok (c.at 712 rfl)) (HP.eqB_ok (c.at 713 rfl)) (HP.eqV_ok (c.at 714 rfl)) (c.at 715 rfl) (HP.eqO_ok (c.at 716 rfl)) (c.at 717 rfl) exl23 exfa23 exfb23 exfc23 (HP.eqB_ok (c.at 720 rfl)) (HP.eqO_ok (c.at 721 rfl)) (HP.eqO_ok (c.at 722 rfl)) elk24 (HP.eqV_ok (c.at 724 rfl)) (c.at 725 rfl) (c.at 726 rfl) (c.at 727 rfl) (HP.eqO_ok (c.at 728 rfl)) (HP.eqB_ok (c.at 729 rfl)) (HP.eqB_ok (c.at 730 rfl)) (HP.eqV_ok (c.at 731 rfl)) (c.at 732 rfl) (HP.eqO_ok (c.at 733 rfl)) (c.at 734 rfl) exl24 exfa24 exfb24 exfc24 (HP.eqB_ok (c.at 737 rfl)) (HP.eqO_ok (c.at 738 rfl)) (HP.eqO_ok (c.at 739 rfl)) elk25 (HP.eqV_ok (c.at 741 rfl)) (c.at 742 rfl) (c.at 743 rfl) (c.at 744 rfl) (HP.eqO_ok (c.at 745 rfl)) (HP.eqB_ok (c.at 746 rfl)) (HP.eqB_ok (c.at 747 rfl)) (HP.eqV_ok (c.at 748 rfl)) (c.at 749 rfl) (HP.eqO_ok (c.at 750 rfl)) (c.at 751 rfl) exl25 exfa25 exfb25 exfc25 (HP.eqB_ok (c.at 754 rfl)) (HP.eqO_ok (c.at 755 rfl)) (by simp) c.out c.hd (HP.tab_of (HP.eqO_ok (c.at 38 rfl)) l9 c.hd (HP.z_ok (c.at 0 rfl)))
end HE
open PySem PySem.W PySem.Calls PyProof.Rows
theorem PySem.Challenge.cw_plainsure_k01_errors_by_themselves_holds : PySem.Challenge.rw_plainsure_k01_errors_by_themselves.Holds := by
  w_on; o_law
  refine HandSHeadRun.head_any (r := OpenLaw.row PySem.Challenge.rw_plainsure_k01_errors_by_themselves) (q := HE.qv) (H := HE.hk) (ob := HE.ob) (M := 60000) (loose := HE.names) (d := HandSHeadRun.topDef (OpenLaw.row PySem.Challenge.rw_plainsure_k01_errors_by_themselves).prog 39) (kwd := []) HE.ob_eq
    (by kernel_rfl) (fun s => by kernel_rfl) HE.run (by kernel_rfl) (by kernel_rfl) (by kernel_rfl) (by rfl) (by first | assumption | decide +kernel) (by decide +kernel) ⟨rfl, rfl, rfl, rfl, rfl, by decide +kernel⟩ ?hw ?hc
  case hw => w_witness2
  case hc =>
    refine LamX.walk_ofTsE (l := PySem.Challenge.rw_plainsure_k01_errors_by_themselves) (n := 63) (k := 41) (x := "_law_script") (CX := fun w => PD.CXq (PySem.Challenge.rw_plainsure_k01_errors_by_themselves).prog w) rfl (by decide) (by kernel_rfl) ⟨rfl, by decide, by decide⟩ ?F ?E
    case F =>
      intro w mg fa h Y G hmg0
      obtain ⟨K, KX, c⟩ := Y
      have hmg : mg ("law" : PySem.Str) = some (.ref fa) := by
        have e : (HandSHeadRun.topDef (OpenLaw.row PySem.Challenge.rw_plainsure_k01_errors_by_themselves).prog 39).name = ("law" : PySem.Str) := by kernel_rfl
        rw [← e]
        exact hmg0
      exact ⟨K, KX, HE.facts KX G hmg c⟩
    case E =>
      intro w H s e s' h
      obtain ⟨_, _, _, _, _, _, _, _, _, _, _, _, z⟩ := h
      exact z
