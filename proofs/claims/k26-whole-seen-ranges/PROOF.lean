import PyProof.Rows.All
import Wide.All
import OpenK.AllK
import Wide.FinOn
import HandS.ForMost
import HandS.ForExc
import HandS.HotCalls
import HandS.ExcInit
import HandS.ExcInitHot
import HandS.ExcField
import KE.KExcIs
import HandS.TupAny
import HandS.Star
import HandS.IsInst
import HandS.TupMul
import HandS.Zip
import HandS.Style
import PyProof.TupleOfSeq
import KE.GoesEnum
import HandS.Conv
import HandS.IsInst
import HandS.TupLe
import KE.GoesMore
import KE.KDictZip
import HandS.GenCall
import HandS.GenYield
import HandS.GenList
import PyProof.ZipIter
import PyProof.MeetsSeq2
import HandS.Zip
import KE.KStar
import HandS.Star
import HandS.Deep
import HandS.MakeKwOnly
import PyProof.RowDictHeap
import HandS.Property
import PyProof.StrLawsRepr
import KE.KUnpackStar
import PyProof.RulesMatch
import KE.KCallOwn
import HandS.FStr
import KE.KStateDown
import HandS.Head0
import HandS.Head1
import HandS.Head2
import HandS.HeadHook1
import HandS.HeadHook2
import HandS.HeadHook3
import KE.KExcInit
import PyProof.ExcBaseAll.LookupError
import HandS.SetFor
import HandS.Text
import HandS.Iter
import HandS.Flow
import HandS.Codes
import HandS.HeadNt
import HandS.MethStar
import KE.KSuper
import PyProof.Rows.RegReprOcc
import KE.KIntText
import KE.DataMinMax
import KE.DataFind
import KE.KOpsOwn
import PyProof.InstNe
import HandS.RaiseFrom
import HandS.Finally
import HandS.Lambda
import HandS.Nested
import KE.KNestM
import KE.KWithOwn
import HandS.Wide
import KE.SortData
import HandS.Strs
import HandS.TupSets
import PyProof.AutoSeq1
import PyProof.EqKinds
import PyProof.FString3
import PyProof.Rows.StrIntSpec
import HandS.Replace
import HandS.ReplaceLit
import HandS.JoinGen
import HandS.Conv
import KE.KDictPairs
import KE.KDictDisplayH
import PyProof.Rows.TupDisplay
import PySem.Challenge.RW_marktopples_k26_whole_seen_ranges
set_option Elab.async false
set_option linter.all false
set_option maxRecDepth 100000
namespace DL
open PySem PySem.Spec PyProof.Rows L2
def markObj (P : Addr) (q : Str) : Obj := { cls := .none, data := .fields #[.ref P, .str q 0] }
def markOf : Obj → Option (Addr × Str)
  | ⟨.none, none, .fields ⟨[.ref P, .str q _]⟩, _⟩ => some (P, q)
  | _ => none
def Tk (K : PySem.W.Frag) : List (Addr × Str) := K.filterMap fun q => markOf q.2
/-- a list of addresses, each written out -/
def frL {α : Type} : List Addr → (List Addr → α) → α
  | [], k => k []
  | a :: r, k => HandSHeadRun.frNat a fun a => frL r fun r => k (a :: r)
/-- a list, its cells written out -/
def frC {α β : Type} : List α → (List α → β) → β
  | [], k => k []
  | a :: r, k => frC r fun r => k (a :: r)
theorem frC_eq {α β : Type} : ∀ (l : List α) (k : List α → β), frC l k = k l
  | [], _ => rfl
  | a :: r, k => by
    show frC r (fun r => k (a :: r)) = _
    rw [frC_eq r]
def frObj {β : Type} (o : Obj) (k : Obj → β) : β := match o with
  | ⟨c, d, .dict es n, sl⟩ => frC es.toList fun l => k ⟨c, d, .dict ⟨l⟩ n, sl⟩
  | o => k o
theorem frObj_eq {β : Type} (o : Obj) (k : Obj → β) : frObj o k = k o := by
  obtain ⟨c, d, dt, sl⟩ := o
  cases dt <;> first | rfl | exact frC_eq _ _
/-- the objects at these addresses -/
def frK {β : Type} (g : Addr → Option Obj) : List Addr → (PySem.W.Frag → β) → β
  | [], k => k []
  | a :: r, k => match g a with
    | some o => frObj o fun o => frK g r fun K => k ((a, o) :: K)
    | none => frK g r k
theorem frK_eq {β : Type} (g : Addr → Option Obj) : ∀ (as : List Addr) (k : PySem.W.Frag → β), frK g as k = k (He.frG g as)
  | [], _ => rfl
  | a :: r, k => by
    show (match g a with
      | some o => frObj o fun o => frK g r fun K => k ((a, o) :: K)
      | none => frK g r k) = _
    unfold He.frG
    rw [List.filterMap_cons]
    cases e : g a with
    | some o =>
      show frObj o (fun o => frK g r fun K => k ((a, o) :: K)) = _
      rw [frObj_eq, frK_eq g r] <;> rfl
    | none =>
      show frK g r k = _
      rw [frK_eq g r] <;> rfl
/-- what an object names: a dict's entries of these names alone, a property's getter -/
def refsM (ms : List Str) (o : Obj) : List Addr := match o.data with
  | .func fd => He.refV fd.code ++ He.refV fd.kwdefaults ++ fd.closure.map (·.2)
  | .cls cd => cd.ns :: cd.mro.flatMap He.refV
  | .dict es _ => es.toList.flatMap fun e => match ms.any fun m => e.key.isStr m with
    | true => He.refV e.val
    | false => []
  | .fields vs => (match o.cls with
    | .type t => (match (decide (t = "property") || decide (t = "classmethod")) with
      | true => vs.toList.flatMap He.refV
      | false => [])
    | _ => [])
  | _ => []
def memA (a : Addr) : List Addr → Bool
  | [] => false
  | b :: r => Nat.beq a b || memA a r
def addA : List Addr → List Addr → List Addr
  | [], acc => acc
  | a :: r, acc => match memA a acc with
    | true => addA r acc
    | false => addA r (acc ++ [a])
/-- n steps on from these addresses -/
def walkA (g : Addr → Option Obj) (ms : List Str) : Nat → List Addr → List Addr
  | 0, as => as
  | n + 1, as => frL (addA (as.flatMap fun a => match g a with
    | some o => refsM ms o
    | none => []) as) fun as => walkA g ms n as
/-- the module's names xs, and what is reached from them -/
def asH (g : Addr → Option Obj) (xs ms : List Str) : List Addr := frK g [mainGlobals] fun K0 => frL (xs.map fun x => He.ga K0 x) fun as => sysModules :: cStatics :: mainGlobals :: walkA g ms 4 (addA as [])
structure HDef where
  at_ : PySem.W.Frag → Addr
  name : Str
  qual : Str
  st : Stmt
  kwd : List (Str × He.Dv) := []
  clo : List Str := []
def HDef.kws (K : PySem.W.Frag) (d : HDef) : List (Str × V) := d.kwd.map fun q => (q.1, q.2.v K)
def fnH (K : PySem.W.Frag) (a : Addr) : He.FnW := match K.lookup a with
  | some ⟨_, _, .func fd, _⟩ => some (fd.name, fd.qualname, fd.params, fd.body, fd.scope, fd.globals, fd.closure.map fun q => (q.1, 0), fd.builtins)
  | _ => none
def HDef.val (d : HDef) : He.FnW := some (d.name, d.qual, defArgs d.st, .stmts (defBody d.st), defScope d.st, mainGlobals, d.clo.map fun x => (x, 0), builtinsNs)
def HDef.ok (K : PySem.W.Frag) (d : HDef) : Bool := PySem.W.keepIn K (.ref (d.at_ K)) && (match K.lookup (d.at_ K) with
  | some ⟨_, _, .func fd, _⟩ => PySem.W.codeIn K fd.code d.qual && (He.dflB K fd.defaults [] && He.kwdB K fd.kwdefaults (d.kws K))
  | _ => false)
theorem HDef.funD {K : PySem.W.Frag} {d : HDef} (hcl : d.clo = []) (e : fnH K (d.at_ K) = d.val) (c : d.ok K = true) : ∃ fd, FunD K d.name d.qual (defArgs d.st) (defBody d.st) (defScope d.st) [] (d.kws K) (d.at_ K) fd := by
  obtain ⟨kp, c2⟩ := He.ba c
  unfold fnH at e
  cases q : K.lookup (d.at_ K) with
  | none =>
    rw [q] at c2
    cases c2
  | some o =>
    obtain ⟨oc, od, dt, osl⟩ := o
    rw [q] at c2 e
    cases dt with
    | func fd =>
      obtain ⟨n1, n2, n3, n4, n5, n6, n7, n8, n9, n10, n11, n12, n13, n14, n15⟩ := fd
      have e2 : (some (n1, n2, n3, n4, n5, n6, n7.map fun q => (q.1, 0), n15) : He.FnW) = some (d.name, d.qual, defArgs d.st, .stmts (defBody d.st), defScope d.st, mainGlobals, d.clo.map fun x => (x, 0), builtinsNs) := e
      simp only [Option.some.injEq, Prod.mk.injEq] at e2
      obtain ⟨h1, h2, h3, h4, h5, h6, h7', h8⟩ := e2
      have h7 : n7 = [] := by
        rw [hcl, List.map_nil] at h7'
        exact List.map_eq_nil_iff.mp h7'
      subst h1 h2 h3 h4 h5 h6 h7 h8
      have c3 : (PySem.W.codeIn K n13 d.qual && (He.dflB K n8 [] && He.kwdB K n9 (d.kws K))) = true := c2
      obtain ⟨k1, k2⟩ := He.ba c3
      obtain ⟨k3, k4⟩ := He.ba k2
      exact ⟨_, ⟨oc, od, n8, n9, n10, n11, n12, n13, n14, osl, rfl, q, k1, He.dflB_ok k3, He.kwdB_ok k4⟩, kp⟩
    | _ => cases c2
theorem fun_ofD {K : PySem.W.Frag} {x qual : Str} {st : Stmt} {kws : List (Str × V)} {f : Addr} {fd : FuncData} (F : FunD K x qual (defArgs st) (defBody st) (defScope st) [] kws f fd) : Fun K x qual st f fd := by
  obtain ⟨oc, od, dV, kV, doc, pm, an, cdv, ct, osl, e, lk, hc, hd, _⟩ := F.ex
  obtain rfl : dV = .none := by
    rcases hd with ⟨_, h⟩ | ⟨h, _⟩
    · exact h
    · exact absurd rfl h
  exact ⟨⟨oc, od, kV, doc, pm, an, cdv, ct, osl, e, lk, hc⟩, F.kp⟩
/-- objects that look like marks are left out -/
def noMk {β : Type} : PySem.W.Frag → (PySem.W.Frag → β) → β
  | [], k => k []
  | q :: r, k => match markOf q.2 with
    | none => noMk r fun K => k (q :: K)
    | some _ => noMk r k
def cutMk : PySem.W.Frag → PySem.W.Frag
  | [] => []
  | q :: r => match markOf q.2 with
    | none => q :: cutMk r
    | some _ => cutMk r
theorem noMk_eq {β : Type} : ∀ (K : PySem.W.Frag) (k : PySem.W.Frag → β), noMk K k = k (cutMk K)
  | [], _ => rfl
  | q :: r, k => by
    unfold noMk cutMk
    cases markOf q.2 with
    | none => exact noMk_eq r _
    | some _ => exact noMk_eq r _
def appMk {β : Type} : PySem.W.Frag → PySem.W.Frag → (PySem.W.Frag → β) → β
  | [], m, k => k m
  | q :: r, m, k => appMk r m fun K => k (q :: K)
theorem appMk_eq {β : Type} : ∀ (K m : PySem.W.Frag) (k : PySem.W.Frag → β), appMk K m k = k (K ++ m)
  | [], _, _ => rfl
  | q :: r, m, k => by
    unfold appMk
    rw [appMk_eq r] <;> rfl
/-- a def's code object, its table, the name of its lambdas -/
def tabAt (K : PySem.W.Frag) (f : Addr) : Option (Addr × Addr × Str) := match K.lookup f with
  | some ⟨_, _, .func fd, _⟩ => (match fd.code with
    | .ref c => (match K.lookup c with
      | some ⟨_, _, .fields vs, _⟩ => (match (vs[11]? : Option Value) with
        | some (.ref P) => some (c, P, fd.qualname ++ ".<locals>." ++ "<lambda>")
        | _ => none)
      | _ => none)
    | _ => none)
  | _ => none
theorem tabAt_in {K : PySem.W.Frag} {f c P : Addr} {q : Str} (h : tabAt K f = some (c, P, q)) : ∃ o, K.lookup c = some o := by
  unfold tabAt at h
  split at h
  · split at h
    · split at h
      · next e2 =>
        split at h
        · cases h
          exact ⟨_, e2⟩
        · cases h
      · cases h
    · cases h
  · cases h
def frMk {β : Type} (K : PySem.W.Frag) : List (PySem.W.Frag → Addr) → (PySem.W.Frag → β) → β
  | [], k => k []
  | a :: r, k => match tabAt K (a K) with
    | some (c, P, q) => HandSHeadRun.frNat c fun c => HandSHeadRun.frNat P fun P => frMk K r fun ms => k ((c, markObj P q) :: ms)
    | none => frMk K r k
def mksOf (K : PySem.W.Frag) : List (PySem.W.Frag → Addr) → PySem.W.Frag
  | [] => []
  | a :: r => match tabAt K (a K) with
    | some (c, P, q) => (c, markObj P q) :: mksOf K r
    | none => mksOf K r
theorem frMk_eq {β : Type} (K : PySem.W.Frag) : ∀ (l : List (PySem.W.Frag → Addr)) (k : PySem.W.Frag → β), frMk K l k = k (mksOf K l)
  | [], _ => rfl
  | a :: r, k => by
    unfold frMk mksOf
    split
    · rw [HandSHeadRun.frNat_eq, HandSHeadRun.frNat_eq, frMk_eq K r]
    · exact frMk_eq K r _
def mkK (lm : List (PySem.W.Frag → Addr)) (K : PySem.W.Frag) : PySem.W.Frag := cutMk K ++ mksOf (cutMk K) lm
def frAll {β : Type} (lm : List (PySem.W.Frag → Addr)) (K : PySem.W.Frag) (k : PySem.W.Frag → β) : β := noMk K fun K1 => frMk K1 lm fun ms => appMk K1 ms k
theorem frAll_eq {β : Type} (lm : List (PySem.W.Frag → Addr)) (K : PySem.W.Frag) (k : PySem.W.Frag → β) : frAll lm K k = k (mkK lm K) := by
  unfold frAll mkK
  rw [noMk_eq, frMk_eq, appMk_eq]
theorem cutMk_mem {q : Addr × Obj} : ∀ {K : PySem.W.Frag}, q ∈ cutMk K → q ∈ K
  | [], h => h
  | p :: r, h => by
    unfold cutMk at h
    split at h
    · rcases List.mem_cons.mp h with z | z
      · rw [z]; exact List.mem_cons_self
      · exact List.mem_cons_of_mem _ (cutMk_mem z)
    · exact List.mem_cons_of_mem _ (cutMk_mem h)
theorem mksOf_mem {K : PySem.W.Frag} {a : Addr} {o : Obj} : ∀ {l : List (PySem.W.Frag → Addr)}, (a, o) ∈ mksOf K l → ∃ u, K.lookup a = some u
  | [], h => by cases h
  | x :: r, h => by
    unfold mksOf at h
    split at h
    · next c P q e =>
      rcases List.mem_cons.mp h with z | z
      · cases z
        exact tabAt_in e
      · exact mksOf_mem z
    · exact mksOf_mem h
theorem look_mem {a : Addr} {o : Obj} : ∀ {l : List (Addr × Obj)}, l.lookup a = some o → (a, o) ∈ l
  | [], h => by cases h
  | (b, u) :: r, h => by
    rw [List.lookup_cons] at h
    split at h
    · next e =>
      cases h
      have e2 : a = b := by simpa using e
      rw [e2]
      exact List.mem_cons_self
    · exact List.mem_cons_of_mem _ (look_mem h)
theorem look_app {a : Addr} {o : Obj} : ∀ {l m : List (Addr × Obj)}, (l ++ m).lookup a = some o → l.lookup a = some o ∨ (l.lookup a = none ∧ m.lookup a = some o)
  | [], _, h => .inr ⟨rfl, h⟩
  | (b, u) :: r, m, h => by
    rw [List.cons_append, List.lookup_cons] at h
    rw [List.lookup_cons]
    split at h
    · exact .inl h
    · exact look_app h
theorem mkK_in {lm : List (PySem.W.Frag → Addr)} {K : PySem.W.Frag} {h : Heap} (X : ∀ a o, (a, o) ∈ K → h.get? a = some o) : (mkK lm K).In h := fun a o e => by
  rcases look_app (show (cutMk K ++ mksOf (cutMk K) lm).lookup a = some o from e) with e | ⟨e1, e2⟩
  · exact X a o (cutMk_mem (look_mem e))
  · obtain ⟨u, e3⟩ := mksOf_mem (look_mem e2)
    rw [e1] at e3
    cases e3
theorem frG_memb {g : Addr → Option Obj} {as : List Addr} {a : Addr} {o : Obj} (h : (a, o) ∈ He.frG g as) : g a = some o := by
  unfold He.frG at h
  obtain ⟨b, _, e⟩ := List.mem_filterMap.mp h
  cases hb : g b with
  | none => rw [hb] at e; cases e
  | some u => rw [hb] at e; cases e; exact hb
def isTab : Obj → Bool
  | ⟨.none, none, .fields ⟨[]⟩, ⟨[]⟩⟩ => true
  | _ => false
theorem isTab_eq {o : Obj} (h : isTab o = true) : o = { cls := .none, data := .fields #[] } := by
  unfold isTab at h
  split at h
  · rfl
  · cases h
def tbGood (g : Addr → Option Obj) (K : PySem.W.Frag) (p : Addr × Str) : Bool := (match g p.1 with
  | some o => isTab o
  | none => false) && ((K.lookup p.1).isNone && K.any fun e => PySem.W.codeHdIn K e.1 p.1)
def tbsGood (g : Addr → Option Obj) (K : PySem.W.Frag) : Bool := (Tk K).all (tbGood g K)
/-- the tables of the marks: empty, not known, each of a code object -/
def TabsH (K : PySem.W.Frag) (h : Heap) : Prop := ∀ p ∈ Tk K, h.get? p.1 = some { cls := .none, data := .fields #[] } ∧ K.lookup p.1 = none ∧ ∃ c, PySem.W.codeHdIn K c p.1 = true
theorem tbsGood_ok {K : PySem.W.Frag} {h : Heap} (e : tbsGood h.get? K = true) : TabsH K h := fun p hp => by
  obtain ⟨e1, e2⟩ := He.ba (List.all_eq_true.mp e p hp)
  obtain ⟨e3, e4⟩ := He.ba e2
  refine ⟨?_, Option.isNone_iff_eq_none.mp e3, ?_⟩
  · cases q : h.get? p.1 with
    | none => rw [q] at e1; cases e1
    | some o => rw [q] at e1; rw [isTab_eq e1]
  · obtain ⟨x, _, hx⟩ := List.any_eq_true.mp e4
    exact ⟨x.1, hx⟩
abbrev AlH : Type := Bool × List He.FnW × List (Option (List (Option (Str × Int))))
def obsH (ck : List (PySem.W.Frag → Bool)) (fn : List HDef) (ts : List He.Tab) (K : PySem.W.Frag) : AlH := ((ck.all fun f => f K) && fn.all fun d => d.ok K, fn.map fun d => fnH K (d.at_ K), ts.map fun t => He.dicW K (t.1 K))
def valH (fn : List HDef) (ts : List He.Tab) (w : World) : AlH := (true, fn.map HDef.val, ts.map fun t => some (He.keysIn w.params t.2))
def SaysH (ck : List (PySem.W.Frag → Bool)) (fn : List HDef) (ts : List He.Tab) (w : World) (K : PySem.W.Frag) : Prop := obsH ck fn ts K = valH fn ts w
def obsHG (xs ms : List Str) (lm : List (PySem.W.Frag → Addr)) (ck : List (PySem.W.Frag → Bool)) (fn : List HDef) (ts : List He.Tab) (g : Addr → Option Obj) : AlH × Bool := frK g (asH g xs ms) fun K0 => frAll lm K0 fun K => (obsH ck fn ts K, tbsGood g K)
def hookH (xs ms : List Str) (lm : List (PySem.W.Frag → Addr)) (ck : List (PySem.W.Frag → Bool)) (fn : List HDef) (ts : List He.Tab) : PySem.W.Hook where
  α := AlH × Bool
  obs := fun s => obsHG xs ms lm ck fn ts s.heap.get?
  val := fun w => (valH fn ts w, true)
  says := fun w h => ∃ K : PySem.W.Frag, K.In h ∧ SaysH ck fn ts w K ∧ TabsH K h
  of := fun w s e => by
    have e2 : (obsH ck fn ts (mkK lm (He.frG s.heap.get? (asH s.heap.get? xs ms))), tbsGood s.heap.get? (mkK lm (He.frG s.heap.get? (asH s.heap.get? xs ms)))) = (valH fn ts w, true) := by
      refine Eq.trans ?_ e
      show _ = frK s.heap.get? (asH s.heap.get? xs ms) fun K0 => frAll lm K0 fun K => (obsH ck fn ts K, tbsGood s.heap.get? K)
      rw [frK_eq, frAll_eq]
    exact ⟨_, mkK_in fun a o h => frG_memb h, congrArg (fun z : AlH × Bool => z.1) e2, tbsGood_ok (congrArg (fun z : AlH × Bool => z.2) e2)⟩
  keeps := fun _ _ _ ⟨K, hK, c, t⟩ k => ⟨K, PySem.W.Frag.In.keeps hK k, c, fun p hp => ⟨k _ _ (t p hp).1, (t p hp).2⟩⟩
theorem obsHG_eq {xs ms : List Str} {lm : List (PySem.W.Frag → Addr)} {ck : List (PySem.W.Frag → Bool)} {fn : List HDef} {ts : List He.Tab} {g : Addr → Option Obj} {s : Shared} (h : ∀ a, g a = s.heap.get? a) : obsHG xs ms lm ck fn ts g = (hookH xs ms lm ck fn ts).obs s := by
  have e : g = s.heap.get? := funext h
  rw [e] <;> rfl
/-- the statements of a class -/
def cdBody (s : Stmt) : List Stmt := match s with
  | .ClassDef _ _ _ b _ _ _ _ _ _ _ => b
  | _ => []
def gsB (K : PySem.W.Frag) : Bool := He.eqO (PySem.W.specialIn K (.builtin "object.__class__") "__get__") (some (some (.builtin "getset_descriptor.__get__"))) && decide (PySem.W.takesIn K (.builtin "object.__class__") = some true)
/-- the built-in class above it -/
inductive Eb where
  | value | lookup
def Eb.new : Eb → String
  | .value => "ValueError.__new__"
  | .lookup => "LookupError.__new__"
def Eb.bm : Eb → List Value
  | .value => [.type "ValueError", .type "Exception", .type "BaseException", .type "object"]
  | .lookup => [.type "LookupError", .type "Exception", .type "BaseException", .type "object"]
def excXIn (b : Eb) (K : PySem.W.Frag) (C : Addr) : Bool := match K.lookup C with
  | some ⟨.type "type", _, .cls cd, sl⟩ => (match cd.mro, sl.toList with
    | .ref C' :: bm, [_, _, _, _, some (.builtin n), _] => C' == C && (n == b.new && (!cd.hasDel && (cd.hasDict && PySem.W.excTail b.bm bm)))
    | _, _ => false)
  | _ => false
def initA (K : PySem.W.Frag) (C : Str) : Addr := He.ma K (He.ga K C) "__init__"
/-- what isinstance asks of it -/
def exiB (C : Str) (K : PySem.W.Frag) : Bool := He.eqO (PySem.W.findIn K (.ref (He.ga K C)) "__getattribute__") (some (some (.builtin "BaseException.__getattribute__"))) && (He.eqO (PySem.W.findIn K (.ref (He.ga K C)) "__getattr__") (some none) &&
  (PySem.W.keepIn K (.ref (He.ga K C)) && (decide (PySem.W.subIn K (.ref (He.ga K C)) (.type "BaseException") = some true) && (decide (PySem.W.typeIn K (.ref (He.ga K C)) = some (.type "type")) && (PySem.W.hasDictIn K (He.ga K C) &&
  (He.eqO (PySem.W.findIn K (.ref (He.ga K C)) "__class__") (some (some (.builtin "object.__class__"))) && decide (PySem.W.mroIn K (He.ga K C) (.type "object") = some true)))))))
def excB (eb : Eb) (C f : Str) (K : PySem.W.Frag) : Bool := excXIn eb K (He.ga K C) && (He.eqO (PySem.W.findIn K (.ref (He.ga K C)) "__setattr__") (some (some (.builtin "object.__setattr__"))) &&
  (He.eqO (PySem.W.findIn K (.ref (He.ga K C)) f) (some none) && (He.eqO (PySem.W.findIn K (.ref (He.ga K C)) "__init__") (some (some (.ref (initA K C)))) && decide (PySem.W.typeIn K (.ref (initA K C)) = some (.type "function")))))
/-- a class of a name: own or built in -/
inductive Cn where
  | own (x : Str) | blt (t : String)
def Cn.v (K : PySem.W.Frag) : Cn → Value
  | .own x => .ref (He.ga K x)
  | .blt t => .type t
end DL
namespace Law
open PySem PySem.Spec PyProof.Rows L2 DL
def topS (i : Nat) : Stmt := PySem.Challenge.pw_marktopples_k26_whole_seen_ranges.main.body.getD i (.Pass ⟨0, 0, 0, 0⟩)
abbrev s_is_number : Stmt := topS 8
abbrev s_is_mark : Stmt := topS 9
abbrev s_marks_above : Stmt := topS 10
abbrev s_way_between : Stmt := topS 11
abbrev s_distance_between : Stmt := topS 12
abbrev s_is_tick : Stmt := topS 14
abbrev s_is_push : Stmt := topS 15
abbrev s_check_pushes : Stmt := topS 16
abbrev s_fall_at : Stmt := topS 17
abbrev s_falls_by : Stmt := topS 18
abbrev s_falls_of : Stmt := topS 19
abbrev s_neighbours_of : Stmt := topS 20
abbrev s_is_needed : Stmt := topS 21
abbrev s_needed_pushes : Stmt := topS 22
abbrev s_are_apart : Stmt := topS 24
abbrev s_find_pair : Stmt := topS 25
abbrev s_need_table : Stmt := topS 26
abbrev s_earliest : Stmt := topS 27
abbrev s_latest : Stmt := topS 28
abbrev s_marks_of : Stmt := topS 30
abbrev s_served_from : Stmt := topS 31
abbrev s_depths_of : Stmt := topS 32
abbrev s_sweep_order : Stmt := topS 33
abbrev s_fewest_pushes : Stmt := topS 34
abbrev s_find_conflict : Stmt := topS 36
abbrev s_require_peace : Stmt := topS 37
abbrev s_range_of : Stmt := topS 38
abbrev s_ranges_of : Stmt := topS 39
abbrev s_fewest_behind : Stmt := topS 40
abbrev s__law_draws : Stmt := topS 42
abbrev s__law_next : Stmt := topS 43
abbrev s__law_tree : Stmt := topS 44
abbrev s__law_pushes : Stmt := topS 45
abbrev s__law_with : Stmt := topS 46
abbrev s__law_inside : Stmt := topS 47
abbrev s__law_one_right : Stmt := topS 48
abbrev s_law : Stmt := topS 49
abbrev si_NoTable : Stmt := (cdBody (topS 3)).getD 0 (.Pass ⟨0, 0, 0, 0⟩)
abbrev si_Conflict : Stmt := (cdBody (topS 4)).getD 0 (.Pass ⟨0, 0, 0, 0⟩)
set_option pp.maxSteps 300
set_option pp.deepTerms false
def hXs_0 : List (Str) := ["is_number", "is_mark", "marks_above", "way_between", "distance_between", "is_tick", "is_push", "check_pushes", "fall_at", "falls_by", "falls_of", "neighbours_of", "is_needed", "needed_pushes", "are_apart", "find_pair", "need_table", "earliest", "latest", "marks_of", "served_from", "depths_of", "sweep_order", "fewest_pushes", "find_conflict", "require_peace", "range_of", "ranges_of", "fewest_behind", "_law_draws"]
def hXs_1 : List (Str) := ["_law_next", "_law_tree", "_law_pushes", "_law_with", "_law_inside", "_law_one_right", "law", "NoTable", "FallError", "Conflict"]
def hXs : List (Str) := hXs_0 ++ hXs_1
def hMs_0 : List (Str) := ["__init__"]
def hMs : List (Str) := hMs_0
def hCk_0 : List (PySem.W.Frag → Bool) := [fun K => (He.Fa.free "abs").ok K, fun K => (He.Fa.free "all").ok K, fun K => (He.Fa.free "any").ok K, fun K => (He.Fa.free "bool").ok K, fun K => (He.Fa.free "dict").ok K, fun K => (He.Fa.free "enumerate").ok K, fun K => (He.Fa.free "int").ok K, fun K => (He.Fa.free "isinstance").ok K, fun K => (He.Fa.free "len").ok K, fun K => (He.Fa.free "list").ok K, fun K => (He.Fa.free "max").ok K, fun K => (He.Fa.free "min").ok K, fun K => (He.Fa.free "range").ok K, fun K => (He.Fa.free "repr").ok K, fun K => (He.Fa.free "set").ok K, fun K => (He.Fa.free "sorted").ok K, fun K => (He.Fa.free "str").ok K, fun K => (He.Fa.free "sum").ok K, fun K => (He.Fa.free "tuple").ok K, fun K => (He.Fa.free "zip").ok K, fun K => (He.Fa.free "LookupError").ok K, fun K => (He.Fa.free "ValueError").ok K, fun K => (He.Fa.glo "is_number").ok K, fun K => (He.Fa.glo "is_mark").ok K, fun K => (He.Fa.glo "marks_above").ok K, fun K => (He.Fa.glo "way_between").ok K, fun K => (He.Fa.glo "distance_between").ok K, fun K => (He.Fa.glo "is_tick").ok K, fun K => (He.Fa.glo "is_push").ok K, fun K => (He.Fa.glo "check_pushes").ok K]
def hCk_1 : List (PySem.W.Frag → Bool) := [fun K => (He.Fa.glo "fall_at").ok K, fun K => (He.Fa.glo "falls_by").ok K, fun K => (He.Fa.glo "falls_of").ok K, fun K => (He.Fa.glo "neighbours_of").ok K, fun K => (He.Fa.glo "is_needed").ok K, fun K => (He.Fa.glo "needed_pushes").ok K, fun K => (He.Fa.glo "are_apart").ok K, fun K => (He.Fa.glo "find_pair").ok K, fun K => (He.Fa.glo "need_table").ok K, fun K => (He.Fa.glo "earliest").ok K, fun K => (He.Fa.glo "latest").ok K, fun K => (He.Fa.glo "marks_of").ok K, fun K => (He.Fa.glo "served_from").ok K, fun K => (He.Fa.glo "depths_of").ok K, fun K => (He.Fa.glo "sweep_order").ok K, fun K => (He.Fa.glo "fewest_pushes").ok K, fun K => (He.Fa.glo "find_conflict").ok K, fun K => (He.Fa.glo "require_peace").ok K, fun K => (He.Fa.glo "range_of").ok K, fun K => (He.Fa.glo "ranges_of").ok K, fun K => (He.Fa.glo "fewest_behind").ok K, fun K => (He.Fa.glo "_law_draws").ok K, fun K => (He.Fa.glo "_law_next").ok K, fun K => (He.Fa.glo "_law_tree").ok K, fun K => (He.Fa.glo "_law_pushes").ok K, fun K => (He.Fa.glo "_law_with").ok K, fun K => (He.Fa.glo "_law_inside").ok K, fun K => (He.Fa.glo "_law_one_right").ok K, fun K => (He.Fa.glo "law").ok K, gsB]
def hCk_2 : List (PySem.W.Frag → Bool) := [fun K => (He.Fa.int "MAX_PUSHES" 20).ok K, fun K => (He.Fa.int "MAX_TICK" 1000000000).ok K, fun K => (He.Fa.glo "NoTable").ok K, fun K => (He.Fa.glo "FallError").ok K, fun K => (He.Fa.glo "Conflict").ok K, exiB "NoTable", excB .value "NoTable" "pair", exiB "Conflict", excB .value "Conflict" "pair"]
def hCk : List (PySem.W.Frag → Bool) := hCk_0 ++ hCk_1 ++ hCk_2
def hFn_0 : List (HDef) := [⟨fun K => He.ga K "is_number", "is_number", "is_number", s_is_number, [], []⟩, ⟨fun K => He.ga K "is_mark", "is_mark", "is_mark", s_is_mark, [], []⟩, ⟨fun K => He.ga K "marks_above", "marks_above", "marks_above", s_marks_above, [], []⟩, ⟨fun K => He.ga K "way_between", "way_between", "way_between", s_way_between, [], []⟩, ⟨fun K => He.ga K "distance_between", "distance_between", "distance_between", s_distance_between, [], []⟩, ⟨fun K => He.ga K "is_tick", "is_tick", "is_tick", s_is_tick, [], []⟩, ⟨fun K => He.ga K "is_push", "is_push", "is_push", s_is_push, [], []⟩, ⟨fun K => He.ga K "check_pushes", "check_pushes", "check_pushes", s_check_pushes, [], []⟩, ⟨fun K => He.ga K "fall_at", "fall_at", "fall_at", s_fall_at, [], []⟩, ⟨fun K => He.ga K "falls_by", "falls_by", "falls_by", s_falls_by, [], []⟩, ⟨fun K => He.ga K "falls_of", "falls_of", "falls_of", s_falls_of, [], []⟩, ⟨fun K => He.ga K "neighbours_of", "neighbours_of", "neighbours_of", s_neighbours_of, [], []⟩, ⟨fun K => He.ga K "is_needed", "is_needed", "is_needed", s_is_needed, [], []⟩, ⟨fun K => He.ga K "needed_pushes", "needed_pushes", "needed_pushes", s_needed_pushes, [], []⟩, ⟨fun K => He.ga K "are_apart", "are_apart", "are_apart", s_are_apart, [], []⟩, ⟨fun K => He.ga K "find_pair", "find_pair", "find_pair", s_find_pair, [], []⟩, ⟨fun K => He.ga K "need_table", "need_table", "need_table", s_need_table, [], []⟩, ⟨fun K => He.ga K "earliest", "earliest", "earliest", s_earliest, [], []⟩, ⟨fun K => He.ga K "latest", "latest", "latest", s_latest, [], []⟩, ⟨fun K => He.ga K "marks_of", "marks_of", "marks_of", s_marks_of, [], []⟩, ⟨fun K => He.ga K "served_from", "served_from", "served_from", s_served_from, [], []⟩, ⟨fun K => He.ga K "depths_of", "depths_of", "depths_of", s_depths_of, [], []⟩, ⟨fun K => He.ga K "sweep_order", "sweep_order", "sweep_order", s_sweep_order, [], []⟩, ⟨fun K => He.ga K "fewest_pushes", "fewest_pushes", "fewest_pushes", s_fewest_pushes, [], []⟩, ⟨fun K => He.ga K "find_conflict", "find_conflict", "find_conflict", s_find_conflict, [], []⟩, ⟨fun K => He.ga K "require_peace", "require_peace", "require_peace", s_require_peace, [], []⟩, ⟨fun K => He.ga K "range_of", "range_of", "range_of", s_range_of, [], []⟩, ⟨fun K => He.ga K "ranges_of", "ranges_of", "ranges_of", s_ranges_of, [], []⟩, ⟨fun K => He.ga K "fewest_behind", "fewest_behind", "fewest_behind", s_fewest_behind, [], []⟩, ⟨fun K => He.ga K "_law_draws", "_law_draws", "_law_draws", s__law_draws, [], []⟩]
def hFn_1 : List (HDef) := [⟨fun K => He.ga K "_law_next", "_law_next", "_law_next", s__law_next, [], []⟩, ⟨fun K => He.ga K "_law_tree", "_law_tree", "_law_tree", s__law_tree, [], []⟩, ⟨fun K => He.ga K "_law_pushes", "_law_pushes", "_law_pushes", s__law_pushes, [], []⟩, ⟨fun K => He.ga K "_law_with", "_law_with", "_law_with", s__law_with, [], []⟩, ⟨fun K => He.ga K "_law_inside", "_law_inside", "_law_inside", s__law_inside, [], []⟩, ⟨fun K => He.ga K "_law_one_right", "_law_one_right", "_law_one_right", s__law_one_right, [], []⟩, ⟨fun K => He.ga K "law", "law", "law", s_law, [], []⟩, ⟨fun K => initA K "NoTable", "__init__", "NoTable.__init__", si_NoTable, [], []⟩, ⟨fun K => initA K "Conflict", "__init__", "Conflict.__init__", si_Conflict, [], []⟩]
def hFn : List (HDef) := hFn_0 ++ hFn_1
def hTs_0 : List (He.Tab) := []
def hTs : List (He.Tab) := hTs_0
def hLm_0 : List (PySem.W.Frag → Addr) := []
def hLm : List (PySem.W.Frag → Addr) := hLm_0
def hLoose_0 : List (Str) := ["FallError", "BadPushes", "NoTable", "Conflict", "MAX_TICK", "MAX_PUSHES", "is_number", "is_mark", "marks_above", "way_between", "distance_between", "is_tick", "is_push", "check_pushes", "fall_at", "falls_by", "falls_of", "neighbours_of", "is_needed", "needed_pushes", "are_apart", "find_pair", "need_table", "earliest", "latest", "marks_of", "served_from", "depths_of", "sweep_order", "fewest_pushes"]
def hLoose_1 : List (Str) := ["find_conflict", "require_peace", "range_of", "ranges_of", "fewest_behind", "_law_draws", "_law_next", "_law_tree", "_law_pushes", "_law_with", "_law_inside", "_law_one_right"]
def hLoose : List (Str) := hLoose_0 ++ hLoose_1
abbrev hR : PySem.W.OpenRow := PySem.W.OpenLaw.row PySem.Challenge.rw_marktopples_k26_whole_seen_ranges
abbrev hHook : PySem.W.Hook := hookH hXs hMs hLm hCk hFn hTs
def hOb (s : PySem.W.SharedT) : AlH × Bool := obsHG hXs hMs hLm hCk hFn hTs (HandSHeadRun.getT s)
theorem hOb_eq (s : PySem.W.SharedT) : hOb s = hHook.obs s.abs := obsHG_eq (HandSHeadRun.getT_eq s)
theorem hRun (w : World) : HandSHeadRun.RunEq hR (PySem.W.view hR.prog [49]) hHook hOb 12000 hLoose w := by
  intro os
  kernel_rfl
end Law
namespace DL
open PySem PySem.Spec PyProof.Rows L2
/-- a datum: tuples, lists and dicts that nobody changes are trees; what is changed is a place in the store -/
inductive D where
  | non | bl (b : Bool) | int (i : Int) | str (x : Str)
  | tup (ds : List D) | lst (ds : List D) | dct (ks : List Key) (ds : List D) | ref (n : Nat) | scr (ns : List Int)
  | exo (a : Addr) (c : Value) (o : Option Addr) (ks : List Str) (ds : List D)
  | clo (f : Addr) (fo : List (Addr × HO)) (vs : List V) (ds : List D)
mutual
inductive Rp (K : PySem.W.Frag) (F : Hp) (al : List Addr) : V → D → Prop
  | non : Rp K F al .non .non
  | bl (b : Bool) : Rp K F al (.bl b) (.bl b)
  | int (i : Int) : Rp K F al (.int i) (.int i)
  | str (x : Str) : Rp K F al (.str x) (.str x)
  | tup {a : Addr} {xs : List V} {ds : List D} : Rd F a (.tup xs) → Rps K F al xs ds → Rp K F al (.ref a) (.tup ds)
  | lst {a : Addr} {xs : List V} {ds : List D} : F a = some (.lst xs) → Rps K F al xs ds → Rp K F al (.ref a) (.lst ds)
  | dct {a : Addr} {ks : List Key} {xs : List V} {ds : List D} : F a = some (.dK (ks.zip xs)) → ks.length = xs.length → Rps K F al xs ds → Rp K F al (.ref a) (.dct ks ds)
  | ref {n : Nat} {a : Addr} : al[n]? = some a → Rp K F al (.ref a) (.ref n)
  | scr {a : Addr} {ns : List Int} : SqL K F a (ns.map V.int) → Rp K F al (.ref a) (.scr ns)
  | exo0 (a : Addr) (c : Value) : Rp K F al (.ref a) (.exo a c none [] [])
  | exo {a : Addr} {c : Value} {q : Addr} {ks : List Str} {xs : List V} {ds : List D} : F q = some (.xd (ks.zip xs)) → ks.length = xs.length → Rps K F al xs ds → Rp K F al (.ref a) (.exo a c (some q) ks ds)
  | clo {f : Addr} {fo : List (Addr × HO)} {vs : List V} {ds : List D} : (∀ p ∈ fo, F p.1 = some p.2) → Rps K F al vs ds → Rp K F al (.ref f) (.clo f fo vs ds)
inductive Rps (K : PySem.W.Frag) (F : Hp) (al : List Addr) : List V → List D → Prop
  | nil : Rps K F al [] []
  | cons {v : V} {vs : List V} {d : D} {ds : List D} : Rp K F al v d → Rps K F al vs ds → Rps K F al (v :: vs) (d :: ds)
end
/-- what stood stands -/
def Sm (H H' : Hp) : Prop := ∀ b o, H b = some o → H' b = some o
theorem Sm.refl (H : Hp) : Sm H H := fun _ _ h => h
theorem Sm.trans {H H1 H2 : Hp} (a : Sm H H1) (b : Sm H1 H2) : Sm H H2 := fun c o h => b c o (a c o h)
theorem Sm.rd {H H' : Hp} {a : Addr} {u : HO} (e : Sm H H') (h : Rd H a u) : Rd H' a u := by
  rcases h with h | ⟨o, h⟩
  · exact Or.inl (e a _ h)
  · exact Or.inr ⟨o, e a _ h⟩
theorem sqR {K : PySem.W.Frag} {H : Hp} {a : Addr} {xs : List V} (h : Rd H a (.tup xs)) : SqT K H a xs := .inl h
theorem Sm.sq {K : PySem.W.Frag} {H H' : Hp} {a : Addr} {xs : List V} (e : Sm H H') (h : Rd H a (.tup xs)) : SqT K H' a xs := .inl (e.rd h)
theorem Sm.l {K : PySem.W.Frag} {H H' : Hp} {a : Addr} {xs : List V} (e : Sm H H') (h : SqL K H a xs) : SqL K H' a xs := by
  rcases h with h | h
  · exact Or.inl (e.rd h)
  · exact Or.inr h
theorem Sm.t {K : PySem.W.Frag} {H H' : Hp} {a : Addr} {xs : List V} (e : Sm H H') (h : SqT K H a xs) : SqT K H' a xs := by
  rcases h with h | h
  · exact Or.inl (e.rd h)
  · exact Or.inr h
theorem Sm.new {H : Hp} {p : Addr} {o : HO} (h : H p = none) : Sm H (upd H p o) := fun b u e => by
  rw [upd_ne (ne_of_none e h)]
  exact e
theorem Sm.free {H H' : Hp} (e : Sm H H') {l : Addr} (h : H' l = none) : H l = none := by
  cases q : H l with
  | none => rfl
  | some o => rw [e l o q] at h; cases h
structure Ext (al : List Addr) (F : Hp) (al' : List Addr) (F' : Hp) : Prop where
  al : ∃ be, al' = al ++ be
  sm : Sm F F'
theorem Ext.refl (al : List Addr) (F : Hp) : Ext al F al F := ⟨⟨[], by simp⟩, Sm.refl F⟩
theorem Ext.trans {al al1 al2 : List Addr} {F F1 F2 : Hp} (a : Ext al F al1 F1) (b : Ext al1 F1 al2 F2) : Ext al F al2 F2 := by
  obtain ⟨b1, e1⟩ := a.al
  obtain ⟨b2, e2⟩ := b.al
  exact ⟨⟨b1 ++ b2, by rw [e2, e1, List.append_assoc]⟩, a.sm.trans b.sm⟩
theorem Ext.get {al al' : List Addr} {F F' : Hp} (e : Ext al F al' F') {n : Nat} {a : Addr} (h : al[n]? = some a) : al'[n]? = some a := by
  obtain ⟨be, rfl⟩ := e.al
  rw [List.getElem?_append_left (List.getElem?_eq_some_iff.mp h).1]
  exact h
section
variable {K : PySem.W.Frag} {F F' : Hp} {al al' : List Addr}
mutual
theorem Rp.ext (e : Ext al F al' F') : ∀ {d : D} {v : V}, Rp K F al v d → Rp K F' al' v d
  | .non, _, h => by cases h; exact .non
  | .bl _, _, h => by cases h; exact .bl _
  | .int _, _, h => by cases h; exact .int _
  | .str _, _, h => by cases h; exact .str _
  | .tup _, _, h => by
    cases h with
    | tup a b => exact .tup (e.sm.rd a) (Rps.ext e b)
  | .lst _, _, h => by
    cases h with
    | lst a b => exact .lst (e.sm _ _ a) (Rps.ext e b)
  | .dct _ _, _, h => by
    cases h with
    | dct a l b => exact .dct (e.sm _ _ a) l (Rps.ext e b)
  | .ref _, _, h => by
    cases h with
    | ref a => exact .ref (e.get a)
  | .scr _, _, h => by
    cases h with
    | scr a => exact .scr (e.sm.l a)
  | .exo _ _ _ _ _, _, h => by
    cases h with
    | exo0 => exact .exo0 _ _
    | exo a l b => exact .exo (e.sm _ _ a) l (Rps.ext e b)
  | .clo _ _ _ _, _, h => by
    cases h with
    | clo a b => exact .clo (fun p hp => e.sm _ _ (a p hp)) (Rps.ext e b)
theorem Rps.ext (e : Ext al F al' F') : ∀ {ds : List D} {vs : List V}, Rps K F al vs ds → Rps K F' al' vs ds
  | [], _, h => by cases h; exact .nil
  | _ :: _, _, h => by
    cases h with
    | cons a b => exact .cons (Rp.ext e a) (Rps.ext e b)
end
theorem Rps.length : ∀ {ds : List D} {vs : List V}, Rps K F al vs ds → vs.length = ds.length
  | [], _, h => by cases h; rfl
  | _ :: _, _, h => by
    cases h with
    | cons a b => rw [List.length_cons, List.length_cons, b.length]
theorem Rps.append : ∀ {ds es : List D} {vs us : List V}, Rps K F al vs ds → Rps K F al us es → Rps K F al (vs ++ us) (ds ++ es)
  | [], _, _, _, h, g => by cases h; exact g
  | _ :: _, _, _, _, h, g => by
    cases h with
    | cons a b => exact .cons a (b.append g)
theorem Rps.get : ∀ {ds : List D} {vs : List V} {i : Nat} {d : D}, Rps K F al vs ds → ds[i]? = some d → ∃ v, vs[i]? = some v ∧ Rp K F al v d
  | [], _, _, _, h, e => by simp at e
  | _ :: _, _, 0, _, h, e => by
    cases h with
    | cons a b => simp at e; subst e; exact ⟨_, rfl, a⟩
  | _ :: _, _, i + 1, d, h, e => by
    cases h with
    | cons a b =>
      obtain ⟨v, h1, h2⟩ := Rps.get (i := i) (d := d) b (by simpa using e)
      exact ⟨v, by simpa using h1, h2⟩
theorem Rps.set {v : V} {d : D} (h : Rp K F al v d) : ∀ {ds : List D} {vs : List V} (i : Nat), Rps K F al vs ds → Rps K F al (vs.set i v) (ds.set i d)
  | [], _, _, g => by cases g; exact .nil
  | _ :: _, _, 0, g => by
    cases g with
    | cons a b => exact .cons h b
  | _ :: _, _, i + 1, g => by
    cases g with
    | cons a b => exact .cons a (Rps.set h i b)
theorem Rps.take : ∀ {ds : List D} {vs : List V} (n : Nat), Rps K F al vs ds → Rps K F al (vs.take n) (ds.take n)
  | _, _, 0, _ => by simp; exact .nil
  | [], _, n + 1, h => by cases h; exact .nil
  | _ :: _, _, n + 1, h => by
    cases h with
    | cons a b => exact .cons a (Rps.take n b)
theorem Rps.drop : ∀ {ds : List D} {vs : List V} (n : Nat), Rps K F al vs ds → Rps K F al (vs.drop n) (ds.drop n)
  | _, _, 0, h => h
  | [], _, n + 1, h => by cases h; exact .nil
  | _ :: _, _, n + 1, h => by
    cases h with
    | cons a b => exact Rps.drop n b
theorem Rps.split : ∀ {ds es : List D} {vs : List V}, Rps K F al vs (ds ++ es) → ∃ us ws, vs = us ++ ws ∧ Rps K F al us ds ∧ Rps K F al ws es
  | [], es, vs, h => ⟨[], vs, rfl, .nil, h⟩
  | d :: ds, es, _, h => by
    cases h with
    | cons a b =>
      obtain ⟨us, ws, e, h1, h2⟩ := Rps.split b
      exact ⟨_ :: us, ws, by rw [e]; rfl, .cons a h1, h2⟩
theorem Rps.ints : ∀ {ns : List Int} {vs : List V}, Rps K F al vs (ns.map D.int) → vs = ns.map V.int
  | [], _, h => by cases h; rfl
  | n :: ns, _, h => by
    cases h with
    | cons a b => cases a; rw [b.ints]; rfl
theorem Rps.of_ints : ∀ {ns : List Int}, Rps K F al (ns.map V.int) (ns.map D.int)
  | [] => .nil
  | _ :: _ => .cons (.int _) .of_ints
theorem Rps.bls : ∀ {bs : List Bool} {vs : List V}, Rps K F al vs (bs.map D.bl) → vs = bs.map V.bl
  | [], _, h => by cases h; rfl
  | n :: ns, _, h => by
    cases h with
    | cons a b => cases a; rw [b.bls]; rfl
end
inductive Cell where
  | lst (ds : List D) | ins (C : Addr) (fs : List (Str × D)) | dic (ks : List (List Int)) | raw (o : HO)
abbrev Sto := List Cell
def CellOk (K : PySem.W.Frag) (F : Hp) (al : List Addr) (H : Hp) (a : Addr) : Cell → Prop
  | .lst ds => ∃ xs, H a = some (.lst xs) ∧ Rps K F al xs ds
  | .ins C fs => ∃ dx vs, H a = some (.ins C dx vs) ∧ vs.map (·.1) = fs.map (·.1) ∧ Rps K F al (vs.map (·.2)) (fs.map (·.2))
  | .dic ks => ∃ kvs : List (List Key × V), kvs.map (·.1) = ks.map (·.map Sum.inl) ∧ H a = some (.dT kvs)
  | .raw o => H a = some o ∧ ∀ xs, o ≠ .tup xs
theorem CellOk.some {K : PySem.W.Frag} {F : Hp} {al : List Addr} {H : Hp} {a : Addr} {c : Cell} (h : CellOk K F al H a c) : ∃ o, H a = some o := by
  cases c with
  | lst ds => obtain ⟨xs, e, _⟩ := h; exact ⟨_, e⟩
  | ins C fs => obtain ⟨dx, vs, e, _⟩ := h; exact ⟨_, e⟩
  | dic ks => obtain ⟨kvs, _, e⟩ := h; exact ⟨_, e⟩
  | raw o => exact ⟨_, h.1⟩
theorem CellOk.ext {K : PySem.W.Frag} {F F' : Hp} {al al' : List Addr} {H H' : Hp} {a : Addr} {c : Cell} (h : CellOk K F al H a c) (e : Ext al F al' F') (s : H' a = H a) : CellOk K F' al' H' a c := by
  cases c with
  | lst ds => obtain ⟨xs, q, r⟩ := h; exact ⟨xs, s.trans q, r.ext e⟩
  | ins C fs => obtain ⟨dx, vs, q, n, r⟩ := h; exact ⟨dx, vs, s.trans q, n, r.ext e⟩
  | dic ks => obtain ⟨kvs, z, h⟩ := h; exact ⟨kvs, z, s.trans h⟩
  | raw o => exact ⟨s.trans h.1, h.2⟩
/-- the table at P: each code object that it tells bears the name q -/
def TbOk (F H : Hp) (P : Addr) (q : Str) : Prop := ∃ ps : Array Value, H P = some (.tbl ps) ∧ TriplesOk ps.toList ∧ ∀ (pos : Pos) (cv : Value), codeAmong pos ps.toList = some cv → ∃ c, cv = .ref c ∧ F c = some (LamX.CodeO c q)
structure TbAt (al : List Addr) (F G H : Hp) (p : Addr × Str) : Prop where
  ok : TbOk F H p.1 p.2
  nf : F p.1 = none
  ng : G p.1 = none
  na : p.1 ∉ al
def Tb (K : PySem.W.Frag) (al : List Addr) (F G H : Hp) : Prop := ∀ p ∈ Tk K, TbAt al F G H p
theorem TbOk.to {F F' H H' : Hp} {P : Addr} {q : Str} (t : TbOk F H P q) (h : H' P = H P) (s : Sm F F') : TbOk F' H' P q := by
  obtain ⟨ps, h1, h2, h3⟩ := t
  exact ⟨ps, h.trans h1, h2, fun pos cv e => let ⟨c, e1, e2⟩ := h3 pos cv e; ⟨c, e1, s _ _ e2⟩⟩
theorem Tb.to {K : PySem.W.Frag} {al al' : List Addr} {F F' G G' H H' : Hp} (t : Tb K al F G H) (s : Sm F F') (h : ∀ P, (∃ o, H P = some o) → F P = none → G P = none → P ∉ al → H' P = H P ∧ F' P = none ∧ G' P = none ∧ P ∉ al') : Tb K al' F' G' H' := fun p hp => by
  have z := t p hp
  obtain ⟨ps, h1, _⟩ := z.ok
  obtain ⟨a, b, c, d⟩ := h p.1 ⟨_, h1⟩ z.nf z.ng z.na
  exact ⟨z.ok.to a s, b, c, d⟩
theorem ne_some {H : Hp} {p P : Addr} (h : H p = none) (e : ∃ o, H P = some o) : P ≠ p := fun z => by
  obtain ⟨o, e⟩ := e
  rw [z, h] at e
  cases e
/-- F: what nobody changes; G: what others hold and is left alone; al: the places of the store -/
structure Wd (K : PySem.W.Frag) (al : List Addr) (F G H : Hp) (M : Sto) : Prop where
  sm : Sm F H
  sg : Sm G H
  fg : ∀ a o, G a = some o → (F a = none ∨ ∃ xs, o = .tup xs) ∧ a ∉ al
  len : al.length = M.length
  nd : al.Nodup
  out : ∀ a ∈ al, F a = none
  cel : ∀ (n : Nat) (c : Cell) (a : Addr), M[n]? = some c → al[n]? = some a → CellOk K F al H a c
  tb : Tb K al F G H
section
variable {K : PySem.W.Frag} {F F' G H : Hp} {al : List Addr} {M : Sto}
theorem Wd.has (W : Wd K al F G H M) {a : Addr} (h : a ∈ al) : ∃ o, H a = some o := by
  obtain ⟨n, hn, e⟩ := List.getElem_of_mem h
  have hm : n < M.length := by rw [← W.len]; exact hn
  exact (W.cel n M[n] a (List.getElem?_eq_getElem hm) (by rw [List.getElem?_eq_getElem hn, e])).some
theorem Wd.notin (W : Wd K al F G H M) {p : Addr} (h : H p = none) : p ∉ al := fun q => by
  obtain ⟨o, e⟩ := W.has q
  rw [e] at h
  cases h
/-- a new object that nobody will change -/
theorem Wd.newF (W : Wd K al F G H M) {p : Addr} {o : HO} (h : H p = none) : Wd K al (upd F p o) G (upd H p o) M ∧ Ext al F al (upd F p o) := by
  have e : Ext al F al (upd F p o) := ⟨⟨[], by simp⟩, Sm.new (W.sm.free h)⟩
  refine ⟨⟨fun b u q => ?_, W.sg.trans (Sm.new h), fun a u q => ⟨?_, (W.fg a u q).2⟩, W.len, W.nd, fun a q => ?_, fun n c a q r => ?_, W.tb.to e.sm fun P x f g y => ⟨upd_ne (ne_some h x), (upd_ne (ne_some h x)).trans f, g, y⟩⟩, e⟩
  · by_cases hb : b = p
    · subst hb; rw [upd_same] at q ⊢; exact q
    · rw [upd_ne hb] at q ⊢; exact W.sm b u q
  · rw [upd_ne (ne_of_none (W.sg a u q) h)]
    exact (W.fg a u q).1
  · rw [upd_ne (show a ≠ p from fun z => W.notin h (z ▸ q))]
    exact W.out a q
  · exact (W.cel n c a q r).ext e (upd_ne fun z => W.notin h (z ▸ List.mem_of_getElem? r))
/-- a new object of the store -/
theorem Wd.newM (W : Wd K al F G H M) {p : Addr} {o : HO} {c : Cell} (h : H p = none) (hc : CellOk K F (al ++ [p]) (upd H p o) p c) : Wd K (al ++ [p]) F G (upd H p o) (M ++ [c]) ∧ Ext al F (al ++ [p]) F := by
  have e : Ext al F (al ++ [p]) F := ⟨⟨[p], rfl⟩, Sm.refl F⟩
  refine ⟨⟨W.sm.trans (Sm.new h), W.sg.trans (Sm.new h), fun a u q => ⟨(W.fg a u q).1, fun z => ?_⟩, by simp [W.len], ?_, fun a q => ?_, fun n d a q r => ?_, W.tb.to e.sm fun P x f g y => ⟨upd_ne (ne_some h x), f, g, fun z => (List.mem_append.mp z).elim y fun z => ne_some h x (by simpa using z)⟩⟩, e⟩
  · rcases List.mem_append.mp z with z | z
    · exact (W.fg a u q).2 z
    · have z' : a = p := by simpa using z
      subst z'
      rw [W.sg a u q] at h
      cases h
  · rw [List.nodup_append]
    refine ⟨W.nd, by simp, fun a ha b hb => ?_⟩
    have hb' : b = p := by simpa using hb
    subst hb'
    exact fun z => W.notin h (z ▸ ha)
  · rcases List.mem_append.mp q with q | q
    · exact W.out a q
    · have q' : a = p := by simpa using q
      subst q'
      exact W.sm.free h
  · by_cases hn : n < M.length
    · rw [List.getElem?_append_left hn] at q
      rw [List.getElem?_append_left (by rw [W.len]; exact hn)] at r
      exact (W.cel n d a q r).ext e (upd_ne fun z => W.notin h (z ▸ List.mem_of_getElem? r))
    · have hn' : n = M.length := by
        have := (List.getElem?_eq_some_iff.mp q).1
        rw [List.length_append, List.length_singleton] at this
        omega
      subst hn'
      rw [List.getElem?_append_right (Nat.le_refl _)] at q
      rw [← W.len, List.getElem?_append_right (Nat.le_refl _)] at r
      simp at q r
      subst q
      subst r
      exact hc
/-- an object of the store changed -/
theorem Wd.write (W : Wd K al F G H M) {n : Nat} {a : Addr} {o : HO} {c : Cell} (h : al[n]? = some a) (hc : CellOk K F al (upd H a o) a c) : Wd K al F G (upd H a o) (M.set n c) := by
  have ha : a ∈ al := List.mem_of_getElem? h
  refine ⟨fun b u q => ?_, fun b u q => ?_, W.fg, by rw [List.length_set]; exact W.len, W.nd, W.out, fun m d b q r => ?_, W.tb.to (Sm.refl F) fun P x f g y => ⟨upd_ne fun z => y (z ▸ ha), f, g, y⟩⟩
  · rw [upd_ne (fun z => by subst z; rw [W.out _ ha] at q; cases q)]
    exact W.sm b u q
  · rw [upd_ne (show b ≠ a from fun z => (W.fg b u q).2 (z ▸ ha))]
    exact W.sg b u q
  · by_cases hm : m = n
    · subst hm
      rw [h] at r
      cases r
      rw [List.getElem?_set_self (by rw [← W.len]; exact (List.getElem?_eq_some_iff.mp h).1)] at q
      cases q
      exact hc
    · rw [List.getElem?_set_ne (Ne.symm hm)] at q
      refine (W.cel m d b q r).ext (Ext.refl al F) (upd_ne fun z => hm ?_)
      subst z
      obtain ⟨h1, e1⟩ := List.getElem?_eq_some_iff.mp r
      obtain ⟨h2, e2⟩ := List.getElem?_eq_some_iff.mp h
      exact (List.getElem_inj W.nd).mp (e1.trans e2.symm)
/-- the places behind k are forgotten -/
theorem Wd.take (W : Wd K al F G H M) (k : Nat) (hc : ∀ (n : Nat) (c : Cell) (a : Addr), n < k → M[n]? = some c → al[n]? = some a → CellOk K F (al.take k) H a c) : Wd K (al.take k) F G H (M.take k) := by
  refine ⟨W.sm, W.sg, fun a o q => ⟨(W.fg a o q).1, fun z => (W.fg a o q).2 (List.mem_of_mem_take z)⟩, by simp [W.len], W.nd.sublist (List.take_sublist k al), fun a q => W.out a (List.mem_of_mem_take q), fun n c a q r => ?_, W.tb.to (Sm.refl F) fun P x f g y => ⟨rfl, f, g, fun z => y (List.mem_of_mem_take z)⟩⟩
  have hn : n < k := by
    have := (List.getElem?_eq_some_iff.mp q).1
    rw [List.length_take] at this
    omega
  rw [List.getElem?_take_of_lt hn] at q r
  exact hc n c a hn q r
/-- the frame grows by an object that the store doesn't know -/
theorem Wd.hide (W : Wd K al F G H M) {p : Addr} {o : HO} (h : H p = none) : Wd K al F (upd G p o) (upd H p o) M := by
  refine ⟨W.sm.trans (Sm.new h), fun b u q => ?_, fun a u q => ?_, W.len, W.nd, W.out, fun n c a q r => ?_, W.tb.to (Sm.refl F) fun P x f g y => ⟨upd_ne (ne_some h x), f, (upd_ne (ne_some h x)).trans g, y⟩⟩
  · by_cases hb : b = p
    · subst hb; rw [upd_same] at q ⊢; exact q
    · rw [upd_ne hb] at q ⊢; exact W.sg b u q
  · by_cases hb : a = p
    · subst hb; exact ⟨.inl (W.sm.free h), W.notin h⟩
    · rw [upd_ne hb] at q; exact W.fg a u q
  · exact (W.cel n c a q r).ext (Ext.refl al F) (upd_ne fun z => W.notin h (z ▸ List.mem_of_getElem? r))
/-- a framed object changes -/
theorem Wd.hidF {p : Addr} {o : HO} (W : Wd K al F (upd G p o) H M) (ht : ∀ xs, o ≠ .tup xs) : F p = none ∧ p ∉ al := by
  have hp := W.fg p o upd_same
  exact ⟨hp.1.resolve_right fun ⟨xs, z⟩ => ht xs z, hp.2⟩
theorem Wd.rehide {p : Addr} {o : HO} (W : Wd K al F (upd G p o) H M) {o' : HO} (ht : ∀ xs, o ≠ .tup xs := by intro _ z; cases z) : Wd K al F (upd G p o') (upd H p o') M := by
  have hp := W.hidF ht
  have np : ∀ P, upd G p o P = none → P ≠ p := fun P g z => by rw [z, upd_same] at g; cases g
  refine ⟨fun b u q => ?_, fun b u q => ?_, fun a u q => ?_, W.len, W.nd, W.out, fun n c a q r => ?_, W.tb.to (Sm.refl F) fun P x f g y => ⟨upd_ne (np P g), f, (upd_ne (np P g)).trans ((upd_ne (np P g)).symm.trans g), y⟩⟩
  · rw [upd_ne (fun z => by subst z; rw [hp.1] at q; cases q)]
    exact W.sm b u q
  · by_cases hb : b = p
    · subst hb; rw [upd_same] at q ⊢; exact q
    · rw [upd_ne hb] at q ⊢
      exact W.sg b u (by rw [upd_ne hb]; exact q)
  · by_cases hb : a = p
    · subst hb; exact ⟨.inl hp.1, hp.2⟩
    · rw [upd_ne hb] at q
      exact W.fg a u (by rw [upd_ne hb]; exact q)
  · exact (W.cel n c a q r).ext (Ext.refl al F) (upd_ne fun z => hp.2 (z ▸ List.mem_of_getElem? r))
/-- a framed object is given to what nobody changes -/
theorem Wd.thaw {p : Addr} {o : HO} (W : Wd K al F (upd G p o) H M) (hg : G p = none) (ht : ∀ xs, o ≠ .tup xs := by intro _ z; cases z) : Wd K al (upd F p o) G H M ∧ Ext al F al (upd F p o) := by
  have hp := W.hidF ht
  have e : Ext al F al (upd F p o) := ⟨⟨[], by simp⟩, Sm.new hp.1⟩
  refine ⟨⟨fun b u q => ?_, fun b u q => W.sg b u (Sm.new hg b u q), fun a u q => ?_, W.len, W.nd, fun a q => ?_, fun n c a q r => (W.cel n c a q r).ext e rfl, W.tb.to e.sm fun P x f g y => ⟨rfl, (upd_ne fun z => by rw [z, upd_same] at g; cases g).trans f, by rw [upd_ne fun z => by rw [z, upd_same] at g; cases g] at g; exact g, y⟩⟩, e⟩
  · by_cases hb : b = p
    · subst hb; rw [upd_same] at q; cases q; exact W.sg _ _ upd_same
    · rw [upd_ne hb] at q; exact W.sm b u q
  · have hn : a ≠ p := fun z => by subst z; rw [hg] at q; cases q
    rw [upd_ne hn]
    exact W.fg a u (Sm.new hg a u q)
  · rw [upd_ne (show a ≠ p from fun z => hp.2 (z ▸ q))]
    exact W.out a q
end
abbrev DK := D → Sto → Prop
abbrev DXK := Value → List (Str × D) → Sto → Prop
abbrev DXS := Value → List (Str × D) → List (Option D) → Sto → Prop
@[reducible] def noX : DXS := fun _ _ _ _ => False
/-- the slots, and what is wished of an exception -/
structure Dn where
  v : List (Option D)
  x : DXS
abbrev DTE := Dn → Sto → DK → Prop
abbrev DTT := Dn → Sto → (Bool → Sto → Prop) → Prop
abbrev DTA := Dn → Sto → (List D → Sto → Prop) → Prop
structure Sl (K : PySem.W.Frag) (F : Hp) (al : List Addr) (σ : L2.St) (ρ : List (Option D)) : Prop where
  len : σ.length = ρ.length
  get : ∀ (i : Nat) (d : D), ρ[i]? = some (some d) → ∃ v, σ[i]? = some (some v) ∧ Rp K F al v d
theorem Sl.ext {K : PySem.W.Frag} {F F' : Hp} {al al' : List Addr} {σ : L2.St} {ρ : List (Option D)} (h : Sl K F al σ ρ) (e : Ext al F al' F') : Sl K F' al' σ ρ :=
  ⟨h.len, fun i d q => let ⟨v, a, b⟩ := h.get i d q; ⟨v, a, b.ext e⟩⟩
theorem Sl.set {K : PySem.W.Frag} {F : Hp} {al : List Addr} {σ : L2.St} {ρ : List (Option D)} (h : Sl K F al σ ρ) {v : V} {d : D} (r : Rp K F al v d) (i : Nat) : Sl K F al (σ.set i (some v)) (ρ.set i (some d)) := by
  refine ⟨by rw [List.length_set, List.length_set]; exact h.len, fun j e q => ?_⟩
  by_cases hj : i = j
  · subst hj
    have hl : i < ρ.length := by
      have := (List.getElem?_eq_some_iff.mp q).1
      rwa [List.length_set] at this
    rw [List.getElem?_set_self hl] at q
    cases q
    exact ⟨v, by rw [List.getElem?_set_self (by rw [h.len]; exact hl)], r⟩
  · rw [List.getElem?_set_ne hj] at q
    obtain ⟨u, a, b⟩ := h.get j e q
    exact ⟨u, by rw [List.getElem?_set_ne hj]; exact a, b⟩
/-- the fields of an exception: at o its dict -/
def FldOk (K : PySem.W.Frag) (F : Hp) (al : List Addr) (o : Option Addr) (fs : List (Str × D)) : Prop := (o = none ∧ fs = []) ∨ ∃ a vs, o = some a ∧ F a = some (.xd vs) ∧ vs.map (·.1) = fs.map (·.1) ∧ Rps K F al (vs.map (·.2)) (fs.map (·.2))
/-- the class of an exception that has a context, as a wish tells it -/
def ctxd (C : Addr) : Value := .int (C : Int) 0
/-- one that nobody tells with a context -/
def NoC (W : WX) : Prop := ∀ (C : Addr) (d : Option Addr) (σ : L2.St) (H : Hp), ¬ W (ctxd C) d σ H
def ctxW (W : WX) : WX := fun c d σ H => ∃ C : Addr, c = .ref C ∧ W (ctxd C) d σ H
def TakesC (X : Cx) (W : WX) : Prop := L2.Takes X (ctxW W)
def isX (c : Value) (d : Option Addr) (σ : L2.St) (H : Hp) : WX := fun c' d' σ' H' => c' = c ∧ d' = d ∧ σ' = σ ∧ H' = H
def plainC (c : Value) : Prop := ∀ C : Addr, c ≠ ctxd C
theorem plain_ref (C : Addr) : plainC (.ref C) := fun _ h => nomatch h
def plainW (W : WX) : WX := fun c d σ H => plainC c ∧ W c d σ H
/-- what the surroundings take of an exception -/
def W0 (X : Cx) : WX := fun c d σ H => (plainC c → L2N.Takes X (isX c d σ H)) ∧ ∀ C : Addr, c = ctxd C → L2.Takes X (isX (.ref C) d σ H)
theorem takesW (X : Cx) : L2N.Takes X (plainW (W0 X)) := fun u s' ⟨a, B, sI, pins, σ, H, cls, d, e, I, nb, up, sky, na, os, ag, p, w⟩ => w.1 p u s' ⟨a, B, sI, pins, σ, H, cls, d, e, I, nb, up, sky, na, os, ag, rfl, rfl, rfl, rfl⟩
theorem takesC (X : Cx) : TakesC X (W0 X) := fun u s' ⟨a, B, sI, pins, σ, H, cls, d, e, I, nb, up, sky, na, os, ag, C, ec, w⟩ => w.2 C rfl u s' ⟨a, B, sI, pins, σ, H, cls, d, e, I, nb, up, sky, na, os, ag, ec, rfl, rfl, rfl⟩
theorem W0.of2 {X : Cx} {W : WX} (t : L2N.Takes X (plainW W)) (tc : TakesC X W) {c : Value} {d : Option Addr} {σ : L2.St} {H : Hp} (h : W c d σ H) : W0 X c d σ H :=
  ⟨fun p => t.imp fun c' d' σ' H' e => by obtain ⟨rfl, rfl, rfl, rfl⟩ := e; exact ⟨p, h⟩, fun C ec => tc.imp fun c' d' σ' H' e => by obtain ⟨rfl, rfl, rfl, rfl⟩ := e; subst ec; exact ⟨C, rfl, h⟩⟩
theorem NoC.takes {X : Cx} {W : WX} (n : NoC W) : TakesC X W := fun _ _ ⟨_, _, _, _, _, _, _, _, _, _, _, _, _, _, _, _, C, _, w⟩ => (n C _ _ _ w).elim
theorem W0.of {X : Cx} {W : WX} (t : L2N.Takes X W) (n : NoC W) {c : Value} {d : Option Addr} {σ : L2.St} {H : Hp} (h : W c d σ H) : W0 X c d σ H := W0.of2 (t.imp fun _ _ _ _ z => z.2) n.takes h
/-- behind a call that let an exception out, with a context or without -/
def CXd (P : Program) (w : World) : CXT := fun outer H s E u s' => L2N.CX P w outer H s (fun c d H' => plainC c ∧ E c d H') u s' ∨ L2.CX P w outer H s (fun c d H' => ∃ C : Addr, c = .ref C ∧ E (ctxd C) d H') u s'
theorem passD' {X : Cx} {W : WX} (tk : L2N.Takes X (plainW W)) (tc : TakesC X W) (σ : L2.St) : PassesAt (CXd X.prog X.w) X σ (WE W σ) := fun pins H s e s' I c => by
  rcases c with c | c
  · exact tk e s' (L2N.XE.of_call I (fun _ _ _ h => h) c)
  · exact tc e s' (L2.XE.of_call I (fun _ _ _ h => h) c)
theorem passD (X : Cx) (σ : L2.St) : PassesAt (CXd X.prog X.w) X σ (WE (W0 X) σ) := passD' (takesW X) (takesC X) σ
theorem takes_ofD {X : Cx} {E : XK} (hs : X.stack = X.env :: X.outer) (hf : X.env.frame = some X.env.locals) (hex : X.ex = []) {E₁ : Value → Shared → Prop}
    (hx : X.xe = fun e s' => wpAny (model X.prog X.w) X.A (leaving X.env e) (fun _ s'' => CXd X.prog X.w X.outer X.H_0 X.s_0 E e s'') E₁ s') : L2N.Takes X (plainW fun cls d _ H => E cls d H) ∧ TakesC X (fun cls d _ H => E cls d H) := by
  constructor
  · intro u s' x
    rw [hx]
    exact wpAny_mono (L2N.XE.leave (W := plainW fun cls d _ H => E cls d H) (E := fun c d H' => plainC c ∧ E c d H') hs hf hex (fun _ _ _ _ h => h) x) (fun _ _ z => .inl z) fun _ _ z => z
  · intro u s' x
    rw [hx]
    exact wpAny_mono (L2.XE.leave (W := ctxW fun cls d _ H => E cls d H) (E := fun c d H' => ∃ C : Addr, c = .ref C ∧ E (ctxd C) d H') hs hf hex (fun _ _ _ _ h => h) x) (fun _ _ z => .inr z) fun _ _ z => z
theorem cx_noD {P : Program} {w : World} {outer : List Env} {H : Hp} {s : Shared} {u : Value} {s' : Shared} (h : CXd P w outer H s (fun _ _ _ => False) u s') : False := by
  rcases h with ⟨_, _, _, _, _, _, _, _, _, _, _, _, _, z⟩ | ⟨_, _, _, _, _, _, _, _, _, _, _, _, _, _, z⟩
  · exact z
  · exact z
def Xo (X : Cx) (al : List Addr) (F G : Hp) (x : DXS) : Prop := ∀ c fs vs M' al' F' H' o σ', Ext al F al' F' → Wd X.K al' F' G H' M' → Sl X.K F' al' σ' vs → FldOk X.K F' al' o fs → x c fs vs M' → W0 X c o σ' H'
theorem Xo.ext {X : Cx} {al al1 : List Addr} {F F1 G : Hp} {x : DXS} (h : Xo X al F G x) (e : Ext al F al1 F1) : Xo X al1 F1 G x := fun c fs vs M' al' F' H' o σ' e' => h c fs vs M' al' F' H' o σ' (e.trans e')
structure Es (X : Cx) (F G : Hp) (al : List Addr) (σ : L2.St) (ρ : Dn) : Prop where
  sl : Sl X.K F al σ ρ.v
  xo : Xo X al F G ρ.x
theorem Es.get {X : Cx} {F G : Hp} {al : List Addr} {σ : L2.St} {ρ : Dn} (h : Es X F G al σ ρ) : ∀ (i : Nat) (d : D), ρ.v[i]? = some (some d) → ∃ v, σ[i]? = some (some v) ∧ Rp X.K F al v d := h.sl.get
theorem Es.ext {X : Cx} {F F' G : Hp} {al al' : List Addr} {σ : L2.St} {ρ : Dn} (h : Es X F G al σ ρ) (e : Ext al F al' F') : Es X F' G al' σ ρ := ⟨h.sl.ext e, h.xo.ext e⟩
theorem Es.set {X : Cx} {F G : Hp} {al : List Addr} {σ : L2.St} {ρ : Dn} (h : Es X F G al σ ρ) {v : V} {d : D} (r : Rp X.K F al v d) (i : Nat) : Es X F G al (σ.set i (some v)) ⟨ρ.v.set i (some d), ρ.x⟩ := ⟨h.sl.set r i, h.xo⟩
theorem Es.of {X : Cx} {F F' G : Hp} {al al' : List Addr} {σ σ' : L2.St} {ρ ρ' : Dn} (h : Es X F G al σ ρ) (e : Ext al F al' F') (s : Sl X.K F' al' σ' ρ'.v) (q : ρ'.x = ρ.x) : Es X F' G al' σ' ρ' := ⟨s, by rw [q]; exact h.xo.ext e⟩
theorem Es.none {X : Cx} {F G : Hp} {al : List Addr} {σ : L2.St} {ρ : Dn} (s : Sl X.K F al σ ρ.v) (q : ρ.x = noX) : Es X F G al σ ρ := ⟨s, by rw [q]; exact fun _ _ _ _ _ _ _ _ _ _ _ _ _ z => z.elim⟩
/-- what follows, as data -/
def kont (K : PySem.W.Frag) (al : List Addr) (F G : Hp) (Q : VK) : DK := fun d M' => ∀ al' F' H' v, Ext al F al' F' → Wd K al' F' G H' M' → Rp K F' al' v d → Q v H'
def kontB (K : PySem.W.Frag) (al : List Addr) (F G : Hp) (Q : Bool → Hp → Prop) : Bool → Sto → Prop := fun b M' => ∀ al' F' H', Ext al F al' F' → Wd K al' F' G H' M' → Q b H'
def kontA (K : PySem.W.Frag) (al : List Addr) (F G : Hp) (Q : List V → Hp → Prop) : List D → Sto → Prop := fun ds M' => ∀ al' F' H' vs, Ext al F al' F' → Wd K al' F' G H' M' → Rps K F' al' vs ds → Q vs H'
theorem kont.ext {K : PySem.W.Frag} {al al1 : List Addr} {F F1 G : Hp} {Q : VK} {d : D} {M : Sto} (h : kont K al F G Q d M) (e : Ext al F al1 F1) : kont K al1 F1 G Q d M :=
  fun al' F' H' v e' W r => h al' F' H' v (e.trans e') W r
def Lift (X : Cx) (f : DTE) : TE := fun σ H Q => ∃ ρ M al F G, Wd X.K al F G H M ∧ Es X F G al σ ρ ∧ f ρ M (kont X.K al F G Q)
def LiftT (X : Cx) (f : DTT) : TT := fun σ H Q => ∃ ρ M al F G, Wd X.K al F G H M ∧ Es X F G al σ ρ ∧ f ρ M (kontB X.K al F G Q)
def LiftA (X : Cx) (f : DTA) : TA := fun σ H Q => ∃ ρ M al F G, Wd X.K al F G H M ∧ Es X F G al σ ρ ∧ f ρ M (kontA X.K al F G Q)
structure DE (X : Cx) (e : Expr) (f : DTE) : Prop where
  pe : PE X e (Lift X f)
  mono : ∀ ρ M (Q Q' : DK), (∀ d M, Q d M → Q' d M) → f ρ M Q → f ρ M Q'
structure DT (X : Cx) (e : Expr) (f : DTT) : Prop where
  pt : PT X e (LiftT X f)
  mono : ∀ ρ M (Q Q' : Bool → Sto → Prop), (∀ d M, Q d M → Q' d M) → f ρ M Q → f ρ M Q'
structure DW (X : Cx) (e : Expr) (f : DTT) : Prop where
  pw : PW X e (LiftT X f)
  mono : ∀ ρ M (Q Q' : Bool → Sto → Prop), (∀ d M, Q d M → Q' d M) → f ρ M Q → f ρ M Q'
structure DA (X : Cx) (es : List Expr) (f : DTA) : Prop where
  pa : PA X es (LiftA X f)
  mono : ∀ ρ M (Q Q' : List D → Sto → Prop), (∀ d M, Q d M → Q' d M) → f ρ M Q → f ρ M Q'
theorem PE.of {X : Cx} {e : Expr} {t t' : TE} (h : PE X e t) (w : ∀ σ H Q, t' σ H Q → t σ H Q) : PE X e t' := ⟨fun pins s σ H Q I q => h.run pins s σ H Q I (w σ H Q q)⟩
theorem PT.of {X : Cx} {e : Expr} {t t' : TT} (h : PT X e t) (w : ∀ σ H Q, t' σ H Q → t σ H Q) : PT X e t' := ⟨fun pins s σ H Q I q => h.run pins s σ H Q I (w σ H Q q)⟩
theorem PW.of {X : Cx} {e : Expr} {t t' : TT} (h : PW X e t) (w : ∀ σ H Q, t' σ H Q → t σ H Q) : PW X e t' := ⟨fun wh pins s σ H Q I q => h.run wh pins s σ H Q I (w σ H Q q)⟩
theorem PA.of {X : Cx} {e : List Expr} {t t' : TA} (h : PA X e t) (w : ∀ σ H Q, t' σ H Q → t σ H Q) : PA X e t' := ⟨fun pos pins s σ H Q I q => h.run pos pins s σ H Q I (w σ H Q q)⟩
theorem PS.of {X : Cx} {e : Stmt} {t t' : TS} (h : PS X e t) (w : ∀ E σ H, t' E σ H → t E σ H) : PS X e t' := ⟨fun pins s σ H E I q => h.run pins s σ H E I (w E σ H q)⟩
theorem PSs.of {X : Cx} {e : List Stmt} {t t' : TS} (h : PSs X e t) (w : ∀ E σ H, t' E σ H → t E σ H) : PSs X e t' := ⟨fun pins s σ H E I q => h.run pins s σ H E I (w E σ H q)⟩
section
variable {X : Cx}
/-- first a part, then what follows -/
theorem DE.seq {e : Expr} {f : DTE} (h : DE X e f) {ρ : Dn} {M : Sto} {al : List Addr} {F G H : Hp} {σ : L2.St} {R : DK} {P : VK} (W : Wd X.K al F G H M) (s : Es X F G al σ ρ) (q : f ρ M R)
    (k : ∀ d M1 al1 F1 H1 v, R d M1 → Ext al F al1 F1 → Wd X.K al1 F1 G H1 M1 → Rp X.K F1 al1 v d → Es X F1 G al1 σ ρ → P v H1) : Lift X f σ H P :=
  ⟨ρ, M, al, F, G, W, s, h.mono _ _ _ _ (fun d M1 r al1 F1 H1 v e W1 rp => k d M1 al1 F1 H1 v r e W1 rp (s.ext e)) q⟩
theorem DT.seq {e : Expr} {f : DTT} (h : DT X e f) {ρ : Dn} {M : Sto} {al : List Addr} {F G H : Hp} {σ : L2.St} {R : Bool → Sto → Prop} {P : Bool → Hp → Prop} (W : Wd X.K al F G H M) (s : Es X F G al σ ρ) (q : f ρ M R)
    (k : ∀ d M1 al1 F1 H1, R d M1 → Ext al F al1 F1 → Wd X.K al1 F1 G H1 M1 → Es X F1 G al1 σ ρ → P d H1) : LiftT X f σ H P :=
  ⟨ρ, M, al, F, G, W, s, h.mono _ _ _ _ (fun d M1 r al1 F1 H1 e W1 => k d M1 al1 F1 H1 r e W1 (s.ext e)) q⟩
theorem DA.seq {e : List Expr} {f : DTA} (h : DA X e f) {ρ : Dn} {M : Sto} {al : List Addr} {F G H : Hp} {σ : L2.St} {R : List D → Sto → Prop} {P : List V → Hp → Prop} (W : Wd X.K al F G H M) (s : Es X F G al σ ρ) (q : f ρ M R)
    (k : ∀ d M1 al1 F1 H1 v, R d M1 → Ext al F al1 F1 → Wd X.K al1 F1 G H1 M1 → Rps X.K F1 al1 v d → Es X F1 G al1 σ ρ → P v H1) : LiftA X f σ H P :=
  ⟨ρ, M, al, F, G, W, s, h.mono _ _ _ _ (fun d M1 r al1 F1 H1 v e W1 rp => k d M1 al1 F1 H1 v r e W1 rp (s.ext e)) q⟩
@[reducible] def dVar (i : Nat) : DTE := fun ρ M Q => match ρ.v[i]? with
  | some (some d) => Q d M
  | _ => False
@[reducible] def dC (d : D) : DTE := fun _ M Q => Q d M
theorem d_var (i : Nat) {x : Str} {pos : Pos} (hN : X.N[i]? = some x) (hv : Vis X.env.scope x) (hd : (x == ("__debug__" : Str)) = false := by decide) (hcd : (x == ("__classdict__" : Str)) = false := by decide) : DE X (.Name x pos) (dVar i) := by
  refine ⟨PE.of (pe_var hN hv hd hcd) fun σ H Q ⟨ρ, M, al, F, G, W, s, q⟩ => ?_, fun ρ M Q Q' w q => ?_⟩
  · unfold dVar at q
    split at q
    · next d e =>
      obtain ⟨v, h1, h2⟩ := s.get i d e
      exact ⟨v, h1, q al F H v (Ext.refl _ _) W h2⟩
    · exact q.elim
  · unfold dVar at q ⊢
    split at q
    · next d e => exact w _ _ q
    · exact q.elim
theorem d_const {e : Expr} {v : V} {d : D} (h : PE X e (tC v)) (r : ∀ F al, Rp X.K F al v d) : DE X e (dC d) :=
  ⟨PE.of h fun _ H _ ⟨_, _, al, F, _, W, _, q⟩ => q al F H v (Ext.refl _ _) W (r F al), fun _ _ _ _ w q => w _ _ q⟩
theorem d_int {i j pos} : DE X (.Constant (.int i) j pos) (dC (.int i)) := d_const pe_int fun _ _ => .int i
theorem d_bl {b j pos} : DE X (.Constant (.bool b) j pos) (dC (.bl b)) := d_const pe_bl fun _ _ => .bl b
theorem d_non {j pos} : DE X (.Constant .none j pos) (dC .non) := d_const pe_non fun _ _ => .non
/-- a module's constant int -/
theorem d_glob {x : Str} {i : Int} {t : Tok} {pos : Pos} (hg : Gl X x) (hm : X.mg x = some (.int i t)) (hd : (x == ("__debug__" : Str)) = false := by decide) : DE X (.Name x pos) (dC (.int i)) :=
  d_const (pe_glob (v := .int i) hg hm ⟨t, rfl⟩ hd) fun _ _ => .int i
abbrev G2 := D → D → Sto → DK → Prop
abbrev G1 := D → Sto → DK → Prop
abbrev GN := List D → Sto → DK → Prop
def Mono2 (g : G2) : Prop := ∀ x y M (Q Q' : DK), (∀ d M, Q d M → Q' d M) → g x y M Q → g x y M Q'
def Mono1 (g : G1) : Prop := ∀ x M (Q Q' : DK), (∀ d M, Q d M → Q' d M) → g x M Q → g x M Q'
def MonoN (g : GN) : Prop := ∀ x M (Q Q' : DK), (∀ d M, Q d M → Q' d M) → g x M Q → g x M Q'
/-- a two-place operation of the machine, by data -/
structure O2 (X : Cx) (f : Value → Value → Sem Value) (g : G2) : Prop where
  run : ∀ (pins : List (Addr × Obj)) (s : Shared) (σ : L2.St) (al : List Addr) (F G H : Hp) (M : Sto) (x y : V) (v u : Value) (dx dy : D) (Q : VK), Inv X pins σ H s → RelV x v → RelV y u → Wd X.K al F G H M → Rp X.K F al x dx → Rp X.K F al y dy →
    g dx dy M (kont X.K al F G Q) → wpAny (model X.prog X.w) X.A (f v u) (EP X pins σ Q) X.xe s
  mono : Mono2 g
structure O1 (X : Cx) (f : Value → Sem Value) (g : G1) : Prop where
  run : ∀ (pins : List (Addr × Obj)) (s : Shared) (σ : L2.St) (al : List Addr) (F G H : Hp) (M : Sto) (x : V) (v : Value) (dx : D) (Q : VK), Inv X pins σ H s → RelV x v → Wd X.K al F G H M → Rp X.K F al x dx →
    g dx M (kont X.K al F G Q) → wpAny (model X.prog X.w) X.A (f v) (EP X pins σ Q) X.xe s
  mono : Mono1 g
/-- a call of a value, by data -/
structure ON (X : Cx) (f : Value) (g : GN) : Prop where
  run : ∀ (pins : List (Addr × Obj)) (s : Shared) (σ : L2.St) (al : List Addr) (F G H : Hp) (M : Sto) (xs : List V) (us : List Value) (ds : List D) (Q : VK), Inv X pins σ H s → Vals xs us → Wd X.K al F G H M → Rps X.K F al xs ds →
    g ds M (kont X.K al F G Q) → wpAny (model X.prog X.w) X.A (call f us) (EP X pins σ Q) X.xe s
  mono : MonoN g
@[reducible] def dBin (g : G2) (fa fb : DTE) : DTE := fun ρ M Q => fa ρ M fun x M1 => fb ρ M1 fun y M2 => g x y M2 Q
@[reducible] def dUn (g : G1) (fa : DTE) : DTE := fun ρ M Q => fa ρ M fun x M1 => g x M1 Q
@[reducible] def dNil : DTA := fun _ M Q => Q [] M
@[reducible] def dCons (fa : DTE) (fr : DTA) : DTA := fun ρ M Q => fa ρ M fun x M1 => fr ρ M1 fun xs M2 => Q (x :: xs) M2
@[reducible] def dApp (g : GN) (fa : DTA) : DTE := fun ρ M Q => fa ρ M fun xs M1 => g xs M1 Q
variable {a b c : Expr} {fa fb fc : DTE} {pos : Pos}
theorem dBin_mono {g : G2} (hg : Mono2 g) (ha : DE X a fa) (hb : DE X b fb) : ∀ ρ M (Q Q' : DK), (∀ d M, Q d M → Q' d M) → dBin g fa fb ρ M Q → dBin g fa fb ρ M Q' :=
  fun ρ M Q Q' w q => ha.mono _ _ _ _ (fun x M1 q1 => hb.mono _ _ _ _ (fun y M2 q2 => hg x y M2 Q Q' w q2) q1) q
/-- the two operands' run, then the operation -/
theorem bin2 {g : G2} {f : Value → Value → Sem Value} (ho : O2 X f g) (ha : DE X a fa) (hb : DE X b fb) {pins : List (Addr × Obj)} {s : Shared} {σ : L2.St} {H : Hp} {Q : VK} (I : Inv X pins σ H s) (h : Lift X (dBin g fa fb) σ H Q) :
    wpAny (model X.prog X.w) X.A (eval a X.env) (fun v s₁ => wpAny (model X.prog X.w) X.A (eval b X.env) (fun u s₂ => wpAny (model X.prog X.w) X.A (f v u) (EP X pins σ Q) X.xe s₂) X.xe s₁) X.xe s := by
  obtain ⟨ρ, M, al, F, G, W, es, q⟩ := h
  refine bin ha.pe hb.pe (R := fun x y H2 => ∃ dx dy M2 al2 F2, Wd X.K al2 F2 G H2 M2 ∧ Rp X.K F2 al2 x dx ∧ Rp X.K F2 al2 y dy ∧ g dx dy M2 (kont X.K al2 F2 G Q)) I ?_ fun v u s2 x y H2 I2 rx ry h2 => ?_
  · refine ha.seq W es q fun dx M1 al1 F1 H1 v q1 e1 W1 r1 s1 => ?_
    refine hb.seq W1 s1 q1 fun dy M2 al2 F2 H2 u q2 e2 W2 r2 s2 => ?_
    exact ⟨dx, dy, M2, al2, F2, W2, r1.ext e2, r2, ho.mono _ _ _ _ _ (fun d M3 k => k.ext (e1.trans e2)) q2⟩
  · obtain ⟨dx, dy, M2, al2, F2, W2, r1, r2, k⟩ := h2
    exact ho.run pins s2 σ al2 F2 G H2 M2 x y v u dx dy Q I2 rx ry W2 r1 r2 k
theorem d_op {op : Operator} {g : G2} (ho : O2 X (binaryOp op) g) (ha : DE X a fa) (hb : DE X b fb) : DE X (.BinOp a op b pos) (dBin g fa fb) :=
  ⟨⟨fun pins s σ H Q I h => wpAny_BinOp (bin2 ho ha hb I h)⟩, dBin_mono ho.mono ha hb⟩
theorem d_cmp {op : CmpOp} {g : G2} (ho : O2 X (compareOp op) g) (ha : DE X a fa) (hb : DE X b fb) (hm : behindInMarks op b = false := by first | exact nobehind _ (by decide) (by decide) | rfl) : DE X (.Compare a [op] [b] pos) (dBin g fa fb) :=
  ⟨⟨fun pins s σ H Q I h => wpAny_Compare1 (bin2 ho ha hb I h) hm⟩, dBin_mono ho.mono ha hb⟩
theorem d_un {op : UnaryOp} {g : G1} (ho : O1 X (unaryOp op) g) (ha : DE X a fa) : DE X (.UnaryOp op a pos) (dUn g fa) := by
  refine ⟨⟨fun pins s σ H Q I h => ?_⟩, fun ρ M Q Q' w q => ha.mono _ _ _ _ (fun x M1 q1 => ho.mono x M1 Q Q' w q1) q⟩
  obtain ⟨ρ, M, al, F, G, W, es, q⟩ := h
  have hl : Lift X fa σ H (fun x H1 => ∃ dx M1 al1 F1, Wd X.K al1 F1 G H1 M1 ∧ Rp X.K F1 al1 x dx ∧ g dx M1 (kont X.K al1 F1 G Q)) :=
    ha.seq W es q fun dx M1 al1 F1 H1 v q1 e1 W1 r1 s1 => ⟨dx, M1, al1, F1, W1, r1, ho.mono _ _ _ _ (fun d M3 k => k.ext e1) q1⟩
  refine UnaryOp_ (thn (ha.pe.run pins s σ H _ I hl) fun v s1 ⟨x, H1, I1, rx, dx, M1, al1, F1, W1, r1, k⟩ => ?_)
  exact ho.run pins s1 σ al1 F1 G H1 M1 x v dx Q I1 rx W1 r1 k
theorem d_nil : DA X [] dNil := ⟨PA.of pa_nil fun _ H _ ⟨_, _, al, F, _, W, _, q⟩ => q al F H [] (Ext.refl _ _) W .nil, fun _ _ _ _ w q => w _ _ q⟩
theorem d_cons {es : List Expr} {fr : DTA} (ha : DE X a fa) (hr : DA X es fr) (hs : starEach (a :: es) X.env = (false, eval a X.env) :: starEach es X.env := by rfl) : DA X (a :: es) (dCons fa fr) := by
  refine ⟨PA.of (pa_cons ha.pe hr.pa hs) fun σ H Q ⟨ρ, M, al, F, G, W, es, q⟩ => ?_, fun ρ M Q Q' w q => ha.mono _ _ _ _ (fun x M1 q1 => hr.mono _ _ _ _ (fun y M2 q2 => w _ _ q2) q1) q⟩
  refine ha.seq W es q fun dx M1 al1 F1 H1 v q1 e1 W1 r1 s1 => ?_
  refine hr.seq W1 s1 q1 fun dy M2 al2 F2 H2 u q2 e2 W2 r2 s2 => ?_
  exact q2 al2 F2 H2 _ (e1.trans e2) W2 (.cons (r1.ext e2) r2)
/-- the value-rules of the layer, as data-rules -/
theorem O2.of {f : Value → Value → Sem Value} {r : R2} {g : G2} (h : OpR X f r) (m : Mono2 g)
    (k : ∀ al F G H M x y dx dy Q, Wd X.K al F G H M → Rp X.K F al x dx → Rp X.K F al y dy → g dx dy M (kont X.K al F G Q) → r x y H Q) : O2 X f g :=
  ⟨fun pins s σ al F G H M x y v u dx dy Q I rx ry W r1 r2 q => h pins s σ H x y v u Q I rx ry (k al F G H M x y dx dy Q W r1 r2 q), m⟩
theorem ON.of {f : Value} {r : List V → Hp → VK → Prop} {g : GN} (h : CallR X f r) (m : MonoN g)
    (k : ∀ al F G H M xs ds Q, Wd X.K al F G H M → Rps X.K F al xs ds → g ds M (kont X.K al F G Q) → r xs H Q) : ON X f g :=
  ⟨fun pins s σ al F G H M xs us ds Q I rx W r1 q => h pins s σ H xs us Q I rx (k al F G H M xs ds Q W r1 q), m⟩
end
end DL
namespace DL
open PySem PySem.Spec PyProof.Rows L2
/-- a def keeps its promise, wherever no repr is under way -/
structure FnG (P : Program) (w : World) (K : PySem.W.Frag) (mg : Str → Option Value) (base : Heap) (CX : CXT) (k : Nat) (f : Addr) (fd : FuncData) (ps : List Str) (sp : Sp) : Prop where
  len : ∀ vs H Q E, sp vs H Q E → vs.length = ps.length
  run : ∀ (A : Around) (outer : List Env) (s : Shared) (H : Hp) (args : Args) (us : List Value) (vs : List V) (Q : VK) (E : XK), A.guards = some [] → Room k A → Env0 P w K mg base A outer s H → BindsTo s fd args (ps.zip us) → Vals vs us →
    sp vs H Q E → codeAny (model P w) A (Code.call (Value.ref f) args) (CR CX outer P w H s Q E) s
theorem FnG.mono {P : Program} {w : World} {K : PySem.W.Frag} {mg : Str → Option Value} {base : Heap} {CX : CXT} {j k : Nat} {f : Addr} {fd : FuncData} {ps : List Str} {sp : Sp} (h : FnG P w K mg base CX j f fd ps sp) (le : j ≤ k) : FnG P w K mg base CX k f fd ps sp :=
  ⟨h.len, fun A outer s H args us vs Q E hg hr => h.run A outer s H args us vs Q E hg (hr.mono le)⟩
section
variable {P : Program} {w : World} {K : PySem.W.Frag} {mg : Str → Option Value} {base : Heap}
theorem fnG_of {CX : CXT} {k : Nat} {f : Addr} {x qual : Str} {st : Stmt} {fd : FuncData} {N ps : List Str} {sp : Sp} (F : Fun K x qual st f fd) (S : FnScope N ps (defScope st)) (len : ∀ vs H Q E, sp vs H Q E → vs.length = ps.length)
    (body : ∀ (cdv : Value), fd.code = cdv → ∀ (A : Around) (outer : List Env) (s : Shared) (H : Hp) (vs : List V) (Q : VK) (E : XK), (A.deeper (envOfC qual (defScope st) s.heap.objs.size f cdv)).guards = some [] → Room k (A.deeper (envOfC qual (defScope st) s.heap.objs.size f cdv)) → sp vs H Q E →
      ∃ t, PSs (cxOf CX P w K mg base N qual (defScope st) f cdv A outer s H E) (defBody st) t ∧ t { nx := fun _ H' => Q .non H', rt := Q } (start N vs) H) : FnG P w K mg base CX (k + 1) f fd ps sp := by
  obtain ⟨oc, od, kV, doc, pm, an, cdv, ct, osl, rfl, lk, hcd⟩ := F.ex
  refine ⟨len, fun A outer s H args us vs Q E hgd hr e0 hbi rv hsp => ?_⟩
  have KI : K.In s.heap := e0.mod.kin.keeps fun b o e => (e0.bs b o e).1
  have nolim : s.heap.NoLimit := e0.mod.nolimit.keeps fun b o e => (e0.bs b o e).1
  have kinds : ∀ y ∈ ps.zip us, (defScope st).names.lookup y.1 = some .local ∨ ((defScope st).names.lookup y.1 = some .cell ∧ ((cellsFrom (s.heap.objs.size + 1) (defScope st).names []).lookup y.1).isSome = true) := by
    rintro ⟨n, v⟩ hy
    exact (S.par n (List.of_mem_zip hy).1).imp id fun q => ⟨q, PySem.W.cellsFrom_some _ _ _ (.inl q)⟩
  refine codeAny_call_function hr.depth (KI _ _ lk) rfl S.co S.gen rfl (PySem.W.codeRec_of KI hcd) (hbi _ _ _ _ (wpAny_newFunctionEnv_cells S.kind kinds fun env henv s1 ic => ?_))
  subst henv
  refine ⟨nolim.keeps ic.toInCall.keep, codeAny_func ?_⟩
  obtain ⟨t, pt, tq⟩ := body cdv rfl A outer s H vs Q E hgd (hr.deeper _) hsp
  have J0 : Inv (cxOf CX P w K mg base N qual (defScope st) f cdv A outer s H E) [] (start N vs) H s1 := inv_start S hr.hd e0 (len _ _ _ _ hsp) rv ic
  refine wpAny_mono (pt.run [] s1 (start N vs) H _ J0 tq) (fun fl s' z => ?_) fun _ _ z => z
  cases fl with
  | ret u => obtain ⟨v, σ', H', J, r, q⟩ := z; exact ⟨v, H', J.os, J.bare, J.base, J.hok, r, q⟩
  | next => obtain ⟨σ', H', J, q⟩ := z; exact ⟨V.non, H', J.os, J.bare, J.base, J.hok, rfl, q⟩
  | brk => obtain ⟨_, _, _, q⟩ := z; exact q.elim
  | cont => obtain ⟨_, _, _, q⟩ := z; exact q.elim
end
section
variable {X : Cx} {CX : CXT} {k : Nat} {f : Addr} {fd : FuncData} {ps : List Str} {sp : Sp} {dvs : List V} {dds : List Value} {E : XK}
theorem runGS {pins : List (Addr × Obj)} {σ : L2.St} {H : Hp} {s : Shared} {Q : VK} {us : List Value} {vs : List V} {E : L2.St → XK} (F : FnG X.prog X.w X.K X.mg X.base CX k f fd ps sp) (hgd : X.A.guards = some []) (hr : Room k X.A) (hb : Binds X.K fd ps dds) (hd : Vals dvs dds) (hx : PassesAt CX X σ (E σ))
    (I : Inv X pins σ H s) (r : Vals vs us) (h : sp (vs ++ dvs) H Q (E σ)) : wpAny (model X.prog X.w) X.A (call (.ref f) us) (EP X pins σ Q) X.xe s := by
  have rr : Vals (vs ++ dvs) (us ++ dds) := r.append hd
  have ll : (us ++ dds).length = ps.length := rr.length.symm.trans (F.len _ _ _ _ h)
  refine wpAny_call (codeAny_mono (F.run X.A X.stack s H ⟨us, []⟩ _ _ Q (E σ) hgd hr I.env0 (hb s us I.kIn ll) rr h) fun res s' z => ?_)
  match res, z with
  | .error e, z => exact hx pins H s e s' I z
  | .ok (.ret u), z => exact I.after z
  | .ok .next, z => exact z.elim
  | .ok .brk, z => exact z.elim
  | .ok .cont, z => exact z.elim
/-- a call whose exceptions are told with the slots -/
def tCallSD' (sp : Sp) (dvs : List V) (E : L2.St → XK) (t : TA) : TE := fun σ H Q => t σ H fun vs H1 => sp (vs ++ dvs) H1 Q (E σ)
theorem peG_callS {x : Str} {p pos : Pos} {e : Expr} {es : List Expr} {t : TA} {E : L2.St → XK} (F : FnG X.prog X.w X.K X.mg X.base CX k f fd ps sp) (hgd : X.A.guards = some []) (hr : Room k X.A) (hg : Gl X x) (hm : X.mg x = some (.ref f)) (hk : PySem.W.keepIn X.K (.ref f) = true) (hb : Binds X.K fd ps dds) (hd : Vals dvs dds) (hx : ∀ σ, PassesAt CX X σ (E σ))
    (ha : PA X (e :: es) t) (hdb : (x == ("__debug__" : Str)) = false := by decide) (he : starEach (e :: es) X.env = (false, eval e X.env) :: starEach es X.env := by rfl) (hpl : (backTo pos (starEach es X.env)).any (·.1) = false := by rfl) :
    PE X (.Call (.Name x p) (e :: es) [] pos) (tCallSD' sp dvs E t) :=
  ⟨fun pins s σ H Q I h => wpAny_Call_Name_kw (ld_glob I hg hm (PySem.W.callWith_K (h₀ := X.base) I.ok.mod.kin hk (thn (ha.run pos pins s σ H _ I h) fun us s1 ⟨vs, H1, I1, r, q⟩ => ⟨I1.kIn, runGS F hgd hr hb hd (hx σ) I1 r q⟩) he hpl) hdb)⟩
end
theorem law_callG {P : Program} {w : World} {K : PySem.W.Frag} {mg mb : Str → Option Value} {CX : CXT} {k : Nat} {fa a : Addr} {fd : FuncData} {x : Str} {sp : Sp} {t0 : Shared} {vs : List Value} {ns : List Int}
    (KI : K.In t0.heap) (hglob : t0.heap.Ns mainGlobals mg) (hblt : t0.heap.Ns builtinsNs mb) (hbo : ∀ x : Str, x ≠ "__name__" → mb x = bootBuiltins x) (hlim : t0.heap.NoLimit) (hgen : t0.gens = #[])
    (ha : t0.heap.get? a = some { cls := .type "list", data := .seq vs.toArray }) (hi : IntsAre vs ns) (hl : ns.length ≤ sizeLine) (hr : Room k callerA) (TH : TabsH K t0.heap)
    (F : ∀ base : Heap, K.In base → base.Ns mainGlobals mg → FnG P w K mg base CX k fa fd [x] sp) (hbind : ∀ (s : Shared) (u : Value), BindsTo s fd ⟨[u], []⟩ [(x, u)])
    (hsp : ∀ H : Hp, (∀ p ∈ Tk K, H p.1 = some (.tbl #[])) → SqL K H a (ns.map V.int) → sp [.ref a] H (fun v _ => v = .bl true) fun _ _ _ => False)
    (hCX : ∀ H e s', CX [] H t0 (fun _ _ _ => False) e s' → False) :
    codeAny (model P w) callerA (.call (.ref fa) ⟨[.ref a], []⟩) (fun r s' => r = .ok (.ret (.bool true)) ∧ OldK t0.heap s'.heap ∧ s'.os = t0.os ∧ AllBare s'.gens) t0 := by
  let tb : Addr → Bool := fun b => (Tk K).any fun p => decide (p.1 = b)
  have tbE : ∀ b, tb b = true → ∃ p ∈ Tk K, p.1 = b := fun b h => by
    obtain ⟨p, hp, e⟩ := List.any_eq_true.mp h
    exact ⟨p, hp, of_decide_eq_true e⟩
  have tbI : ∀ p ∈ Tk K, tb p.1 = true := fun p hp => List.any_eq_true.mpr ⟨p, hp, decide_eq_true rfl⟩
  have tbO : ∀ b, tb b = true → t0.heap.get? b = some { cls := .none, data := .fields #[] } := fun b h => by
    obtain ⟨p, hp, rfl⟩ := tbE b h
    exact (TH p hp).1
  have tba : tb a = false := by
    cases h : tb a with
    | false => rfl
    | true =>
      have e := tbO a h
      rw [ha] at e
      have z : Data.seq vs.toArray _ = Data.fields #[] := congrArg Obj.data (Option.some.inj e)
      exact nomatch z
  have key : ∀ H : Hp, (∀ p ∈ Tk K, H p.1 = some (.tbl #[])) → (∀ b, tb b = false → H b = none ∨ ∃ o xs, H b = some (.frz o (.lst xs))) → SqL K H a (ns.map V.int) → HOk P w H t0.heap → (∀ b, H b ≠ none → b = a ∨ tb b = true) → (H a ≠ none → K.lookup a = none) →
      codeAny (model P w) callerA (.call (.ref fa) ⟨[.ref a], []⟩) (fun r s' => r = .ok (.ret (.bool true)) ∧ OldK t0.heap s'.heap ∧ s'.os = t0.os ∧ AllBare s'.gens) t0 := by
    intro H hH hO hS hok hA hK
    have free : ∀ {b : Addr} {o : Obj} {es : Array DictEntry} {ep : Nat}, t0.heap.get? b = some o → o.data = .dict es ep → H b = none := by
      intro b o es ep e d
      cases q : H b with
      | none => rfl
      | some u =>
        rcases hA b (by rw [q]; simp) with z | z
        · subst z
          rw [ha] at e
          cases e
          exact absurd (show Data.seq vs.toArray _ = Data.dict es ep from d) (fun y => nomatch y)
        · rw [tbO b z] at e
          cases e
          exact absurd (show Data.fields #[] = Data.dict es ep from d) (fun y => nomatch y)
    have nsH : ∀ {b : Addr} {m : Str → Option Value}, t0.heap.Ns b m → (hidT t0.heap H).Ns b m := fun {b m} ⟨o, es, ep, e, d, r⟩ => ⟨o, es, ep, hidT_get e (free e d), d, r⟩
    have KH : K.In (hidT t0.heap H) := by
      intro b o e
      refine hidT_get (KI b o e) ?_
      cases q : H b with
      | none => rfl
      | some u =>
        rcases hA b (by rw [q]; simp) with z | z
        · subst z
          have := hK (by rw [q]; simp)
          rw [this] at e
          cases e
        · obtain ⟨p, hp, rfl⟩ := tbE b z
          rw [(TH p hp).2.1] at e
          cases e
    obtain ⟨mc, l1, l2⟩ := hlim
    have md : Mod K mg (hidT t0.heap H) := ⟨KH, nsH hglob, ⟨mb, nsH hblt, hbo⟩, mc, nsH l1, l2⟩
    have e0 : Env0 P w K mg (hidT t0.heap H) callerA [] t0 H := ⟨rfl, md, fun b o e => of_hidT e, Nat.le_of_eq (hidT_size _ _), trivial, fun b z => (List.not_mem_nil z).elim, hok, .of_eq hgen⟩
    refine codeAny_mono ((F _ KH (nsH hglob)).run callerA [] t0 H ⟨[.ref a], []⟩ [.ref a] [.ref a] _ _ rfl hr e0 (hbind t0 (.ref a)) (.cons rfl .nil) (hsp H hH hS)) fun res s' z => ?_
    match res, z with
    | .error e, z => exact (hCX H e s' z).elim
    | .ok .next, z => exact z.elim
    | .ok .brk, z => exact z.elim
    | .ok .cont, z => exact z.elim
    | .ok (.ret u), z =>
      obtain ⟨v, H', os, bare, un, hok', r', q⟩ := z
      obtain rfl : v = .bl true := q
      obtain rfl : u = Value.bool true := r'
      have old : ∀ b o, tb b = false → t0.heap.get? b = some o → s'.heap.get? b = some o := fun b o nb e => by
        cases y : H b with
        | none => exact un.keep b o e y (fun z => (List.not_mem_nil z).elim) List.not_mem_nil
        | some u =>
          rcases hO b nb with n | ⟨ob, xs, n⟩
          · rw [y] at n; cases n
          · have c1 := (hok b _ n).1
            have c2 := (hok' b _ (un.frzs b ob _ n)).1
            rw [e] at c1
            cases c1
            exact c2
      have grew : ∀ p ∈ Tk K, ∃ more : Array Value, s'.heap.get? p.1 = some { cls := .none, data := .fields (#[] ++ more) } := fun p hp => by
        obtain ⟨more, z⟩ := un.tbls p.1 #[] (hH p hp)
        exact ⟨more, hok' p.1 _ z⟩
      refine ⟨rfl, ⟨fun b o e => ?_, fun b o e => ?_⟩, os, bare⟩
      · cases hb : tb b with
        | false => exact .inl (old b o hb e)
        | true =>
          obtain ⟨p, hp, rfl⟩ := tbE b hb
          obtain ⟨t1, _, c, t3⟩ := TH p hp
          obtain ⟨more, g⟩ := grew p hp
          rw [t1] at e
          cases e
          exact .inr (.inl ⟨((PySem.W.codeHd_of_K KI t3).tab t1).isCodeTable, rfl, #[], more, rfl, g⟩)
      · cases hb : tb b with
        | false => exact ⟨o, old b o hb e⟩
        | true =>
          obtain ⟨p, hp, rfl⟩ := tbE b hb
          obtain ⟨more, g⟩ := grew p hp
          exact ⟨_, g⟩
  cases hk : K.lookup a with
  | some o =>
    have e := KI a o hk
    rw [ha] at e
    cases e
    refine key (fun b => if tb b = true then some (.tbl #[]) else none) (fun p hp => if_pos (tbI p hp)) (fun b nb => .inl (if_neg (by rw [nb]; exact Bool.false_ne_true))) (.inr ⟨_, vs.toArray, _, hk, rfl, rfl, rfl, by rw [List.size_toArray, hi.length]; exact hl, by simpa using vals_ints hi⟩) (fun b u z => ?_) (fun b z => ?_) (fun z => absurd (if_neg (by rw [tba]; exact Bool.false_ne_true)) z)
    · dsimp only at z
      split at z
      · next hb =>
        cases z
        exact tbO b hb
      · cases z
    · cases hb : tb b with
      | true => exact .inr rfl
      | false => exact absurd (if_neg (by rw [hb]; exact Bool.false_ne_true)) z
  | none =>
    let ob : Obj := { cls := .type "list", data := .seq vs.toArray }
    have na : ∀ b, tb b = true → b ≠ a := fun b hb z => by rw [z, tba] at hb; cases hb
    refine key (upd (fun b => if tb b = true then some (.tbl #[]) else none) a (.frz ob (.lst (ns.map V.int)))) (fun p hp => (upd_ne (na _ (tbI p hp))).trans (if_pos (tbI p hp))) (fun b nb => ?_) (.inl (.inr ⟨ob, upd_same⟩)) (fun b u z => ?_) (fun b z => ?_) fun _ => hk
    · by_cases hb : b = a
      · subst hb; exact .inr ⟨_, _, upd_same⟩
      · exact .inl ((upd_ne hb).trans (if_neg (by rw [nb]; exact Bool.false_ne_true)))
    · by_cases hb : b = a
      · subst hb
        rw [upd_same] at z
        cases z
        exact ⟨ha, by rw [List.length_map]; exact hl, vs, _, vals_ints hi, ha⟩
      · rw [upd_ne hb] at z
        split at z
        · next hb2 =>
          cases z
          exact tbO b hb2
        · cases z
    · by_cases hb : b = a
      · exact .inl hb
      · cases hb2 : tb b with
        | true => exact .inr rfl
        | false =>
          rw [upd_ne hb] at z
          exact absurd (if_neg (by rw [hb2]; exact Bool.false_ne_true)) z
theorem cx_no {P : Program} {w : World} {outer : List Env} {H : Hp} {s : Shared} {u : Value} {s' : Shared} (h : CXd P w outer H s (fun _ _ _ => False) u s') : False := cx_noD h
end DL
namespace DL
open PySem PySem.Spec PyProof.Rows L2
@[reducible] def gTru : D → Sto → (Bool → Sto → Prop) → Prop
  | .non, M, Q => Q false M
  | .bl b, M, Q => Q b M
  | .int i, M, Q => Q (i != 0) M
  | .str x, M, Q => x.length ≤ sizeLine ∧ Q ((x.length : Int) != 0) M
  | .tup ds, M, Q => Q (!ds.isEmpty) M
  | .lst ds, M, Q => Q (!ds.isEmpty) M
  | .ref n, M, Q => match M[n]? with
    | some (.lst ds) => Q (!ds.isEmpty) M
    | _ => False
  | _, _, _ => False
@[reducible] def dTru (f : DTE) : DTT := fun ρ M Q => f ρ M fun d M1 => gTru d M1 Q
theorem gTru_mono (d : D) (M : Sto) (Q Q' : Bool → Sto → Prop) (w : ∀ b M, Q b M → Q' b M) (h : gTru d M Q) : gTru d M Q' := by
  cases d with
  | non => exact w _ _ h
  | bl b => exact w _ _ h
  | int i => exact w _ _ h
  | str x => exact ⟨h.1, w _ _ h.2⟩
  | tup ds => exact w _ _ h
  | lst ds => exact w _ _ h
  | dct ks ds => exact h.elim
  | scr ns => exact h.elim
  | exo a c o ks ds => exact h.elim
  | clo f fo vs ds => exact h.elim
  | ref n =>
    unfold gTru at h ⊢
    dsimp only at h ⊢
    split at h
    · exact w _ _ h
    · exact h.elim
theorem isEmpty_len {α β : Type} {xs : List α} {ys : List β} (h : xs.length = ys.length) : (!xs.isEmpty) = (!ys.isEmpty) := by
  cases xs <;> cases ys <;> simp at h <;> rfl
theorem gTru_ok {K : PySem.W.Frag} {al : List Addr} {F G H : Hp} {M : Sto} {v : V} {d : D} {Q : Bool → Hp → Prop} (W : Wd K al F G H M) (r : Rp K F al v d) (h : gTru d M (kontB K al F G Q)) : ∃ k, TruV K v H k ∧ Q k H := by
  cases r with
  | non => exact ⟨false, rfl, h al F H (Ext.refl _ _) W⟩
  | bl b => exact ⟨b, rfl, h al F H (Ext.refl _ _) W⟩
  | int i => exact ⟨_, rfl, h al F H (Ext.refl _ _) W⟩
  | str x => exact ⟨_, ⟨h.1, rfl⟩, h.2 al F H (Ext.refl _ _) W⟩
  | tup a b => exact ⟨_, .inr (.inl ⟨_, (W.sm.sq a), (isEmpty_len b.length).symm⟩), h al F H (Ext.refl _ _) W⟩
  | lst a b => exact ⟨_, .inl ⟨_, SqL.of (W.sm _ _ a), (isEmpty_len b.length).symm⟩, h al F H (Ext.refl _ _) W⟩
  | dct a l b => exact h.elim
  | scr a => exact h.elim
  | exo0 => exact h.elim
  | exo a l b => exact h.elim
  | clo a b => exact h.elim
  | ref a =>
    unfold gTru at h
    dsimp only at h
    split at h
    · next ds e =>
      obtain ⟨xs, q, rs⟩ := W.cel _ _ _ e a
      exact ⟨_, .inl ⟨xs, SqL.of q, (isEmpty_len rs.length).symm⟩, h al F H (Ext.refl _ _) W⟩
    · exact h.elim
section
variable {X : Cx} {a b c : Expr} {fa fb fc : DTE} {pos : Pos} {ta tb : DTT} {rest : List Expr}
/-- any expression as a test -/
theorem dt_val (h : DE X a fa) (he : ∀ whole, isTrue a X.env whole = (do let v ← whole; standAt a.pos; holding [v] (truthy v)) := by intro _; rfl) : DT X a (dTru fa) := by
  refine ⟨PT.of (pt_truth h.pe he) fun σ H Q ⟨ρ, M, al, F, G, W, es, q⟩ => ?_, fun ρ M Q Q' w q => h.mono _ _ _ _ (fun d M1 q1 => gTru_mono d M1 Q Q' w q1) q⟩
  refine h.seq W es q fun d M1 al1 F1 H1 v q1 e1 W1 r1 s1 => ?_
  exact gTru_ok W1 r1 (gTru_mono _ _ _ _ (fun b M2 k al' F' H' e' W' => k al' F' H' (e1.trans e') W') q1)
@[reducible] def dBl (f : DTE) : DTT := fun ρ M Q => f ρ M fun d M1 => match d with
  | .bl b => Q b M1
  | _ => False
theorem dBl_mono (h : DE X a fa) : ∀ ρ M (Q Q' : Bool → Sto → Prop), (∀ d M, Q d M → Q' d M) → dBl fa ρ M Q → dBl fa ρ M Q' := fun ρ M Q Q' w q => h.mono _ _ _ _ (fun d M1 q1 => by
  cases d <;> first | exact w _ _ q1 | exact q1.elim) q
/-- a comparison as a test -/
theorem dt_cmp {op : CmpOp} {g : G2} (ho : O2 X (compareOp op) g) (ha : DE X a fa) (hb : DE X b fb) (hm : behindInMarks op b = false := by first | exact nobehind _ (by decide) (by decide) | rfl) : DT X (.Compare a [op] [b] pos) (dBl (dBin g fa fb)) := by
  refine ⟨⟨fun pins s σ H Q I h => ?_⟩, dBl_mono (d_cmp (pos := pos) ho ha hb hm)⟩
  obtain ⟨ρ, M, al, F, G, W, es, q⟩ := h
  have hl : Lift X (dBin g fa fb) σ H (fun v H1 => ∃ c, v = .bl c ∧ Q c H1) :=
    (d_cmp (pos := pos) ho ha hb hm).seq W es q fun d M1 al1 F1 H1 v q1 e1 W1 r1 s1 => by
      cases r1 <;> first | exact ⟨_, rfl, q1 al1 F1 H1 e1 W1⟩ | exact q1.elim
  refine wpAny_isTrue_Compare1 (thn (bin2 ho ha hb I hl) fun v s1 h1 => thn h1 fun u s2 h2 => thn h2 fun c s3 ⟨x, H1, I1, r1, q1⟩ => ?_) hm
  obtain ⟨d, rfl, q⟩ := q1
  cases r1
  exact wpAny_truthy_bool ⟨H1, I1, q⟩
@[reducible] def dAnd (t u : DTT) : DTT := fun ρ M Q => t ρ M fun b M1 => if b = true then u ρ M1 Q else Q false M1
@[reducible] def dOr (t u : DTT) : DTT := fun ρ M Q => t ρ M fun b M1 => if b = true then Q true M1 else u ρ M1 Q
@[reducible] def dNot (t : DTT) : DTT := fun ρ M Q => t ρ M fun b M1 => Q (!b) M1
theorem dw_and1 (h : DT X a ta) : DW X (.BoolOp .And [a] pos) ta := ⟨pw_and1 h.pt, h.mono⟩
theorem dw_or1 (h : DT X a ta) : DW X (.BoolOp .Or [a] pos) ta := ⟨pw_or1 h.pt, h.mono⟩
theorem dw_and (h : DT X a ta) (g : DW X (.BoolOp .And (b :: rest) pos) tb) : DW X (.BoolOp .And (a :: b :: rest) pos) (dAnd ta tb) := by
  refine ⟨PW.of (pw_and h.pt g.pw) fun σ H Q ⟨ρ, M, al, F, G, W, es, q⟩ => ?_, fun ρ M Q Q' w q => h.mono _ _ _ _ (fun b M1 q1 => ?_) q⟩
  · refine h.seq W es q fun d M1 al1 F1 H1 q1 e1 W1 s1 => ?_
    cases d with
    | true => exact ⟨ρ, M1, al1, F1, G, W1, s1, g.mono _ _ _ _ (fun b M2 k al' F' H' e' W' => k al' F' H' (e1.trans e') W') q1⟩
    | false => exact q1 al1 F1 H1 e1 W1
  · cases b with
    | true => exact g.mono _ _ _ _ w q1
    | false => exact w _ _ q1
theorem dw_or (h : DT X a ta) (g : DW X (.BoolOp .Or (b :: rest) pos) tb) : DW X (.BoolOp .Or (a :: b :: rest) pos) (dOr ta tb) := by
  refine ⟨PW.of (pw_or h.pt g.pw) fun σ H Q ⟨ρ, M, al, F, G, W, es, q⟩ => ?_, fun ρ M Q Q' w q => h.mono _ _ _ _ (fun b M1 q1 => ?_) q⟩
  · refine h.seq W es q fun d M1 al1 F1 H1 q1 e1 W1 s1 => ?_
    cases d with
    | false => exact ⟨ρ, M1, al1, F1, G, W1, s1, g.mono _ _ _ _ (fun b M2 k al' F' H' e' W' => k al' F' H' (e1.trans e') W') q1⟩
    | true => exact q1 al1 F1 H1 e1 W1
  · cases b with
    | false => exact g.mono _ _ _ _ w q1
    | true => exact w _ _ q1
theorem DW.dt (h : DW X a ta) : DT X a ta := ⟨PW.pt h.pw, h.mono⟩
theorem dt_not (h : DT X a ta) : DT X (.UnaryOp .Not a pos) (dNot ta) := by
  refine ⟨PT.of (pt_not h.pt) fun σ H Q ⟨ρ, M, al, F, G, W, es, q⟩ => ?_, fun ρ M Q Q' w q => h.mono _ _ _ _ (fun b M1 q1 => w _ _ q1) q⟩
  exact h.seq W es q fun d M1 al1 F1 H1 q1 e1 W1 s1 => q1 al1 F1 H1 e1 W1
/-- and, or, not as values: all but the last are bools -/
@[reducible] def dAndV (fa fb : DTE) : DTE := fun ρ M Q => fa ρ M fun d M1 => match d with
  | .bl true => fb ρ M1 Q
  | .bl false => Q (.bl false) M1
  | _ => False
@[reducible] def dOrV (fa fb : DTE) : DTE := fun ρ M Q => fa ρ M fun d M1 => match d with
  | .bl true => Q (.bl true) M1
  | .bl false => fb ρ M1 Q
  | _ => False
@[reducible] def dNotV (fa : DTE) : DTE := fun ρ M Q => fa ρ M fun d M1 => match d with
  | .bl b => Q (.bl (!b)) M1
  | _ => False
theorem d_one {op} (h : DE X a fa) : DE X (.BoolOp op [a] pos) fa := ⟨pe_one h.pe, h.mono⟩
theorem d_and (h : DE X a fa) (g : DE X (.BoolOp .And (b :: rest) pos) fb) : DE X (.BoolOp .And (a :: b :: rest) pos) (dAndV fa fb) := by
  refine ⟨PE.of (pe_and h.pe g.pe) fun σ H Q ⟨ρ, M, al, F, G, W, es, q⟩ => ?_, fun ρ M Q Q' w q => h.mono _ _ _ _ (fun d M1 q1 => ?_) q⟩
  · refine h.seq W es q fun d M1 al1 F1 H1 v q1 e1 W1 r1 s1 => ?_
    cases r1 with
    | bl b =>
      refine ⟨b, rfl, ?_⟩
      cases b with
      | true => exact ⟨ρ, M1, al1, F1, G, W1, s1, g.mono _ _ _ _ (fun b M2 k => k.ext e1) q1⟩
      | false => exact q1 al1 F1 H1 _ e1 W1 (.bl false)
    | _ => exact q1.elim
  · cases d with
    | bl b =>
      cases b with
      | true => exact g.mono _ _ _ _ w q1
      | false => exact w _ _ q1
    | _ => exact q1.elim
theorem d_not (h : DE X a fa) : DE X (.UnaryOp .Not a pos) (dNotV fa) := by
  refine ⟨PE.of (pe_not h.pe) fun σ H Q ⟨ρ, M, al, F, G, W, es, q⟩ => ?_, fun ρ M Q Q' w q => h.mono _ _ _ _ (fun d M1 q1 => ?_) q⟩
  · refine h.seq W es q fun d M1 al1 F1 H1 v q1 e1 W1 r1 s1 => ?_
    cases r1 with
    | bl b => exact ⟨b, rfl, q1 al1 F1 H1 _ e1 W1 (.bl _)⟩
    | _ => exact q1.elim
  · cases d with
    | bl b => exact w _ _ q1
    | _ => exact q1.elim
@[reducible] def dIf (t : DTT) (fa fb : DTE) : DTE := fun ρ M Q => t ρ M fun b M1 => if b = true then fa ρ M1 Q else fb ρ M1 Q
theorem d_if (hc : DT X c ta) (ha : DE X a fa) (hb : DE X b fb) : DE X (.IfExp c a b pos) (dIf ta fa fb) := by
  refine ⟨PE.of (pe_ifExp hc.pt ha.pe hb.pe) fun σ H Q ⟨ρ, M, al, F, G, W, es, q⟩ => ?_, fun ρ M Q Q' w q => hc.mono _ _ _ _ (fun d M1 q1 => ?_) q⟩
  · refine hc.seq W es q fun d M1 al1 F1 H1 q1 e1 W1 s1 => ?_
    cases d with
    | true => exact ⟨ρ, M1, al1, F1, G, W1, s1, ha.mono _ _ _ _ (fun b M2 k => k.ext e1) q1⟩
    | false => exact ⟨ρ, M1, al1, F1, G, W1, s1, hb.mono _ _ _ _ (fun b M2 k => k.ext e1) q1⟩
  · cases d with
    | true => exact ha.mono _ _ _ _ w q1
    | false => exact hb.mono _ _ _ _ w q1
end
structure DEnds where
  nx : Dn → Sto → Prop
  rt : DK
  bk : Dn → Sto → Prop := fun _ _ => False
  ct : Dn → Sto → Prop := fun _ _ => False
structure DEnds.Le (D D' : DEnds) : Prop where
  nx : ∀ ρ M, D.nx ρ M → D'.nx ρ M
  rt : ∀ d M, D.rt d M → D'.rt d M
  bk : ∀ ρ M, D.bk ρ M → D'.bk ρ M
  ct : ∀ ρ M, D.ct ρ M → D'.ct ρ M
abbrev DTS := DEnds → Dn → Sto → Prop
def kN (K : PySem.W.Frag) (al : List Addr) (F G : Hp) (x : DXS) (Q : L2.St → Hp → Prop) : Dn → Sto → Prop := fun ρ M' => ∀ al' F' H' σ', Ext al F al' F' → Wd K al' F' G H' M' → Sl K F' al' σ' ρ.v → ρ.x = x → Q σ' H'
theorem kN.ext {K : PySem.W.Frag} {al al1 : List Addr} {F F1 G : Hp} {x : DXS} {Q : L2.St → Hp → Prop} {ρ : Dn} {M : Sto} (h : kN K al F G x Q ρ M) (e : Ext al F al1 F1) : kN K al1 F1 G x Q ρ M :=
  fun al' F' H' σ' e' W s q => h al' F' H' σ' (e.trans e') W s q
def kontS (K : PySem.W.Frag) (al : List Addr) (F G : Hp) (x : DXS) (E : Ends) : DEnds := ⟨kN K al F G x E.nx, kont K al F G E.rt, kN K al F G x E.bk, kN K al F G x E.ct⟩
theorem kontS_ext {K : PySem.W.Frag} {al al1 : List Addr} {F F1 G : Hp} {x : DXS} {E : Ends} (e : Ext al F al1 F1) : (kontS K al F G x E).Le (kontS K al1 F1 G x E) :=
  ⟨fun _ _ h => kN.ext h e, fun _ _ h => kont.ext h e, fun _ _ h => kN.ext h e, fun _ _ h => kN.ext h e⟩
def LiftS (X : Cx) (f : DTS) : TS := fun E σ H => ∃ ρ M al F G, Wd X.K al F G H M ∧ Es X F G al σ ρ ∧ f (kontS X.K al F G ρ.x E) ρ M
def MonoS (f : DTS) : Prop := ∀ (D D' : DEnds) ρ M, D.Le D' → f D ρ M → f D' ρ M
structure DS (X : Cx) (st : Stmt) (f : DTS) : Prop where
  ps : PS X st (LiftS X f)
  mono : MonoS f
structure DSs (X : Cx) (st : List Stmt) (f : DTS) : Prop where
  ps : PSs X st (LiftS X f)
  mono : MonoS f
theorem MonoS.up {f : DTS} (h : MonoS f) {D D' : DEnds} {ρ : Dn} {M : Sto} (q : f D ρ M) (w : D.Le D') : f D' ρ M := h D D' ρ M w q
section
variable {X : Cx} {a b c : Expr} {fa fb fc : DTE} {pos : Pos} {ta tb : DTT} {st : Stmt} {sts : List Stmt} {f g : DTS}
@[reducible] def dNext : DTS := fun D ρ M => D.nx ρ M
@[reducible] def dSeq (f g : DTS) : DTS := fun D ρ M => f { D with nx := g D } ρ M
theorem ds_nil : DSs X [] dNext := ⟨PSs.of pss_nil fun E σ H ⟨ρ, M, al, F, G, W, es, q⟩ => q al F H σ (Ext.refl _ _) W es.sl rfl, fun _ _ _ _ w q => w.nx _ _ q⟩
theorem ds_cons (h1 : DS X st f) (h2 : DSs X sts g) : DSs X (st :: sts) (dSeq f g) := by
  refine ⟨PSs.of (pss_cons h1.ps h2.ps) fun E σ H ⟨ρ, M, al, F, G, W, es, q⟩ => ?_, fun D D' ρ M w q => h1.mono { D with nx := g D } _ _ _ ⟨fun ρ M q => h2.mono _ _ _ _ w q, w.rt, w.bk, w.ct⟩ q⟩
  refine ⟨ρ, M, al, F, G, W, es, MonoS.up h1.mono (show f { kontS X.K al F G ρ.x E with nx := g (kontS X.K al F G ρ.x E) } ρ M from q) ⟨fun ρ1 M1 q1 al1 F1 H1 σ1 e1 W1 s1 x1 => ?_, fun _ _ z => z, fun _ _ z => z, fun _ _ z => z⟩⟩
  exact ⟨ρ1, M1, al1, F1, G, W1, es.of e1 s1 x1, by rw [x1]; exact MonoS.up h2.mono q1 (kontS_ext e1)⟩
theorem ds_one (h1 : DS X st f) : DSs X [st] f := ⟨pss_one h1.ps, h1.mono⟩
@[reducible] def dDrop (fa : DTE) : DTS := fun D ρ M => fa ρ M fun _ M1 => D.nx ρ M1
theorem ds_expr (h : DE X a fa) (hs : swapsWith a none pos.line X.env = pure false := by rfl) : DS X (.Expr a pos) (dDrop fa) := by
  refine ⟨PS.of (ps_expr h.pe hs) fun E σ H ⟨ρ, M, al, F, G, W, es, q⟩ => ?_, fun D D' ρ M w q => h.mono _ _ _ _ (fun d M1 q1 => w.nx _ _ q1) q⟩
  exact h.seq W es q fun d M1 al1 F1 H1 v q1 e1 W1 r1 s1 => q1 al1 F1 H1 σ e1 W1 s1.sl rfl
@[reducible] def dRet (fa : DTE) : DTS := fun D ρ M => fa ρ M D.rt
theorem ds_ret (h : DE X a fa) : DS X (.Return (some a) pos) (dRet fa) := by
  refine ⟨PS.of (ps_ret h.pe) fun E σ H ⟨ρ, M, al, F, G, W, es, q⟩ => ⟨ρ, M, al, F, G, W, es, q⟩, fun D D' ρ M w q => h.mono _ _ _ _ (fun d M1 q1 => w.rt _ _ q1) q⟩
@[reducible] def dRetN : DTS := fun D _ M => D.rt .non M
@[reducible] def dIfS (t : DTT) (f g : DTS) : DTS := fun D ρ M => t ρ M fun b M1 => if b = true then f D ρ M1 else g D ρ M1
theorem ds_if {yes no : List Stmt} (hc : DT X c ta) (ha : DSs X yes f) (hb : DSs X no g) : DS X (.If c yes no pos) (dIfS ta f g) := by
  refine ⟨PS.of (ps_if hc.pt ha.ps hb.ps) fun E σ H ⟨ρ, M, al, F, G, W, es, q⟩ => ?_, fun D D' ρ M w q => hc.mono _ _ _ _ (fun d M1 q1 => ?_) q⟩
  · refine hc.seq W es q fun d M1 al1 F1 H1 q1 e1 W1 s1 => ?_
    cases d with
    | true => exact ⟨ρ, M1, al1, F1, G, W1, s1, ha.mono _ _ _ _ (kontS_ext e1) q1⟩
    | false => exact ⟨ρ, M1, al1, F1, G, W1, s1, hb.mono _ _ _ _ (kontS_ext e1) q1⟩
  · cases d with
    | true => exact ha.mono _ _ _ _ w q1
    | false => exact hb.mono _ _ _ _ w q1
def Off (js : List Nat) (σ σ' : L2.St) : Prop := σ'.length = σ.length ∧ ∀ i, i ∉ js → σ'[i]? = σ[i]?
abbrev DTG := D → Dn → Sto → (Dn → Sto → Prop) → Prop
abbrev DTGs := List D → Dn → Sto → (Dn → Sto → Prop) → Prop
def LiftG (X : Cx) (f : DTG) (js : List Nat) : TG := fun v σ H Q => ∃ d ρ M al F G, Wd X.K al F G H M ∧ Es X F G al σ ρ ∧ Rp X.K F al v d ∧
  f d ρ M (fun ρ' M' => ∀ al' F' H' σ', Ext al F al' F' → Wd X.K al' F' G H' M' → Sl X.K F' al' σ' ρ'.v → ρ'.x = ρ.x → Off js σ σ' → Q σ' H')
def LiftGs (X : Cx) (f : DTGs) (js : List Nat) : TGs := fun vs σ H Q => ∃ ds ρ M al F G, Wd X.K al F G H M ∧ Es X F G al σ ρ ∧ Rps X.K F al vs ds ∧
  f ds ρ M (fun ρ' M' => ∀ al' F' H' σ', Ext al F al' F' → Wd X.K al' F' G H' M' → Sl X.K F' al' σ' ρ'.v → ρ'.x = ρ.x → Off js σ σ' → Q σ' H')
def MonoG (f : DTG) : Prop := ∀ d ρ M (Q Q' : Dn → Sto → Prop), (∀ ρ M, Q ρ M → Q' ρ M) → f d ρ M Q → f d ρ M Q'
def MonoGs (f : DTGs) : Prop := ∀ d ρ M (Q Q' : Dn → Sto → Prop), (∀ ρ M, Q ρ M → Q' ρ M) → f d ρ M Q → f d ρ M Q'
structure DG (X : Cx) (tg : Expr) (f : DTG) (js : List Nat) : Prop where
  pg : PG X tg (LiftG X f js)
  mono : MonoG f
structure DGs (X : Cx) (tg : List Expr) (f : DTGs) (js : List Nat) : Prop where
  pg : PGs X tg (LiftGs X f js)
  mono : MonoGs f
theorem PG.of {e : Expr} {t t' : TG} (h : PG X e t) (w : ∀ v σ H Q, t' v σ H Q → t v σ H Q) : PG X e t' := ⟨fun pins s σ H v u Q I r q => h.run pins s σ H v u Q I r (w v σ H Q q)⟩
theorem PGs.of {e : List Expr} {t t' : TGs} (h : PGs X e t) (w : ∀ v σ H Q, t' v σ H Q → t v σ H Q) : PGs X e t' := ⟨fun pins s σ H v u Q I r q => h.run pins s σ H v u Q I r (w v σ H Q q)⟩
theorem Off.refl (js : List Nat) (σ : L2.St) : Off js σ σ := ⟨rfl, fun _ _ => rfl⟩
theorem Off.trans {js ks : List Nat} {σ σ1 σ2 : L2.St} (a : Off js σ σ1) (b : Off ks σ1 σ2) : Off (js ++ ks) σ σ2 :=
  ⟨b.1.trans a.1, fun i hi => by
    rw [List.mem_append, not_or] at hi
    exact (b.2 i hi.2).trans (a.2 i hi.1)⟩
theorem Off.set (σ : L2.St) (i : Nat) (v : Option V) : Off [i] σ (σ.set i v) := ⟨List.length_set, fun j hj => by
  rw [List.getElem?_set_ne]
  intro z
  exact hj (by simp [z])⟩
@[reducible] def dgName (i : Nat) : DTG := fun d ρ M Q => Q ⟨ρ.v.set i (some d), ρ.x⟩ M
@[reducible] def dgNil : DTGs := fun ds ρ M Q => match ds with
  | [] => Q ρ M
  | _ => False
@[reducible] def dgCons (f : DTG) (g : DTGs) : DTGs := fun ds ρ M Q => match ds with
  | d :: r => f d ρ M fun ρ1 M1 => g r ρ1 M1 Q
  | [] => False
@[reducible] def dgTup (n : Nat) (g : DTGs) : DTG := fun d ρ M Q => match d with
  | .tup ds => ds.length = n ∧ g ds ρ M Q
  | _ => False
theorem dg_name {i : Nat} {x : Str} (hN : X.N.Nodup) (hi : X.N[i]? = some x) (hx : Loc X.env.scope x) (hf : X.fn x = true ∨ X.env.scope.names.lookup x = some .local := by first | exact .inl rfl | exact .inr rfl | assumption) : DG X (.Name x pos) (dgName i) [i] := by
  refine ⟨PG.of (pg_name hN hi hx hf) fun v σ H Q ⟨d, ρ, M, al, F, G, W, es, r, q⟩ => ?_, fun d ρ M Q Q' w q => w _ _ q⟩
  exact q al F H _ (Ext.refl _ _) W (es.sl.set r i) rfl (Off.set σ i _)
theorem dgs_nil : DGs X [] dgNil [] := by
  refine ⟨PGs.of pgs_nil fun vs σ H Q ⟨ds, ρ, M, al, F, G, W, es, r, q⟩ => ?_, fun d ρ M Q Q' w q => ?_⟩
  · cases r with
    | nil => exact ⟨rfl, q al F H σ (Ext.refl _ _) W es.sl rfl (Off.refl _ _)⟩
    | cons a b => exact q.elim
  · cases d with
    | nil => exact w _ _ q
    | cons a b => exact q.elim
theorem dgs_cons {e : Expr} {es : List Expr} {f : DTG} {g : DTGs} {js ks : List Nat} (h1 : DG X e f js) (h2 : DGs X es g ks)
    (hs : (assignEach (e :: es) X.env).map (·.2) = assign e X.env :: (assignEach es X.env).map (·.2) := by rfl) : DGs X (e :: es) (dgCons f g) (js ++ ks) := by
  refine ⟨PGs.of (pgs_cons h1.pg h2.pg hs) fun vs σ H Q ⟨ds, ρ, M, al, F, G, W, es, r, q⟩ => ?_, fun d ρ M Q Q' w q => ?_⟩
  · cases r with
    | nil => exact q.elim
    | cons a b =>
      refine ⟨_, _, rfl, _, ρ, M, al, F, G, W, es, a, h1.mono _ _ _ _ _ (fun ρ1 M1 q1 al1 F1 H1 σ1 e1 W1 s1 x1 o1 => ?_) q⟩
      refine ⟨_, ρ1, M1, al1, F1, G, W1, es.of e1 s1 x1, b.ext e1, h2.mono _ _ _ _ _ (fun ρ2 M2 q2 al2 F2 H2 σ2 e2 W2 s2 x2 o2 => ?_) q1⟩
      exact q2 al2 F2 H2 σ2 (e1.trans e2) W2 s2 (x2.trans x1) (o1.trans o2)
  · cases d with
    | nil => exact q.elim
    | cons a b => exact h1.mono _ _ _ _ _ (fun ρ1 M1 q1 => h2.mono _ _ _ _ _ w q1) q
theorem dg_tup {es : List Expr} {k : Nat} {g : DTGs} {js : List Nat} {n : Nat} (hc : X.calm = true) (h : DGs X es g js)
    (hn : (assignEach es X.env).length = n := by rfl) (hst : (assignEach es X.env).findIdx? (·.1) = none := by rfl) : DG X (.Tuple es k pos) (dgTup n g) js := by
  refine ⟨PG.of (pg_tup hc h.pg hn hst) fun v σ H Q ⟨d, ρ, M, al, F, G, W, es, r, q⟩ => ?_, fun d ρ M Q Q' w q => ?_⟩
  · cases r with
    | tup a b => exact ⟨_, _, rfl, (W.sm.sq a), b.length.trans q.1, _, ρ, M, al, F, G, W, es, b, q.2⟩
    | _ => exact q.elim
  · cases d with
    | tup ds => exact ⟨q.1, h.mono _ _ _ _ _ w q.2⟩
    | _ => exact q.elim
@[reducible] def dAsg (fa : DTE) (g : DTG) : DTS := fun D ρ M => fa ρ M fun d M1 => g d ρ M1 D.nx
theorem dAsg_mono {tg : Expr} {g : DTG} {js : List Nat} (h : DE X a fa) (hg : DG X tg g js) : MonoS (dAsg fa g) := fun D D' ρ M w q => h.mono _ _ _ _ (fun d M1 q1 => hg.mono _ _ _ _ _ (fun ρ M q => w.nx ρ M q) q1) q
theorem asg_ok {tg : Expr} {g : DTG} {js : List Nat} (h : DE X a fa) (hg : DG X tg g js) {E : Ends} {σ : L2.St} {H : Hp} (q : LiftS X (dAsg fa g) E σ H) : tAsg (Lift X fa) (LiftG X g js) E σ H := by
  obtain ⟨ρ, M, al, F, G, W, es, q⟩ := q
  refine h.seq W es q fun d M1 al1 F1 H1 v q1 e1 W1 r1 s1 => ?_
  exact ⟨d, ρ, M1, al1, F1, G, W1, s1, r1, hg.mono _ _ _ _ _ (fun ρ2 M2 q2 al2 F2 H2 σ2 e2 W2 s2 x2 _ => q2 al2 F2 H2 σ2 (e1.trans e2) W2 s2 x2) q1⟩
theorem ds_asg {tg : Expr} {g : DTG} {js : List Nat} (h : DE X a fa) (hg : DG X tg g js) (hs : swapsWithSole [tg] a pos.line X.env = pure false := by rfl) (hw : swappedStores [tg] a X.env = pure none := by rfl) (h1 : (assignEach [tg] X.env).map (·.2) = [assign tg X.env] := by rfl) : DS X (.Assign [tg] a pos) (dAsg fa g) :=
  ⟨PS.of (ps_asg h.pe hg.pg hs hw h1) fun E σ H q => asg_ok h hg q, dAsg_mono h hg⟩
theorem ds_set {i : Nat} {x : Str} {pos' : Pos} (hN : X.N.Nodup) (hi : X.N[i]? = some x) (hx : Loc X.env.scope x) (h : DE X a fa) (hs : swapsWith a (some (.Name x pos')) pos.line X.env = pure false := by rfl) (hf : X.fn x = true ∨ X.env.scope.names.lookup x = some .local := by first | exact .inl rfl | exact .inr rfl | assumption) :
    DS X (.Assign [.Name x pos'] a pos) (dAsg fa (dgName i)) := by
  refine ⟨PS.of (ps_set hN hi hx h.pe hs hf) fun E σ H ⟨ρ, M, al, F, G, W, es, q⟩ => ?_, dAsg_mono h (dg_name (pos := pos') hN hi hx hf)⟩
  exact h.seq W es q fun d M1 al1 F1 H1 v q1 e1 W1 r1 s1 => q1 al1 F1 H1 _ e1 W1 (s1.sl.set r1 i) rfl
@[reducible] def dPar (i j : Nat) (fa : DTA) : DTS := fun D ρ M => fa ρ M fun ds M1 => match ds with
  | [d, e] => D.nx ⟨(ρ.v.set i (some d)).set j (some e), ρ.x⟩ M1
  | _ => False
theorem ds_par {i j : Nat} {x y : Str} {fr : DTA} {px py pt : Pos} {kt k2 : Nat} {pt2 : Pos} (hc : X.calm = true) (hN : X.N.Nodup) (hi : X.N[i]? = some x) (hj : X.N[j]? = some y) (hij : i ≠ j) (hx : X.env.scope.names.lookup x = some .local) (hy : X.env.scope.names.lookup y = some .local) (ha : DA X [a, b] fr)
    (ps : ∀ {ta : TA}, PA X [a, b] ta → PS X (.Assign [.Tuple [.Name x px, .Name y py] kt pt] (.Tuple [a, b] k2 pt2) pos) (tPar i j ta)) : DS X (.Assign [.Tuple [.Name x px, .Name y py] kt pt] (.Tuple [a, b] k2 pt2) pos) (dPar i j fr) := by
  refine ⟨PS.of (ps ha.pa) fun E σ H ⟨ρ, M, al, F, G, W, es, q⟩ => ?_, fun D D' ρ M w q => ha.mono _ _ _ _ (fun ds M1 q1 => ?_) q⟩
  · refine ha.seq W es q fun ds M1 al1 F1 H1 vs q1 e1 W1 r1 s1 => ?_
    match ds, r1, q1 with
    | [d, e], .cons r2 (.cons r3 .nil), q1 => exact ⟨_, _, rfl, q1 al1 F1 H1 _ e1 W1 ((s1.sl.set r2 i).set r3 j) rfl⟩
  · match ds, q1 with
    | [d, e], q1 => exact w.nx _ _ q1
abbrev DTI := Dn → Sto → (List D → (Sto → Prop) → Sto → Prop) → Prop
def ItOk (K : PySem.W.Frag) (J : It) (ds : List D) (st : Sto → Prop) (al : List Addr) (F G : Hp) : Prop := ∀ al' F' G' H' M', Ext al F al' F' → Sm G G' → Wd K al' F' G' H' M' → st M' → ∀ i : Nat,
  (∀ d, ds[i]? = some d → J.go i H' ∧ ∀ x H'', J.yld i H' x H'' → ∃ F'', Sm F' F'' ∧ Wd K al' F'' G' H'' M' ∧ Rp K F'' al' x d) ∧ (ds.length ≤ i → J.stop i H')
theorem ItOk.ext {K : PySem.W.Frag} {J : It} {ds : List D} {st : Sto → Prop} {al al1 : List Addr} {F F1 G : Hp} (h : ItOk K J ds st al F G) (e : Ext al F al1 F1) : ItOk K J ds st al1 F1 G :=
  fun al' F' G' H' M' e' => h al' F' G' H' M' (e.trans e')
def LiftI (X : Cx) (f : DTI) : TI := fun σ H R => ∃ ρ M al F G, Wd X.K al F G H M ∧ Es X F G al σ ρ ∧ f ρ M (fun ds st M' => ∀ al' F' H' J, Ext al F al' F' → Wd X.K al' F' G H' M' → ItOk X.K J ds st al' F' G → R J H')
structure DI (X : Cx) (tg iter : Expr) (f : DTI) : Prop where
  pi : PI X tg iter (LiftI X f)
  mono : ∀ ρ M (Q Q' : List D → (Sto → Prop) → Sto → Prop), (∀ ds st M, Q ds st M → Q' ds st M) → f ρ M Q → f ρ M Q'
theorem PI.of {tg e : Expr} {t t' : TI} (h : PI X tg e t) (w : ∀ σ H Q, t' σ H Q → t σ H Q) : PI X tg e t' := ⟨fun pins s σ H R I q => h.run pins s σ H R I (w σ H R q)⟩
def forGo (st : Sto → Prop) (g : DTG) (body : DTS) : List D → DTS
  | [], E, ρ, M => st M ∧ E.nx ρ M
  | d :: ds, E, ρ, M => st M ∧ g d ρ M fun ρ1 M1 => body { nx := fun ρ2 M2 => forGo st g body ds E ρ2 M2, rt := E.rt, bk := E.nx, ct := fun ρ2 M2 => forGo st g body ds E ρ2 M2 } ρ1 M1
@[reducible] def dFor (fi : DTI) (g : DTG) (body : DTS) : DTS := fun E ρ M => fi ρ M fun ds st M1 => forGo st g body ds E ρ M1
theorem forGo_mono {st : Sto → Prop} {g : DTG} {body : DTS} (hg : MonoG g) (hb : MonoS body) : ∀ ds, MonoS (forGo st g body ds)
  | [], D, D', ρ, M, w, q => ⟨q.1, w.nx _ _ q.2⟩
  | d :: ds, D, D', ρ, M, w, q => by
    refine ⟨q.1, hg _ _ _ _ _ (fun ρ1 M1 q1 => ?_) q.2⟩
    refine MonoS.up hb (D := { nx := fun ρ2 M2 => forGo st g body ds D ρ2 M2, rt := D.rt, bk := D.nx, ct := fun ρ2 M2 => forGo st g body ds D ρ2 M2 }) q1 ⟨fun ρ2 M2 q2 => ?_, w.rt, w.nx, fun ρ2 M2 q2 => ?_⟩
    · exact forGo_mono hg hb ds D D' ρ2 M2 w q2
    · exact forGo_mono hg hb ds D D' ρ2 M2 w q2
theorem ds_for {tg iter : Expr} {body : List Stmt} {fi : DTI} {g : DTG} {js : List Nat} {f : DTS} (hp : PassesOwn (model X.prog X.w) X.A X.env X.xe) (hc : X.calm = true) (hi : DI X tg iter fi) (hg : DG X tg g js) (hb : DSs X body f)
    (hfs : ∀ x : Value, foldedSetIterable iter X.env x = pure x := by intro _; rfl) : DS X (.For tg iter body [] pos) (dFor fi g f) := by
  refine ⟨PS.of (ps_for hp hc hi.pi hg.pg hb.ps hfs) fun E σ H ⟨ρ, M, al, F, G, W, es, q⟩ => ?_, fun D D' ρ M w q => hi.mono _ _ _ _ (fun ds st M1 q1 => forGo_mono hg.mono hb.mono ds D D' ρ M1 w q1) q⟩
  refine ⟨ρ, M, al, F, G, W, es, hi.mono _ _ _ _ (fun ds st M1 q1 al1 F1 H1 J e1 W1 ok => ?_) q⟩
  refine ⟨fun i m σ' H' => ∃ ρ' M' al' F', i + m = ds.length ∧ Ext al1 F1 al' F' ∧ Wd X.K al' F' G H' M' ∧ Es X F' G al' σ' ρ' ∧ ρ'.x = ρ.x ∧ forGo st g f (ds.drop i) (kontS X.K al' F' G ρ.x E) ρ' M',
    ⟨ds.length, ρ, M1, al1, F1, by omega, Ext.refl _ _, W1, es.ext e1, rfl, forGo_mono hg.mono hb.mono _ _ _ _ _ (kontS_ext e1) q1⟩, ?_⟩
  rintro i m σ' H' ⟨ρ', M', al', F', em, e', W', s', x', q'⟩
  by_cases hil : i < ds.length
  · rw [List.drop_eq_getElem_cons hil] at q'
    obtain ⟨hst, q'⟩ := q'
    obtain ⟨go, yl⟩ := (ok al' F' G H' M' e' (Sm.refl G) W' hst i).1 ds[i] (List.getElem?_eq_getElem hil)
    refine .inr ⟨go, fun σ2 H2 => ∃ ρ2 M2 al2 F2, Ext al1 F1 al2 F2 ∧ Wd X.K al2 F2 G H2 M2 ∧ Es X F2 G al2 σ2 ρ2 ∧ ρ2.x = ρ.x ∧ forGo st g f (ds.drop (i + 1)) (kontS X.K al2 F2 G ρ.x E) ρ2 M2, ?_, fun x H2 hy => ?_⟩
    · rintro σ2 H2 ⟨ρ2, M2, al2, F2, e2, W2, s2, x2, q2⟩
      exact ⟨m - 1, by omega, ρ2, M2, al2, F2, by omega, e2, W2, s2, x2, q2⟩
    · obtain ⟨F2, sm2, W2, r2⟩ := yl x H2 hy
      have e2 : Ext al' F' al' F2 := ⟨⟨[], by simp⟩, sm2⟩
      refine ⟨ds[i], ρ', M', al', F2, G, W2, s'.ext e2, r2, hg.mono _ _ _ _ _ (fun ρ3 M3 q3 al3 F3 H3 σ3 e3 W3 s3 x3 o3 => ?_) q'⟩
      have s3' := s'.of (e2.trans e3) s3 x3
      rw [x'] at x3
      refine ⟨ρ3, M3, al3, F3, G, W3, s3', ?_⟩
      rw [x3]
      refine MonoS.up hb.mono q3 ⟨fun ρ4 M4 q4 al4 F4 H4 σ4 e4 W4 s4 x4 => ?_, fun d M4 q4 => kont.ext q4 (e2.trans e3), fun ρ4 M4 q4 => kN.ext q4 (e2.trans e3), fun ρ4 M4 q4 al4 F4 H4 σ4 e4 W4 s4 x4 => ?_⟩
      · exact ⟨ρ4, M4, al4, F4, e'.trans (e2.trans (e3.trans e4)), W4, s3'.of e4 s4 (x4.trans x3.symm), x4, forGo_mono hg.mono hb.mono _ _ _ _ _ (kontS_ext (e2.trans (e3.trans e4))) q4⟩
      · exact ⟨ρ4, M4, al4, F4, e'.trans (e2.trans (e3.trans e4)), W4, s3'.of e4 s4 (x4.trans x3.symm), x4, forGo_mono hg.mono hb.mono _ _ _ _ _ (kontS_ext (e2.trans (e3.trans e4))) q4⟩
  · rw [List.drop_eq_nil_of_le (by omega)] at q'
    exact .inl ⟨(ok al' F' G H' M' e' (Sm.refl G) W' q'.1 i).2 (by omega), q'.2 al' F' H' σ' (Ext.refl _ _) W' s'.sl x'⟩
def wipeD (ρ : List (Option D)) : List Nat → List (Option D)
  | [] => ρ
  | v :: vs => (wipeD ρ vs).set v none
theorem wipeD_length (ρ : List (Option D)) : ∀ vs : List Nat, (wipeD ρ vs).length = ρ.length
  | [] => rfl
  | v :: vs => by unfold wipeD; rw [List.length_set, wipeD_length ρ vs]
theorem wipeD_some {ρ : List (Option D)} {i : Nat} {d : D} : ∀ {vs : List Nat}, (wipeD ρ vs)[i]? = some (some d) → ρ[i]? = some (some d) ∧ i ∉ vs
  | [], h => ⟨h, by simp⟩
  | v :: vs, h => by
    unfold wipeD at h
    by_cases hi : v = i
    · subst hi
      by_cases hv : v < (wipeD ρ vs).length
      · rw [List.getElem?_set_self hv] at h; cases h
      · rw [List.getElem?_eq_none (by simpa using hv)] at h; cases h
    · rw [List.getElem?_set_ne hi] at h
      obtain ⟨h1, h2⟩ := wipeD_some h
      exact ⟨h1, by simp only [List.mem_cons, not_or]; exact ⟨fun e => hi e.symm, h2⟩⟩
theorem wipe_get {σ : L2.St} {i : Nat} : ∀ {vs : List Nat}, i ∉ vs → (wipe σ vs)[i]? = σ[i]?
  | [], _ => rfl
  | v :: vs, h => by
    rw [List.mem_cons, not_or] at h
    unfold wipe
    rw [List.getElem?_set_ne (Ne.symm h.1), wipe_get h.2]
theorem wipe_off {σ : L2.St} {i : Nat} (hl : i < σ.length) : ∀ {vs : List Nat}, i ∈ vs → (wipe σ vs)[i]? = some none
  | v :: vs, h => by
    unfold wipe
    by_cases hi : v = i
    · subst hi
      rw [List.getElem?_set_self (by rw [wipe_length]; exact hl)]
    · rw [List.getElem?_set_ne hi]
      refine wipe_off hl ?_
      rcases List.mem_cons.mp h with z | z
      · exact absurd z.symm hi
      · exact z
theorem wipe_eq {σ σ' : L2.St} {js vs : List Nat} (o : Off js σ σ') (h : ∀ j ∈ js, j ∈ vs) : wipe σ' vs = wipe σ vs := by
  apply List.ext_getElem?
  intro i
  by_cases hi : i ∈ vs
  · by_cases hl : i < σ.length
    · rw [wipe_off hl hi, wipe_off (by rw [o.1]; exact hl) hi]
    · have h1 := o.1; rw [List.getElem?_eq_none (by rw [wipe_length]; omega), List.getElem?_eq_none (by rw [wipe_length]; omega)]
  · rw [wipe_get hi, wipe_get hi]
    exact o.2 i fun z => hi (h i z)
theorem wipe_wipe {σ : L2.St} {vs : List Nat} : wipe (wipe σ vs) vs = wipe σ vs := by
  apply List.ext_getElem?
  intro i
  by_cases hi : i ∈ vs
  · by_cases hl : i < σ.length
    · rw [wipe_off hl hi, wipe_off (by rw [wipe_length]; exact hl) hi]
    · rw [List.getElem?_eq_none (by rw [wipe_length, wipe_length]; omega), List.getElem?_eq_none (by rw [wipe_length]; omega)]
  · rw [wipe_get hi]
theorem Sl.wipe {K : PySem.W.Frag} {F : Hp} {al : List Addr} {σ : L2.St} {ρ : List (Option D)} (h : Sl K F al σ ρ) (vs : List Nat) : Sl K F al (L2.wipe σ vs) (wipeD ρ vs) := by
  refine ⟨by rw [wipe_length, wipeD_length]; exact h.len, fun i d q => ?_⟩
  obtain ⟨q1, q2⟩ := wipeD_some q
  obtain ⟨v, h1, h2⟩ := h.get i d q1
  exact ⟨v, by rw [wipe_get q2]; exact h1, h2⟩
/-- the inner readings, without exceptions: one for all surroundings -/
def LiftN (K : PySem.W.Frag) (f : DTE) : TE := fun σ H Q => ∃ ρ M al F G, Wd K al F G H M ∧ Sl K F al σ ρ.v ∧ ρ.x = noX ∧ f ρ M (kont K al F G Q)
def LiftTN (K : PySem.W.Frag) (f : DTT) : TT := fun σ H Q => ∃ ρ M al F G, Wd K al F G H M ∧ Sl K F al σ ρ.v ∧ ρ.x = noX ∧ f ρ M (kontB K al F G Q)
def LiftGN (K : PySem.W.Frag) (f : DTG) (js : List Nat) : TG := fun v σ H Q => ∃ d ρ M al F G, Wd K al F G H M ∧ Sl K F al σ ρ.v ∧ ρ.x = noX ∧ Rp K F al v d ∧
  f d ρ M (fun ρ' M' => ∀ al' F' H' σ', Ext al F al' F' → Wd K al' F' G H' M' → Sl K F' al' σ' ρ'.v → ρ'.x = noX → Off js σ σ' → Q σ' H')
theorem LiftN.of {Y : Cx} {f : DTE} {σ : L2.St} {H : Hp} {Q : VK} (h : LiftN Y.K f σ H Q) : Lift Y f σ H Q := by
  obtain ⟨ρ, M, al, F, G, W, s, x, q⟩ := h
  exact ⟨ρ, M, al, F, G, W, Es.none s x, q⟩
theorem LiftTN.of {Y : Cx} {f : DTT} {σ : L2.St} {H : Hp} {Q : Bool → Hp → Prop} (h : LiftTN Y.K f σ H Q) : LiftT Y f σ H Q := by
  obtain ⟨ρ, M, al, F, G, W, s, x, q⟩ := h
  exact ⟨ρ, M, al, F, G, W, Es.none s x, q⟩
theorem LiftGN.of {Y : Cx} {f : DTG} {js : List Nat} (m : MonoG f) {v : V} {σ : L2.St} {H : Hp} {Q : L2.St → Hp → Prop} (h : LiftGN Y.K f js v σ H Q) : LiftG Y f js v σ H Q := by
  obtain ⟨d, ρ, M, al, F, G, W, s, x, r, q⟩ := h
  exact ⟨d, ρ, M, al, F, G, W, Es.none s x, r, m _ _ _ _ _ (fun ρ' M' k al' F' H' σ' e W' s' x' o => k al' F' H' σ' e W' s' (x'.trans x) o) q⟩
/-- one turn: the item bound, the tests, the element -/
@[reducible] def lcStep (ρ : Dn) (vs : List Nat) (g : DTG) (t : DTT) (fe : DTE) (d : D) (M : Sto) (k : Option D → Sto → Prop) : Prop :=
  g d ⟨wipeD ρ.v vs, noX⟩ M fun ρ2 M2 => t ρ2 M2 fun b M3 => if b = true then fe ρ2 M3 (fun y M4 => k (some y) M4) else k none M3
def lcGo (st : Sto → Prop) (step : D → Sto → (Option D → Sto → Prop) → Prop) : List D → List D → Sto → (List D → Sto → Prop) → Prop
  | [], acc, M, Q => st M ∧ Q acc M
  | d :: ds, acc, M, Q => st M ∧ step d M fun o M1 => match o with
    | some y => acc.length < 100000 ∧ lcGo st step ds (acc ++ [y]) M1 Q
    | none => lcGo st step ds acc M1 Q
@[reducible] def dLc (fi : DTI) (g : DTG) (t : DTT) (fe : DTE) (vs : List Nat) : DTE := fun ρ M Q => fi ρ M fun ds st M1 => lcGo st (lcStep ρ vs g t fe) ds [] M1 fun acc M2 => Q (.lst acc) M2
theorem lcStep_mono {ρ : Dn} {vs : List Nat} {g : DTG} {t : DTT} {fe : DTE} (hg : MonoG g) (ht : ∀ ρ M (Q Q' : Bool → Sto → Prop), (∀ d M, Q d M → Q' d M) → t ρ M Q → t ρ M Q') (he : ∀ ρ M (Q Q' : DK), (∀ d M, Q d M → Q' d M) → fe ρ M Q → fe ρ M Q')
    (d : D) (M : Sto) (k k' : Option D → Sto → Prop) (w : ∀ o M, k o M → k' o M) (q : lcStep ρ vs g t fe d M k) : lcStep ρ vs g t fe d M k' :=
  hg _ _ _ _ _ (fun ρ2 M2 q2 => ht _ _ _ _ (fun b M3 q3 => by
    cases b with
    | true => exact he _ _ _ _ (fun y M4 q4 => w _ _ q4) q3
    | false => exact w _ _ q3) q2) q
theorem lcGo_mono {st : Sto → Prop} {step : D → Sto → (Option D → Sto → Prop) → Prop} (hs : ∀ (d : D) (M : Sto) (k k' : Option D → Sto → Prop), (∀ o M, k o M → k' o M) → step d M k → step d M k') (Q Q' : List D → Sto → Prop) (w : ∀ a M, Q a M → Q' a M) :
    ∀ (ds acc : List D) (M : Sto), lcGo st step ds acc M Q → lcGo st step ds acc M Q'
  | [], acc, M, q => ⟨q.1, w _ _ q.2⟩
  | d :: ds, acc, M, q => ⟨q.1, hs _ _ _ _ (fun o M1 q1 => by
    cases o with
    | none => exact lcGo_mono hs Q Q' w ds acc M1 q1
    | some y => exact ⟨q1.1, lcGo_mono hs Q Q' w ds _ M1 q1.2⟩) q.2⟩
theorem PTs.of {ifs : List Expr} {t t' : TT} (h : PTs X ifs t) (w : ∀ σ H Q, t' σ H Q → t σ H Q) : PTs X ifs t' := ⟨fun pins s σ H Q I q => h.run pins s σ H Q I (w σ H Q q)⟩
abbrev DTTs (X : Cx) (ifs : List Expr) (t : DTT) : Prop := PTs X ifs (LiftT X t) ∧ ∀ ρ M (Q Q' : Bool → Sto → Prop), (∀ d M, Q d M → Q' d M) → t ρ M Q → t ρ M Q'
@[reducible] def dYes : DTT := fun _ M Q => Q true M
theorem dts_nil : DTTs X [] dYes := ⟨⟨fun pins s σ H Q I h => by
  obtain ⟨ρ, M, al, F, G, W, es, q⟩ := h
  exact pts_nil.run pins s σ H Q I (q al F H (Ext.refl _ _) W)⟩, fun _ _ _ _ w q => w _ _ q⟩
theorem dts_one {t : DTT} (h : DT X c t) : DTTs X [c] t := ⟨pts_one h.pt, h.mono⟩
theorem lc_ok {Y : Cx} {wi : DTI} {g : DTG} {t : DTT} {fe : DTE} {vs js : List Nat} {σ : L2.St} {H : Hp} {Q : VK} (hi : ∀ ρ M (Q Q' : List D → (Sto → Prop) → Sto → Prop), (∀ ds st M, Q ds st M → Q' ds st M) → wi ρ M Q → wi ρ M Q')
    (hg : MonoG g) (ht : ∀ ρ M (Q Q' : Bool → Sto → Prop), (∀ d M, Q d M → Q' d M) → t ρ M Q → t ρ M Q') (he : ∀ ρ M (Q Q' : DK), (∀ d M, Q d M → Q' d M) → fe ρ M Q → fe ρ M Q') (hj : ∀ j ∈ js, j ∈ vs)
    (h : Lift Y (dLc wi g t fe vs) σ H Q) : tLc (LiftI Y wi) (LiftGN Y.K g js) (LiftTN Y.K t) (LiftN Y.K fe) vs σ H Q := by
  obtain ⟨ρ, M, al, F, G, W, es, q⟩ := h
  refine ⟨ρ, M, al, F, G, W, es, hi _ _ _ _ (fun ds st M1 q1 al1 F1 H1 J e1 W1 ok => ?_) q⟩
  intro Dd hD
  have hGD : G Dd = none := W1.sg.free hD
  refine ⟨fun i m H' => ∃ M' al' F' acc xs, i + m = ds.length ∧ Ext al1 F1 al' F' ∧ Wd Y.K al' F' (upd G Dd (.lst xs)) H' M' ∧ Rps Y.K F' al' xs acc ∧ lcGo st (lcStep ρ vs g t fe) (ds.drop i) acc M' (fun acc M2 => kont Y.K al F G Q (.lst acc) M2),
    ⟨ds.length, M1, al1, F1, [], [], by omega, Ext.refl _ _, W1.hide hD, .nil, q1⟩, ?_⟩
  rintro i m H' ⟨M', al', F', acc, xs, em, e', W', rs, q'⟩
  have smG : Sm G (upd G Dd (.lst xs)) := Sm.new hGD
  by_cases hil : i < ds.length
  · rw [List.drop_eq_getElem_cons hil] at q'
    obtain ⟨hst, q'⟩ := q'
    obtain ⟨go, yl⟩ := (ok al' F' _ H' M' e' smG W' hst i).1 ds[i] (List.getElem?_eq_getElem hil)
    refine .inr ⟨go, fun H2 => ∃ M2 al2 F2 acc2 xs2, Ext al1 F1 al2 F2 ∧ Wd Y.K al2 F2 (upd G Dd (.lst xs2)) H2 M2 ∧ Rps Y.K F2 al2 xs2 acc2 ∧ lcGo st (lcStep ρ vs g t fe) (ds.drop (i + 1)) acc2 M2 (fun acc M2 => kont Y.K al F G Q (.lst acc) M2), ?_, fun x H2 hy => ?_⟩
    · rintro H2 ⟨M2, al2, F2, acc2, xs2, e2, W2, r2, q2⟩
      exact ⟨m - 1, by omega, M2, al2, F2, acc2, xs2, by omega, e2, W2, r2, q2⟩
    · obtain ⟨F2, sm2, W2, r2⟩ := yl x H2 hy
      have e2 : Ext al' F' al' F2 := ⟨⟨[], by simp⟩, sm2⟩
      have esw : Sl Y.K F2 al' (wipe σ vs) (wipeD ρ.v vs) := (es.sl.ext (e1.trans (e'.trans e2))).wipe vs
      refine ⟨ds[i], ⟨wipeD ρ.v vs, noX⟩, M', al', F2, _, W2, esw, rfl, r2, hg _ _ _ _ _ (fun ρ3 M3 q3 al3 F3 H3 σ3 e3 W3 s3 x3 o3 => ?_) q'⟩
      refine ⟨(wipe_eq o3 hj).trans wipe_wipe, ρ3, M3, al3, F3, _, W3, s3, x3, ht _ _ _ _ (fun b M4 q4 al4 F4 H4 e4 W4 => ?_) q3⟩
      cases b with
      | false =>
        exact ⟨M4, al4, F4, acc, xs, e'.trans (e2.trans (e3.trans e4)), W4, rs.ext (e2.trans (e3.trans e4)), q4⟩
      | true =>
        refine ⟨ρ3, M4, al4, F4, _, W4, s3.ext e4, x3, he _ _ _ _ (fun y M5 q5 al5 F5 H5 v5 e5 W5 r5 => ?_) q4⟩
        have eA : Ext al' F' al5 F5 := e2.trans (e3.trans (e4.trans e5))
        have rl := rs.length
        refine ⟨xs, W5.sg _ _ upd_same, Nat.lt_of_lt_of_le (by have := q5.1; omega : xs.length < 100000) (by decide), M5, al5, F5, acc ++ [y], xs ++ [v5], e'.trans eA, W5.rehide, (rs.ext eA).append (.cons r5 .nil), q5.2⟩
  · rw [List.drop_eq_nil_of_le (by omega)] at q'
    refine .inl ⟨(ok al' F' _ H' M' e' smG W' q'.1 i).2 (by omega), ?_⟩
    obtain ⟨W2, e2⟩ := W'.thaw hGD
    exact q'.2 al' _ H' _ (e1.trans (e'.trans e2)) W2 (.lst upd_same (rs.ext e2))
theorem d_lc {elt tg iter : Expr} {ifs : List Expr} {scope : Scope} {own : List (Str × Nat)} {fi : DTI} {g : DTG} {t : DTT} {fe : DTE} {js : List Nat} (hc : X.calm = true) (hN : X.N.Nodup) (hi : DI X tg iter fi) (ok : BlkOk X.N X.env.scope scope own) (hj : ∀ j ∈ js, j ∈ own.map (·.2))
    (hg : ∀ (s : Shared) (H : Hp) (C : Addr) (cl : List (Str × Addr)) (fp : List Addr), DG (X.blk s H scope (compEnvC scope cl C X.env) fp) tg g js)
    (ht : ∀ (s : Shared) (H : Hp) (C : Addr) (cl : List (Str × Addr)) (fp : List Addr), DTTs (X.blk s H scope (compEnvC scope cl C X.env) fp) ifs t)
    (he : ∀ (s : Shared) (H : Hp) (C : Addr) (cl : List (Str × Addr)) (fp : List Addr), DE (X.blk s H scope (compEnvC scope cl C X.env) fp) elt fe)
    (hfs : ∀ x : Value, foldedSetIterable iter X.env x = pure x := by intro _; rfl) : DE X (.ListComp elt [⟨tg, iter, ifs, 0⟩] scope pos) (dLc fi g t fe (own.map (·.2))) := by
  have g0 := (hg X.s_0 (fun _ => none) 0 [] []).mono
  have t0 := (ht X.s_0 (fun _ => none) 0 [] []).2
  have e0 := (he X.s_0 (fun _ => none) 0 [] []).mono
  refine ⟨PE.of (pe_lc hc hN hi.pi ok (fun s H C cl fp => PG.of (hg s H C cl fp).pg fun _ _ _ _ z => LiftGN.of (hg s H C cl fp).mono z) (fun s H C cl fp => PTs.of (ht s H C cl fp).1 fun _ _ _ z => LiftTN.of z) (fun s H C cl fp => PE.of (he s H C cl fp).pe fun _ _ _ z => LiftN.of z) hfs) fun σ H Q h => lc_ok (Y := X) hi.mono g0 t0 e0 hj h, fun ρ M Q Q' w q => ?_⟩
  exact hi.mono _ _ _ _ (fun ds st M1 q1 => lcGo_mono (lcStep_mono g0 t0 e0) _ _ (fun a M2 q2 => w _ _ q2) ds [] M1 q1) q
theorem ds_setLc {i : Nat} {y : Str} {py spos : Pos} {elt tg iter : Expr} {ifs : List Expr} {scope : Scope} {own : List (Str × Nat)} {fi : DTI} {g : DTG} {t : DTT} {fe : DTE} {js : List Nat} (hc : X.calm = true) (hN : X.N.Nodup) (hy : X.N[i]? = some y) (hl : X.env.scope.names.lookup y = some .local)
    (hsw : swapsWith (.ListComp elt [⟨tg, iter, ifs, 0⟩] scope pos) (some (.Name y py)) spos.line X.env = pure true) (hi : DI X tg iter fi) (ok : BlkOk X.N X.env.scope scope own) (hj : ∀ j ∈ js, j ∈ own.map (·.2))
    (hg : ∀ (s : Shared) (H : Hp) (C : Addr) (cl : List (Str × Addr)) (fp : List Addr), DG (X.blk s H scope (compEnvC scope cl C X.env) fp) tg g js)
    (ht : ∀ (s : Shared) (H : Hp) (C : Addr) (cl : List (Str × Addr)) (fp : List Addr), DTTs (X.blk s H scope (compEnvC scope cl C X.env) fp) ifs t)
    (he : ∀ (s : Shared) (H : Hp) (C : Addr) (cl : List (Str × Addr)) (fp : List Addr), DE (X.blk s H scope (compEnvC scope cl C X.env) fp) elt fe)
    (hfs : ∀ x : Value, foldedSetIterable iter X.env x = pure x := by intro _; rfl) : DS X (.Assign [.Name y py] (.ListComp elt [⟨tg, iter, ifs, 0⟩] scope pos) spos) (dAsg (dLc fi g t fe (own.map (·.2))) (dgName i)) := by
  have hd := d_lc (pos := pos) hc hN hi ok hj hg ht he hfs
  refine ⟨PS.of (ps_setLc (g := LiftGN X.K g js) (tt := LiftTN X.K t) (te := LiftN X.K fe) hc hN hy hl hsw hi.pi ok (fun s H C cl fp => PG.of (hg s H C cl fp).pg fun _ _ _ _ z => LiftGN.of (hg s H C cl fp).mono z) (fun s H C cl fp => PTs.of (ht s H C cl fp).1 fun _ _ _ z => LiftTN.of z) (fun s H C cl fp => PE.of (he s H C cl fp).pe fun _ _ _ z => LiftN.of z) hfs) fun E σ H ⟨ρ, M, al, F, G, W, es, q⟩ => ?_, fun D D' ρ M w q => hd.mono _ _ _ _ (fun d M1 q1 => w.nx _ _ q1) q⟩
  refine lc_ok (Y := X) hi.mono (hg X.s_0 (fun _ => none) 0 [] []).mono (ht X.s_0 (fun _ => none) 0 [] []).2 (he X.s_0 (fun _ => none) 0 [] []).mono hj ?_
  exact hd.seq W es q fun d M1 al1 F1 H1 v q1 e1 W1 r1 s1 => q1 al1 F1 H1 _ e1 W1 (s1.sl.set r1 i) rfl
end
end DL
namespace DL
open PySem PySem.Spec PyProof.Rows L2
theorem le_line {n : Nat} (h : n ≤ 100000) : n ≤ sizeLine := Nat.le_trans h (by decide)
theorem lt_line {n : Nat} (h : n < 100000) : n < sizeLine := Nat.lt_of_lt_of_le h (by decide)
/-- the list that a datum stands for -/
def seqOf : D → Sto → Option (List D)
  | .lst ds, _ => some ds
  | .ref n, M => match M[n]? with
    | some (.lst ds) => some ds
    | _ => none
  | _, _ => none
theorem seqOf_ok {K : PySem.W.Frag} {al : List Addr} {F G H : Hp} {M : Sto} {v : V} {d : D} {ds : List D} (W : Wd K al F G H M) (r : Rp K F al v d) (h : seqOf d M = some ds) : ∃ a xs, v = .ref a ∧ H a = some (.lst xs) ∧ Rps K F al xs ds := by
  cases r with
  | lst a b => cases h; exact ⟨_, _, rfl, W.sm _ _ a, b⟩
  | ref a =>
    unfold seqOf at h
    dsimp only at h
    split at h
    · next e =>
      cases h
      obtain ⟨xs, q, rs⟩ := W.cel _ _ _ e a
      exact ⟨_, xs, rfl, q, rs⟩
    · cases h
  | _ => cases h
section
variable {K : PySem.W.Frag} {al : List Addr} {F G H : Hp} {M : Sto} {Q : VK}
theorem kont.here {d : D} {v : V} (k : kont K al F G Q d M) (W : Wd K al F G H M) (r : Rp K F al v d) : Q v H := k al F H v (Ext.refl _ _) W r
theorem kont.tup {ds : List D} {xs : List V} {p : Addr} (k : kont K al F G Q (.tup ds) M) (W : Wd K al F G H M) (r : Rps K F al xs ds) (hp : H p = none) : Q (.ref p) (upd H p (.tup xs)) := by
  obtain ⟨W1, e1⟩ := W.newF (o := .tup xs) hp
  exact k al _ _ _ e1 W1 (.tup (.inl upd_same) (r.ext e1))
theorem kont.lst {ds : List D} {xs : List V} {p : Addr} (k : kont K al F G Q (.lst ds) M) (W : Wd K al F G H M) (r : Rps K F al xs ds) (hp : H p = none) : Q (.ref p) (upd H p (.lst xs)) := by
  obtain ⟨W1, e1⟩ := W.newF (o := .lst xs) hp
  exact k al _ _ _ e1 W1 (.lst upd_same (r.ext e1))
theorem kont.new {ds : List D} {xs : List V} {p : Addr} (k : kont K al F G Q (.ref M.length) (M ++ [.lst ds])) (W : Wd K al F G H M) (r : Rps K F al xs ds) (hp : H p = none) : Q (.ref p) (upd H p (.lst xs)) := by
  have e : Ext al F (al ++ [p]) F := ⟨⟨[p], rfl⟩, Sm.refl F⟩
  obtain ⟨W1, e1⟩ := W.newM (o := .lst xs) (c := .lst ds) hp ⟨xs, upd_same, r.ext e⟩
  exact k _ _ _ _ e1 W1 (.ref (by rw [← W.len, List.getElem?_append_right (Nat.le_refl _)]; simp))
end
section
variable {X : Cx} {a b c : Expr} {fa fb fc : DTE} {pos : Pos} {ta tb : DTT}
@[reducible] def gInt (f : Int → Int → D) (C : Int → Int → Prop) : G2 := fun x y M Q => match x, y with
  | .int i, .int j => C i j ∧ Q (f i j) M
  | _, _ => False
theorem gInt_mono (f : Int → Int → D) (C : Int → Int → Prop) : Mono2 (gInt f C) := fun x y M Q Q' w q => by
  unfold gInt at q ⊢
  split at q
  · exact ⟨q.1, w _ _ q.2⟩
  · exact q.elim
theorem o_int {f : Value → Value → Sem Value} {g : Int → Int → V} {h : Int → Int → D} {C : Int → Int → Prop} (ho : OpR X f (rI C g)) (hr : ∀ i j F al, Rp X.K F al (g i j) (h i j)) : O2 X f (gInt h C) :=
  O2.of ho (gInt_mono h C) fun al F G H M x y dx dy Q W r1 r2 q => by
    cases r1 <;> first | exact q.elim | (cases r2 <;> first | exact q.elim | exact ⟨_, _, rfl, rfl, q.1, q.2.here W (hr _ _ F al)⟩)
@[reducible] def gI0 (f : Int → Int → D) : G2 := fun x y M Q => match x, y with
  | .int i, .int j => Q (f i j) M
  | _, _ => False
theorem gI0_mono (f : Int → Int → D) : Mono2 (gI0 f) := fun x y M Q Q' w q => by
  unfold gI0 at q ⊢
  split at q
  · exact w _ _ q
  · exact q.elim
theorem o_int0 {f : Value → Value → Sem Value} {g : Int → Int → V} {h : Int → Int → D} (ho : OpR X f (rI0 g)) (hr : ∀ i j F al, Rp X.K F al (g i j) (h i j)) : O2 X f (gI0 h) :=
  O2.of ho (gI0_mono h) fun al F G H M x y dx dy Q W r1 r2 q => by
    cases r1 <;> first | exact q.elim | (cases r2 <;> first | exact q.elim | exact ⟨_, _, rfl, rfl, kont.here q W (hr _ _ F al)⟩)
theorem o_sub : O2 X (binaryOp .Sub) (gI0 fun i j => .int (i - j)) := o_int0 op_sub fun _ _ _ _ => .int _
theorem o_fdiv : O2 X (binaryOp .FloorDiv) (gInt (fun i j => .int (i / j)) CDiv) := o_int op_fdiv fun _ _ _ _ => .int _
theorem o_mod : O2 X (binaryOp .Mod) (gInt (fun i j => .int (i % j)) fun _ j => 0 < j) := o_int op_mod fun _ _ _ _ => .int _
theorem o_pow : O2 X (binaryOp .Pow) (gInt (fun i j => .int (i ^ j.toNat)) CPow) := o_int op_pow fun _ _ _ _ => .int _
theorem o_lt : O2 X (compareOp .Lt) (gI0 fun i j => .bl (decide (i < j))) := o_int0 op_lt fun _ _ _ _ => .bl _
theorem o_le : O2 X (compareOp .LtE) (gI0 fun i j => .bl (decide (i ≤ j))) := o_int0 op_le fun _ _ _ _ => .bl _
theorem o_gt : O2 X (compareOp .Gt) (gI0 fun i j => .bl (decide (j < i))) := o_int0 op_gt fun _ _ _ _ => .bl _
theorem o_ge : O2 X (compareOp .GtE) (gI0 fun i j => .bl (decide (j ≤ i))) := o_int0 op_ge fun _ _ _ _ => .bl _
@[reducible] def gNeg : G1 := fun x M Q => match x with
  | .int i => Q (.int (-i)) M
  | _ => False
theorem O1.of {f : Value → Sem Value} {r : V → Hp → VK → Prop} {g : G1} (h : UnR X f r) (m : Mono1 g)
    (k : ∀ al F G H M x dx Q, Wd X.K al F G H M → Rp X.K F al x dx → g dx M (kont X.K al F G Q) → r x H Q) : O1 X f g :=
  ⟨fun pins s σ al F G H M x v dx Q I rx W r1 q => h pins s σ H x v Q I rx (k al F G H M x dx Q W r1 q), m⟩
theorem o_neg : O1 X (unaryOp .USub) gNeg := O1.of un_neg (fun x M Q Q' w q => by
    unfold gNeg at q ⊢
    split at q
    · exact w _ _ q
    · exact q.elim) fun al F G H M x dx Q W r1 q => by
  cases r1 <;> first | exact q.elim | exact ⟨_, rfl, kont.here q W (.int _)⟩
/-- + : ints, texts, tuples, lists -/
@[reducible] def gAdd : G2 := fun x y M Q => match x, y with
  | .int i, .int j => Q (.int (i + j)) M
  | .str i, .str j => i.length + j.length ≤ 100000 ∧ Q (.str (i ++ j)) M
  | .tup i, .tup j => i.length + j.length ≤ 100000 ∧ Q (.tup (i ++ j)) M
  | x, y => match seqOf x M, seqOf y M with
    | some i, some j => i.length + j.length ≤ 100000 ∧ Q (.lst (i ++ j)) M
    | _, _ => False
theorem gAdd_mono : Mono2 gAdd := fun x y M Q Q' w q => by
  unfold gAdd at q ⊢
  split at q
  · exact w _ _ q
  · exact ⟨q.1, w _ _ q.2⟩
  · exact ⟨q.1, w _ _ q.2⟩
  · split at q
    · exact ⟨q.1, w _ _ q.2⟩
    · exact q.elim
theorem o_add : O2 X (binaryOp .Add) gAdd := O2.of (OpR.or op_add (OpR.or op_add_str (OpR.or op_catA op_cat))) gAdd_mono fun al F G H M x y dx dy Q W r1 r2 q => by
  unfold gAdd at q
  split at q
  · cases r1; cases r2
    exact .inl ⟨_, _, rfl, rfl, kont.here q W (.int _)⟩
  · cases r1; cases r2
    exact .inr (.inl ⟨_, _, rfl, rfl, le_line q.1, kont.here q.2 W (.str _)⟩)
  · cases r1 with
    | tup a1 b1 =>
      cases r2 with
      | tup a2 b2 =>
        have l1 := b1.length
        have l2 := b2.length
        refine .inr (.inr (.inl ⟨_, _, _, _, rfl, rfl, (W.sm.sq a1), (W.sm.sq a2), le_line (by have := q.1; omega), fun z => ?_, fun _ z => ?_, fun _ _ p hp => kont.tup q.2 W (b1.append b2) hp⟩))
        · subst z
          cases b1
          exact kont.here q.2 W (.tup a2 b2)
        · subst z
          cases b2
          rw [List.append_nil] at q
          exact kont.here q.2 W (.tup a1 b1)
  · split at q
    · next e1 e2 =>
      obtain ⟨p1, xs1, rfl, h1, s1⟩ := seqOf_ok W r1 e1
      obtain ⟨p2, xs2, rfl, h2, s2⟩ := seqOf_ok W r2 e2
      have l1 := s1.length
      have l2 := s2.length
      exact .inr (.inr (.inr ⟨_, _, _, _, rfl, rfl, h1, h2, le_line (by have := q.1; omega), fun p hp => kont.lst q.2 W (s1.append s2) hp⟩))
    · exact q.elim
theorem Rps.rep {K : PySem.W.Frag} {F : Hp} {al : List Addr} {xs : List V} {ds : List D} (h : Rps K F al xs ds) : ∀ k : Nat, Rps K F al (List.replicate k xs).flatten (List.replicate k ds).flatten
  | 0 => .nil
  | k + 1 => by rw [List.replicate_succ, List.replicate_succ, List.flatten_cons, List.flatten_cons]; exact h.append (h.rep k)
/-- * : ints; lists and tuples some times -/
@[reducible] def gMul : G2 := fun x y M Q => match x, y with
  | .int i, .int j => CMul i j ∧ Q (.int (i * j)) M
  | .tup ds, .int k => ds ≠ [] ∧ 2 ≤ k ∧ k ≤ 1000 ∧ ds.length ≤ 1000 ∧ Q (.tup (List.replicate k.toNat ds).flatten) M
  | x, .int k => match seqOf x M with
    | some ds => 0 ≤ k ∧ k < 100000 ∧ ds.length * k.toNat ≤ 100000 ∧ Q (.lst (List.replicate k.toNat ds).flatten) M
    | none => False
  | _, _ => False
def isNon : D → Bool
  | .non => true
  | _ => false
@[reducible] def gIsN (neg : Bool) : G2 := fun x y M Q => match y with
  | .non => Q (.bl (isNon x ^^ neg)) M
  | _ => False
theorem gIsN_mono (neg : Bool) : Mono2 (gIsN neg) := fun x y M Q Q' w q => by
  unfold gIsN at q ⊢
  split at q
  · exact w _ _ q
  · exact q.elim
theorem isNon_ok {K : PySem.W.Frag} {F : Hp} {al : List Addr} {v : V} {d : D} (r : Rp K F al v d) : decide (v = .non) = isNon d := by
  cases r <;> simp [isNon]
theorem o_isN : O2 X (compareOp .Is) (gIsN false) := O2.of op_isN (gIsN_mono _) fun al F G H M x y dx dy Q W r1 r2 q => by
  unfold gIsN at q
  split at q
  · cases r2
    rw [Bool.xor_false] at q
    exact ⟨rfl, by rw [isNon_ok r1]; exact kont.here q W (.bl _)⟩
  · exact q.elim
theorem o_notN : O2 X (compareOp .IsNot) (gIsN true) := O2.of op_notN (gIsN_mono _) fun al F G H M x y dx dy Q W r1 r2 q => by
  unfold gIsN at q
  split at q
  · cases r2
    rw [Bool.xor_true] at q
    exact ⟨rfl, by rw [isNon_ok r1]; exact kont.here q W (.bl _)⟩
  · exact q.elim
mutual
def toPy : D → PyData
  | .non => .none
  | .bl b => .bool b
  | .int i => .int i
  | .str x => .str x
  | .tup ds => .tuple (toPys ds)
  | .lst ds => .list (toPys ds)
  | .dct _ _ => .none
  | .ref _ => .none
  | .scr _ => .none
  | .exo _ _ _ _ _ => .none
  | .clo _ _ _ _ => .none
def toPys : List D → List PyData
  | [] => []
  | d :: ds => toPy d :: toPys ds
end
mutual
def pu : D → Bool
  | .non | .bl _ | .int _ | .str _ => true
  | .tup ds => pus ds
  | .lst ds => pus ds
  | .dct _ _ | .ref _ | .scr _ | .exo _ _ _ _ _ | .clo _ _ _ _ => false
def pus : List D → Bool
  | [] => true
  | d :: ds => pu d && pus ds
end
section
variable {K : PySem.W.Frag} {al : List Addr} {F G H : Hp} {M : Sto}
mutual
theorem dp_of (sm : Sm F H) : ∀ {d : D} {v : V}, Rp K F al v d → pu d = true → Dp K H v (toPy d)
  | .non, _, r, _ => by cases r; exact .non
  | .bl _, _, r, _ => by cases r; exact .bl _
  | .int _, _, r, _ => by cases r; exact .int _
  | .str _, _, r, _ => by cases r; exact .str _
  | .tup _, _, r, h => by
    cases r with
    | tup a b => exact .tup ((sm.sq a)) (dps_of sm b h)
  | .lst _, _, r, h => by
    cases r with
    | lst a b => exact .lst (SqL.of (sm _ _ a)) (dps_of sm b h)
  | .dct _ _, _, _, h => by cases h
  | .ref _, _, _, h => by cases h
  | .scr _, _, _, h => by cases h
  | .exo _ _ _ _ _, _, _, h => by cases h
  | .clo _ _ _ _, _, _, h => by cases h
theorem dps_of (sm : Sm F H) : ∀ {ds : List D} {vs : List V}, Rps K F al vs ds → pus ds = true → DpAll K H vs (toPys ds)
  | [], _, r, _ => by cases r; exact .nil
  | d :: ds, _, r, h => by
    cases r with
    | cons a b =>
      have h' : pu d = true ∧ pus ds = true := by simpa [pus] using h
      exact .cons (dp_of sm a h'.1) (dps_of sm b h'.2)
end
/-- a list of the store, as it stands -/
def vw : D → Sto → D
  | .ref n, M => match M[n]? with
    | some (.lst ds) => .lst ds
    | _ => .ref n
  | d, _ => d
theorem dp_vw {v : V} {d : D} (W : Wd K al F G H M) (r : Rp K F al v d) (h : pu (vw d M) = true) : Dp K H v (toPy (vw d M)) := by
  cases r with
  | ref a =>
    unfold vw at h ⊢
    dsimp only at h ⊢
    split at h
    · next ds e =>
      obtain ⟨xs, q, rs⟩ := W.cel _ _ _ e a
      exact .lst (SqL.of q) (dps_of W.sm rs h)
    · cases h
  | non => exact .non
  | bl b => exact .bl b
  | int i => exact .int i
  | str x => exact .str x
  | tup a b => exact dp_of W.sm (.tup a b) h
  | lst a b => exact dp_of W.sm (.lst a b) h
  | dct a l b => cases h
  | scr a => cases h
  | exo0 => cases h
  | exo a l b => cases h
  | clo a b => cases h
end
def eqOk (d : D) (M : Sto) : Prop := pu (vw d M) = true ∧ SeqAt.shaped (toPy (vw d M)) = true
@[reducible] def gEq (neg : Bool) : G2 := fun x y M Q => match x, y with
  | .int i, .int j => Q (.bl (decide (i = j) ^^ neg)) M
  | .str i, .str j => Q (.bl (decide (i = j) ^^ neg)) M
  | x, y => eqOk x M ∧ eqOk y M ∧ Q (.bl (PyData.eqv (toPy (vw x M)) (toPy (vw y M)) ^^ neg)) M
theorem gEq_mono (neg : Bool) : Mono2 (gEq neg) := fun x y M Q Q' w q => by
  unfold gEq at q ⊢
  split at q
  · exact w _ _ q
  · exact w _ _ q
  · exact ⟨q.1, q.2.1, w _ _ q.2.2⟩
theorem o_eq (hu : X.A.units + 64 < cLine) : O2 X (compareOp .Eq) (gEq false) := O2.of (OpR.or op_eq (op_eqD hu)) (gEq_mono _) fun al F G H M x y dx dy Q W r1 r2 q => by
  unfold gEq at q
  split at q
  · cases r1; cases r2
    rw [Bool.xor_false] at q
    refine .inl ⟨rfl, ?_⟩
    have e : ∀ i j : Int, decide (V.int i = V.int j) = decide (i = j) := fun i j => by simp
    rw [e]
    exact kont.here q W (.bl _)
  · cases r1; cases r2
    rw [Bool.xor_false] at q
    refine .inl ⟨rfl, ?_⟩
    have e : ∀ i j : Str, decide (V.str i = V.str j) = decide (i = j) := fun i j => by simp
    rw [e]
    exact kont.here q W (.bl _)
  · rw [Bool.xor_false] at q
    exact .inr ⟨_, _, dp_vw W r1 q.1.1, dp_vw W r2 q.2.1.1, q.1.2, q.2.1.2, kont.here q.2.2 W (.bl _)⟩
theorem o_ne (hu : X.A.units + 64 < cLine) : O2 X (compareOp .NotEq) (gEq true) := O2.of (OpR.or op_ne (op_neD hu)) (gEq_mono _) fun al F G H M x y dx dy Q W r1 r2 q => by
  unfold gEq at q
  split at q
  · cases r1; cases r2
    rw [Bool.xor_true] at q
    refine .inl ⟨rfl, ?_⟩
    have e : ∀ i j : Int, (!decide (V.int i = V.int j)) = !decide (i = j) := fun i j => by simp
    rw [e]
    exact kont.here q W (.bl _)
  · cases r1; cases r2
    rw [Bool.xor_true] at q
    refine .inl ⟨rfl, ?_⟩
    have e : ∀ i j : Str, (!decide (V.str i = V.str j)) = !decide (i = j) := fun i j => by simp
    rw [e]
    exact kont.here q W (.bl _)
  · rw [Bool.xor_true] at q
    exact .inr ⟨_, _, dp_vw W r1 q.1.1, dp_vw W r2 q.2.1.1, q.1.2, q.2.1.2, kont.here q.2.2 W (.bl _)⟩
def rN (K : PySem.W.Frag) (g : GN) : List V → Hp → VK → Prop := fun xs H Q => ∃ ds al F G M, Wd K al F G H M ∧ Rps K F al xs ds ∧ g ds M (kont K al F G Q)
theorem ON.callR {f : Value} {g : GN} (h : ON X f g) : CallR X f (rN X.K g) := fun pins s σ H xs us Q I r ⟨ds, al, F, G, M, W, rs, q⟩ => h.run pins s σ al F G H M xs us ds Q I r W rs q
theorem dApp_mono {es : List Expr} {fr : DTA} {g : GN} (ha : DA X es fr) (hg : MonoN g) : ∀ ρ M (Q Q' : DK), (∀ d M, Q d M → Q' d M) → dApp g fr ρ M Q → dApp g fr ρ M Q' :=
  fun ρ M Q Q' w q => ha.mono _ _ _ _ (fun ds M1 q1 => hg _ _ _ _ w q1) q
theorem app_ok {es : List Expr} {fr : DTA} {g : GN} (ha : DA X es fr) (hg : MonoN g) {σ : L2.St} {H : Hp} {Q : VK} (h : Lift X (dApp g fr) σ H Q) : tCB (rN X.K g) (LiftA X fr) σ H Q := by
  obtain ⟨ρ, M, al, F, G, W, es, q⟩ := h
  exact ha.seq W es q fun ds M1 al1 F1 H1 vs q1 e1 W1 r1 s1 => ⟨ds, al1, F1, G, M1, W1, r1, hg _ _ _ _ (fun d M2 k => kont.ext k e1) q1⟩
theorem d_callB {x : Str} {p : Pos} {es : List Expr} {fr : DTA} {id : String} {g : GN} (ho : ON X (.builtin id) g) (hg : Gl X x) (hm : X.mg x = none) (hv : bootBuiltins x = some (.builtin id)) (ha : DA X (a :: es) fr) (hn : x ≠ "__name__" := by decide) (hd : (x == ("__debug__" : Str)) = false := by decide)
    (hs : starEach (a :: es) X.env = (false, eval a X.env) :: starEach es X.env := by rfl) (hpl : (backTo pos (starEach es X.env)).any (·.1) = false := by rfl) : DE X (.Call (.Name x p) (a :: es) [] pos) (dApp g fr) :=
  ⟨PE.of (pe_callB ho.callR hg hm hv ha.pa hn hd hs hpl) fun σ H Q h => app_ok ha ho.mono h, dApp_mono ha ho.mono⟩
theorem d_callTy {x : Str} {p : Pos} {es : List Expr} {fr : DTA} {T : String} {g : GN} (ho : ON X (.type T) g) (hg : Gl X x) (hm : X.mg x = none) (hv : bootBuiltins x = some (.type T)) (ha : DA X (a :: es) fr) (hn : x ≠ "__name__" := by decide) (hd : (x == ("__debug__" : Str)) = false := by decide)
    (hs : starEach (a :: es) X.env = (false, eval a X.env) :: starEach es X.env := by rfl) (hpl : (backTo pos (starEach es X.env)).any (·.1) = false := by rfl) : DE X (.Call (.Name x p) (a :: es) [] pos) (dApp g fr) :=
  ⟨PE.of (pe_callTy ho.callR hg hm hv ha.pa hn hd hs hpl) fun σ H Q h => app_ok ha ho.mono h, dApp_mono ha ho.mono⟩
@[reducible] def g1 (g : G1) : GN := fun ds M Q => match ds with
  | [d] => g d M Q
  | _ => False
theorem g1_mono {g : G1} (h : Mono1 g) : MonoN (g1 g) := fun ds M Q Q' w q => by
  unfold g1 at q ⊢
  split at q
  · exact h _ _ _ _ w q
  · exact q.elim
theorem ON.of1 {f : Value} {r : List V → Hp → VK → Prop} {g : G1} (h : CallR X f r) (m : Mono1 g)
    (k : ∀ al F G H M x d Q, Wd X.K al F G H M → Rp X.K F al x d → g d M (kont X.K al F G Q) → r [x] H Q) : ON X f (g1 g) :=
  ON.of h (g1_mono m) fun al F G H M xs ds Q W rs q => by
    match ds, rs, q with
    | [d], .cons r .nil, q => exact k al F G H M _ d Q W r q
    | [], _, q => exact q.elim
    | _ :: _ :: _, _, q => exact q.elim
/-- len -/
def lenOf : D → Sto → Option Nat
  | .tup ds, _ => some ds.length
  | .scr ns, _ => some ns.length
  | d, M => match seqOf d M with
    | some ds => some ds.length
    | none => none
@[reducible] def gLen : G1 := fun d M Q => match d with
  | .str x => x.length ≤ 100000 ∧ Q (.int x.length) M
  | d => match lenOf d M with
    | some n => Q (.int n) M
    | none => False
theorem gLen_mono : Mono1 gLen := fun d M Q Q' w q => by
  unfold gLen at q ⊢
  split at q
  · exact ⟨q.1, w _ _ q.2⟩
  · split at q
    · exact w _ _ q
    · exact q.elim
theorem o_len : ON X (.builtin "len") (g1 gLen) := ON.of1 call_len gLen_mono fun al F G H M x d Q W r q => by
  unfold gLen at q
  split at q
  · cases r
    exact ⟨_, _, rfl, ⟨le_line q.1, rfl⟩, kont.here q.2 W (.int _)⟩
  · split at q
    · next e =>
      unfold lenOf at e
      split at e
      · cases e
        cases r with
        | tup a b =>
          rw [← b.length] at q
          exact ⟨_, _, rfl, .inr ⟨_, (W.sm.sq a), rfl⟩, kont.here q W (.int _)⟩
      · cases e
        cases r with
        | scr a => exact ⟨_, _, rfl, .inl ⟨_, W.sm.l a, (List.length_map ..).symm⟩, kont.here q W (.int _)⟩
      · cases e2 : seqOf d M with
        | none => rw [e2] at e; cases e
        | some ds =>
          rw [e2] at e
          cases e
          obtain ⟨p1, xs1, rfl, h1, s1⟩ := seqOf_ok W r e2
          rw [← s1.length] at q
          exact ⟨_, _, rfl, .inl ⟨_, SqL.of h1, rfl⟩, kont.here q W (.int _)⟩
    · exact q.elim
/-- tuple(..), list(..) -/
@[reducible] def gTuple : G1 := fun d M Q => match d with
  | .tup ds => Q (.tup ds) M
  | d => match seqOf d M with
    | some ds => Q (.tup ds) M
    | none => False
theorem gTuple_mono : Mono1 gTuple := fun d M Q Q' w q => by
  unfold gTuple at q ⊢
  split at q
  · exact w _ _ q
  · split at q
    · exact w _ _ q
    · exact q.elim
theorem o_tuple : ON X (.type "tuple") (g1 gTuple) := ON.of1 call_tuple_of gTuple_mono fun al F G H M x d Q W r q => by
  unfold gTuple at q
  split at q
  · cases r with
    | tup a b => exact ⟨_, _, rfl, .inr ⟨(W.sm.sq a), kont.here q W (.tup a b)⟩⟩
  · split at q
    · next e =>
      obtain ⟨p1, xs1, rfl, h1, s1⟩ := seqOf_ok W r e
      exact ⟨_, _, rfl, .inl ⟨SqL.of h1, fun l hl => kont.tup q W s1 hl⟩⟩
    · exact q.elim
@[reducible] def gList : G1 := fun d M Q => match d with
  | .tup ds => Q (.lst ds) M
  | d => match seqOf d M with
    | some ds => Q (.lst ds) M
    | none => False
theorem gList_mono : Mono1 gList := fun d M Q Q' w q => by
  unfold gList at q ⊢
  split at q
  · exact w _ _ q
  · split at q
    · exact w _ _ q
    · exact q.elim
theorem o_list : ON X (.type "list") (g1 gList) := ON.of1 call_list_of gList_mono fun al F G H M x d Q W r q => by
  unfold gList at q
  split at q
  · cases r with
    | tup a b => exact ⟨_, _, rfl, .inr ((W.sm.sq a)), fun l hl => kont.lst q W b hl⟩
  · split at q
    · next e =>
      obtain ⟨p1, xs1, rfl, h1, s1⟩ := seqOf_ok W r e
      exact ⟨_, _, rfl, .inl (SqL.of h1), fun l hl => kont.lst q W s1 hl⟩
    · exact q.elim
/-- abs, max, min of two; int, str of an int -/
@[reducible] def gAbs : G1 := fun d M Q => match d with
  | .int i => Q (.int (if i < 0 then -i else i)) M
  | _ => False
theorem o_abs : ON X (.builtin "abs") (g1 gAbs) := ON.of1 call_abs (fun d M Q Q' w q => by
    unfold gAbs at q ⊢
    split at q
    · exact w _ _ q
    · exact q.elim) fun al F G H M x d Q W r q => by
  cases r <;> first | exact q.elim | exact ⟨_, rfl, kont.here q W (.int _)⟩
@[reducible] def g2I (f : Int → Int → Int) : GN := fun ds M Q => match ds with
  | [.int i, .int j] => Q (.int (f i j)) M
  | _ => False
theorem g2I_mono (f : Int → Int → Int) : MonoN (g2I f) := fun ds M Q Q' w q => by
  unfold g2I at q ⊢
  split at q
  · exact w _ _ q
  · exact q.elim
@[reducible] def gStrI : G1 := fun d M Q => match d with
  | .int i => i.natAbs.log2 < 1920 ∧ Q (.str (Str.ofString (toString i))) M
  | _ => False
@[reducible] def gInt1 : G1 := fun d M Q => match d with
  | .int i => Q (.int i) M
  | .bl b => Q (.int (if b = true then 1 else 0)) M
  | _ => False
theorem o_int1 : ON X (.type "int") (g1 gInt1) := ON.of1 call_int1 (fun d M Q Q' w q => by
    unfold gInt1 at q ⊢
    split at q
    · exact w _ _ q
    · exact w _ _ q
    · exact q.elim) fun al F G H M x d Q W r q => by
  cases r <;> first | exact q.elim | exact .inl ⟨_, rfl, kont.here q W (.int _)⟩ | exact .inr ⟨_, rfl, kont.here q W (.int _)⟩
/-- sum, min, max of a list of ints; all, any of a list of bools -/
def intsOf : List D → Option (List Int)
  | [] => some []
  | .int i :: r => (intsOf r).map (i :: ·)
  | _ :: _ => none
theorem intsOf_eq : ∀ {ds : List D} {ns : List Int}, intsOf ds = some ns → ds = ns.map D.int
  | [], _, h => by cases h; rfl
  | d :: r, ns, h => by
    cases d <;> first | (cases h; done) | skip
    unfold intsOf at h
    cases e : intsOf r with
    | none => rw [e] at h; cases h
    | some ms => rw [e] at h; cases h; rw [intsOf_eq e]; rfl
theorem intsOf_map (ns : List Int) : intsOf (ns.map D.int) = some ns := by
  induction ns with
  | nil => rfl
  | cons n ns ih => rw [List.map_cons]; unfold intsOf; rw [ih]; rfl
def blsOf : List D → Option (List Bool)
  | [] => some []
  | .bl i :: r => (blsOf r).map (i :: ·)
  | _ :: _ => none
theorem blsOf_eq : ∀ {ds : List D} {ns : List Bool}, blsOf ds = some ns → ds = ns.map D.bl
  | [], _, h => by cases h; rfl
  | d :: r, ns, h => by
    cases d <;> first | (cases h; done) | skip
    unfold blsOf at h
    cases e : blsOf r with
    | none => rw [e] at h; cases h
    | some ms => rw [e] at h; cases h; rw [blsOf_eq e]; rfl
theorem blsOf_map (ns : List Bool) : blsOf (ns.map D.bl) = some ns := by
  induction ns with
  | nil => rfl
  | cons n ns ih => rw [List.map_cons]; unfold blsOf; rw [ih]; rfl
def minI : List Int → Int
  | [] => 0
  | [x] => x
  | x :: y :: r => min x (minI (y :: r))
def maxI : List Int → Int
  | [] => 0
  | [x] => x
  | x :: y :: r => max x (maxI (y :: r))
theorem minI_le : ∀ {ns : List Int} {x : Int}, x ∈ ns → minI ns ≤ x
  | [y], x, h => by simp at h; subst h; exact Int.le_refl _
  | y :: z :: r, x, h => by
    unfold minI
    rcases List.mem_cons.mp h with rfl | h
    · exact Int.min_le_left _ _
    · exact Int.le_trans (Int.min_le_right _ _) (minI_le h)
theorem minI_mem : ∀ {ns : List Int}, ns ≠ [] → minI ns ∈ ns
  | [y], _ => by simp [minI]
  | y :: z :: r, _ => by
    unfold minI
    have ih := minI_mem (ns := z :: r) (by simp)
    rcases Int.le_total y (minI (z :: r)) with h | h
    · rw [Int.min_eq_left h]; exact List.mem_cons_self
    · rw [Int.min_eq_right h]; exact List.mem_cons_of_mem _ ih
theorem le_maxI : ∀ {ns : List Int} {x : Int}, x ∈ ns → x ≤ maxI ns
  | [y], x, h => by simp at h; subst h; exact Int.le_refl _
  | y :: z :: r, x, h => by
    unfold maxI
    rcases List.mem_cons.mp h with rfl | h
    · exact Int.le_max_left _ _
    · exact Int.le_trans (le_maxI h) (Int.le_max_right _ _)
theorem maxI_mem : ∀ {ns : List Int}, ns ≠ [] → maxI ns ∈ ns
  | [y], _ => by simp [maxI]
  | y :: z :: r, _ => by
    unfold maxI
    have ih := maxI_mem (ns := z :: r) (by simp)
    rcases Int.le_total y (maxI (z :: r)) with h | h
    · rw [Int.max_eq_right h]; exact List.mem_cons_of_mem _ ih
    · rw [Int.max_eq_left h]; exact List.mem_cons_self
theorem minI_uniq {ns : List Int} {m : Int} (h : m ∈ ns) (l : ∀ x ∈ ns, m ≤ x) : minI ns = m :=
  Int.le_antisymm (minI_le h) (l _ (minI_mem (List.ne_nil_of_mem h)))
theorem maxI_uniq {ns : List Int} {m : Int} (h : m ∈ ns) (l : ∀ x ∈ ns, x ≤ m) : maxI ns = m :=
  Int.le_antisymm (l _ (maxI_mem (List.ne_nil_of_mem h))) (le_maxI h)
@[reducible] def gInts (f : List Int → Sto → DK → Prop) : G1 := fun d M Q => match seqOf d M with
  | some ds => match intsOf ds with
    | some ns => f ns M Q
    | none => False
  | none => False
theorem gInts_mono {f : List Int → Sto → DK → Prop} (h : ∀ ns M (Q Q' : DK), (∀ d M, Q d M → Q' d M) → f ns M Q → f ns M Q') : Mono1 (gInts f) := fun d M Q Q' w q => by
  unfold gInts at q ⊢
  split at q
  · split at q
    · exact h _ _ _ _ w q
    · exact q.elim
  · exact q.elim
theorem gInts_ok {f : List Int → Sto → DK → Prop} {K : PySem.W.Frag} {al : List Addr} {F G H : Hp} {M : Sto} {v : V} {d : D} {Q : DK} (W : Wd K al F G H M) (r : Rp K F al v d) (h : gInts f d M Q) : ∃ a ns, v = .ref a ∧ SqL K H a (ns.map V.int) ∧ f ns M Q := by
  unfold gInts at h
  split at h
  · next ds e2 =>
    split at h
    · next ns e =>
      have e3 := intsOf_eq e
      subst e3
      obtain ⟨p1, xs1, rfl, h1, s1⟩ := seqOf_ok W r e2
      rw [s1.ints] at h1
      exact ⟨_, ns, rfl, SqL.of h1, h⟩
    · exact h.elim
  · exact h.elim
@[reducible] def gBls (f : List Bool → Sto → DK → Prop) : G1 := fun d M Q => match seqOf d M with
  | some ds => match blsOf ds with
    | some ns => f ns M Q
    | none => False
  | none => False
theorem gBls_mono {f : List Bool → Sto → DK → Prop} (h : ∀ ns M (Q Q' : DK), (∀ d M, Q d M → Q' d M) → f ns M Q → f ns M Q') : Mono1 (gBls f) := fun d M Q Q' w q => by
  unfold gBls at q ⊢
  split at q
  · split at q
    · exact h _ _ _ _ w q
    · exact q.elim
  · exact q.elim
theorem gBls_ok {f : List Bool → Sto → DK → Prop} {K : PySem.W.Frag} {al : List Addr} {F G H : Hp} {M : Sto} {v : V} {d : D} {Q : DK} (W : Wd K al F G H M) (r : Rp K F al v d) (h : gBls f d M Q) : ∃ a ns, v = .ref a ∧ SqL K H a (ns.map V.bl) ∧ f ns M Q := by
  unfold gBls at h
  split at h
  · next ds e2 =>
    split at h
    · next ns e =>
      have e3 := blsOf_eq e
      subst e3
      obtain ⟨p1, xs1, rfl, h1, s1⟩ := seqOf_ok W r e2
      rw [s1.bls] at h1
      exact ⟨_, ns, rfl, SqL.of h1, h⟩
    · exact h.elim
  · exact h.elim
@[reducible] def fSum : List Int → Sto → DK → Prop := fun ns M Q => Q (.int ns.sum) M
@[reducible] def fMin : List Int → Sto → DK → Prop := fun ns M Q => ns ≠ [] ∧ Q (.int (minI ns)) M
@[reducible] def fMax : List Int → Sto → DK → Prop := fun ns M Q => ns ≠ [] ∧ Q (.int (maxI ns)) M
@[reducible] def fAll : List Bool → Sto → DK → Prop := fun ns M Q => Q (.bl (ns.all id)) M
@[reducible] def fAny : List Bool → Sto → DK → Prop := fun ns M Q => Q (.bl (ns.any id)) M
theorem o_sum (hc : X.calm = true) : ON X (.builtin "sum") (g1 (gInts fSum)) := ON.of1 (cr_sum hc) (gInts_mono fun _ _ _ _ w q => w _ _ q) fun al F G H M x d Q W r q => by
  obtain ⟨p, ns, rfl, h, k⟩ := gInts_ok W r q
  exact ⟨p, ns, rfl, h, kont.here k W (.int _)⟩
theorem o_all (hc : X.calm = true) : ON X (.builtin "all") (g1 (gBls fAll)) := ON.of1 (cr_all hc) (gBls_mono fun _ _ _ _ w q => w _ _ q) fun al F G H M x d Q W r q => by
  obtain ⟨p, ns, rfl, h, k⟩ := gBls_ok W r q
  exact ⟨p, ns, rfl, h, kont.here k W (.bl _)⟩
theorem o_any (hc : X.calm = true) : ON X (.builtin "any") (g1 (gBls fAny)) := ON.of1 (cr_any hc) (gBls_mono fun _ _ _ _ w q => w _ _ q) fun al F G H M x d Q W r q => by
  obtain ⟨p, ns, rfl, h, k⟩ := gBls_ok W r q
  exact ⟨p, ns, rfl, h, kont.here k W (.bl _)⟩
theorem len_pos {ns : List Int} (h : ns ≠ []) : 0 < ns.length := List.length_pos_iff.mpr h
theorem o_max2 (hc : X.calm = true) : ON X (.builtin "max") (g2I fun m n => if n > m then n else m) := ON.of (call_max2 hc) (g2I_mono _) fun al F G H M xs ds Q W rs q => by
  unfold g2I at q
  split at q
  · cases rs with
    | cons r1 rs =>
      cases rs with
      | cons r2 rs =>
        cases rs; cases r1; cases r2
        exact ⟨_, _, rfl, kont.here q W (.int _)⟩
  · exact q.elim
theorem o_min2 (hc : X.calm = true) : ON X (.builtin "min") (g2I fun m n => if n < m then n else m) := ON.of (call_min2 hc) (g2I_mono _) fun al F G H M xs ds Q W rs q => by
  unfold g2I at q
  split at q
  · cases rs with
    | cons r1 rs =>
      cases rs with
      | cons r2 rs =>
        cases rs; cases r1; cases r2
        exact ⟨_, _, rfl, kont.here q W (.int _)⟩
  · exact q.elim
end
end DL
namespace DL
open PySem PySem.Spec PyProof.Rows L2
section
variable {X : Cx} {a b c : Expr} {fa fb fc : DTE} {pos : Pos} {ta tb : DTT} {es : List Expr} {fr : DTA}
@[reducible] def dTup (fr : DTA) : DTE := fun ρ M Q => fr ρ M fun ds M1 => ds.length ≤ 100000 ∧ Q (.tup ds) M1
@[reducible] def dLst (fr : DTA) : DTE := fun ρ M Q => fr ρ M fun ds M1 => ds.length ≤ 100000 ∧ Q (.lst ds) M1
/-- a list that will be changed -/
@[reducible] def dLstM (fr : DTA) : DTE := fun ρ M Q => fr ρ M fun ds M1 => ds.length ≤ 100000 ∧ Q (.ref M1.length) (M1 ++ [.lst ds])
theorem d_tup {k : Nat} (h : DA X es fr) : DE X (.Tuple es k pos) (dTup fr) := by
  refine ⟨PE.of (pe_tup h.pa) fun σ H Q ⟨ρ, M, al, F, G, W, s, q⟩ => ?_, fun ρ M Q Q' w q => h.mono _ _ _ _ (fun ds M1 q1 => ⟨q1.1, w _ _ q1.2⟩) q⟩
  refine h.seq W s q fun ds M1 al1 F1 H1 vs q1 e1 W1 r1 s1 => ⟨le_line (by rw [r1.length]; exact q1.1), fun p hp => kont.tup (kont.ext q1.2 e1) W1 r1 hp⟩
theorem d_lst (h : DA X es fr) : DE X (.List es pos) (dLst fr) := by
  refine ⟨PE.of (pe_lst h.pa) fun σ H Q ⟨ρ, M, al, F, G, W, s, q⟩ => ?_, fun ρ M Q Q' w q => h.mono _ _ _ _ (fun ds M1 q1 => ⟨q1.1, w _ _ q1.2⟩) q⟩
  refine h.seq W s q fun ds M1 al1 F1 H1 vs q1 e1 W1 r1 s1 => ⟨le_line (by rw [r1.length]; exact q1.1), fun p hp => kont.lst (kont.ext q1.2 e1) W1 r1 hp⟩
theorem d_lstM (h : DA X es fr) : DE X (.List es pos) (dLstM fr) := by
  refine ⟨PE.of (pe_lst h.pa) fun σ H Q ⟨ρ, M, al, F, G, W, s, q⟩ => ?_, fun ρ M Q Q' w q => h.mono _ _ _ _ (fun ds M1 q1 => ⟨q1.1, w _ _ q1.2⟩) q⟩
  refine h.seq W s q fun ds M1 al1 F1 H1 vs q1 e1 W1 r1 s1 => ⟨le_line (by rw [r1.length]; exact q1.1), fun p hp => kont.new (kont.ext q1.2 e1) W1 r1 hp⟩
/-- *e in a display -/
def itemsOf : D → Sto → Option (List D)
  | .tup ds, _ => some ds
  | d, M => seqOf d M
theorem itemsOf_ok {K : PySem.W.Frag} {al : List Addr} {F G H : Hp} {M : Sto} {v : V} {d : D} {ds : List D} (W : Wd K al F G H M) (r : Rp K F al v d) (h : itemsOf d M = some ds) : ∃ a xs, v = .ref a ∧ (Rd H a (.tup xs) ∨ H a = some (.lst xs)) ∧ Rps K F al xs ds := by
  unfold itemsOf at h
  split at h
  · cases h
    cases r with
    | tup a b => exact ⟨_, _, rfl, .inl (W.sm.rd a), b⟩
  · obtain ⟨p, xs, rfl, h1, h2⟩ := seqOf_ok W r h
    exact ⟨p, xs, rfl, .inr h1, h2⟩
@[reducible] def dStar (fa : DTE) (fr : DTA) : DTA := fun ρ M Q => fa ρ M fun d M1 => match itemsOf d M1 with
  | some xs => fr ρ M1 fun ys M2 => Q (xs ++ ys) M2
  | none => False
theorem d_star {p : Pos} (h : DE X a fa) (hr : DA X es fr) (hs : starEach (.Starred a p :: es) X.env = (true, eval a X.env) :: starEach es X.env := by rfl) : DA X (.Starred a p :: es) (dStar fa fr) := by
  refine ⟨PA.of (StX.pa_star h.pe hr.pa hs) fun σ H Q ⟨ρ, M, al, F, G, W, s, q⟩ => ?_, fun ρ M Q Q' w q => h.mono _ _ _ _ (fun d M1 q1 => ?_) q⟩
  · refine h.seq W s q fun d M1 al1 F1 H1 v q1 e1 W1 r1 s1 => ?_
    split at q1
    · next ds e =>
      obtain ⟨p, xs, rfl, h1, h2⟩ := itemsOf_ok W1 r1 e
      refine ⟨p, xs, rfl, h1.imp sqR SqL.of, ?_⟩
      exact hr.seq W1 s1 q1 fun ys M2 al2 F2 H2 vs q2 e2 W2 r2 s2 => q2 al2 F2 H2 _ (e1.trans e2) W2 ((h2.ext e2).append r2)
    · exact q1.elim
  · try dsimp only at q1 ⊢
    split at q1
    · exact hr.mono _ _ _ _ (fun ys M2 q2 => w _ _ q2) q1
    · exact q1.elim
@[reducible] def gIx : G2 := fun x y M Q => match x, y with
  | .str z, .int i => z.length ≤ 100000 ∧ (match atI z.cps.toList i with
    | some c => Q (.str ⟨#[c]⟩) M
    | none => False)
  | x, .int i => match itemsOf x M with
    | some ds => match atI ds i with
      | some d => Q d M
      | none => False
    | none => False
  | _, _ => False
theorem gIx_mono : Mono2 gIx := fun x y M Q Q' w q => by
  unfold gIx at q ⊢
  split at q
  · refine ⟨q.1, ?_⟩
    have q := q.2
    split at q
    · next e => exact w _ _ q
    · exact q.elim
  · split at q
    · split at q
      · exact w _ _ q
      · exact q.elim
    · exact q.elim
  · exact q.elim
theorem Rps.at {K : PySem.W.Frag} {F : Hp} {al : List Addr} {xs : List V} {ds : List D} {i : Int} {d : D} (h : Rps K F al xs ds) (e : atI ds i = some d) : ∃ v, atI xs i = some v ∧ Rp K F al v d := by
  unfold atI at e ⊢
  rw [h.length]
  cases q : ixN ds.length i with
  | none => rw [q] at e; cases e
  | some j =>
    rw [q] at e
    exact h.get e
theorem d_ix (ha : DE X a fa) (hb : DE X b fb) (hs : PlainIx b) : DE X (.Subscript a b pos) (dBin gIx fa fb) := by
  refine ⟨PE.of (pe_ix ix_seq ha.pe hb.pe hs) fun σ H Q ⟨ρ, M, al, F, G, W, s, q⟩ => ?_, dBin_mono gIx_mono ha hb⟩
  refine ha.seq W s q fun dx M1 al1 F1 H1 v q1 e1 W1 r1 s1 => ?_
  refine hb.seq W1 s1 q1 fun dy M2 al2 F2 H2 u q2 e2 W2 r2 s2 => ?_
  have r1 := r1.ext e2
  unfold gIx at q2
  split at q2
  · cases r1; cases r2
    have q3 := q2.2
    split at q3
    · next e => exact .inr (.inr ⟨_, _, _, rfl, rfl, le_line q2.1, e, kont.here (kont.ext q3 (e1.trans e2)) W2 (.str _)⟩)
    · exact q3.elim
  · cases r2
    split at q2
    · next ds e3 =>
      split at q2
      · next d e =>
        obtain ⟨p, xs, rfl, h1, h2⟩ := itemsOf_ok W2 r1 e3
        obtain ⟨z, h3, h4⟩ := h2.at (show atI ds _ = some d from e)
        have fin := kont.here (kont.ext q2 (e1.trans e2)) W2 h4
        rcases h1 with h1 | h1
        · exact .inr (.inl ⟨_, _, _, _, rfl, rfl, sqR h1, h3, fin⟩)
        · exact .inl ⟨_, _, _, _, rfl, rfl, SqL.of h1, h3, fin⟩
      · exact q2.elim
    · exact q2.elim
  · exact q2.elim
def cut {α : Type} (xs : List α) (lo hi : Option Int) : List α := (xs.drop (HT.sIx xs.length 0 lo)).take (HT.sIx xs.length xs.length hi - HT.sIx xs.length 0 lo)
theorem Rps.cut {K : PySem.W.Frag} {F : Hp} {al : List Addr} {xs : List V} {ds : List D} (h : Rps K F al xs ds) (lo hi : Option Int) : Rps K F al (cutV xs lo hi) (DL.cut ds lo hi) := by
  unfold cutV DL.cut
  rw [h.length]
  exact (h.drop _).take _
abbrev DTO := Dn → Sto → (Option Int → Sto → Prop) → Prop
def kontO (K : PySem.W.Frag) (al : List Addr) (F G : Hp) (Q : Option Int → Hp → Prop) : Option Int → Sto → Prop := fun b M' => ∀ al' F' H', Ext al F al' F' → Wd K al' F' G H' M' → Q b H'
def LiftO (X : Cx) (f : DTO) : TO := fun σ H Q => ∃ ρ M al F G, Wd X.K al F G H M ∧ Es X F G al σ ρ ∧ f ρ M (kontO X.K al F G Q)
structure DO (X : Cx) (e : Option Expr) (f : DTO) : Prop where
  po : PO X e (LiftO X f)
  mono : ∀ ρ M (Q Q' : Option Int → Sto → Prop), (∀ d M, Q d M → Q' d M) → f ρ M Q → f ρ M Q'
theorem PO.of {e : Option Expr} {t t' : TO} (h : PO X e t) (w : ∀ σ H Q, t' σ H Q → t σ H Q) : PO X e t' := ⟨fun pins s σ H Q I q => h.run pins s σ H Q I (w σ H Q q)⟩
@[reducible] def dNoPart : DTO := fun _ M Q => Q none M
@[reducible] def dPart (fa : DTE) : DTO := fun ρ M Q => fa ρ M fun d M1 => match d with
  | .int i => Q (some i) M1
  | _ => False
theorem do_none : DO X none dNoPart := ⟨PO.of po_none fun σ H Q ⟨ρ, M, al, F, G, W, s, q⟩ => q al F H (Ext.refl _ _) W, fun _ _ _ _ w q => w _ _ q⟩
theorem do_some (h : DE X a fa) : DO X (some a) (dPart fa) := by
  refine ⟨PO.of (po_some h.pe) fun σ H Q ⟨ρ, M, al, F, G, W, s, q⟩ => ?_, fun ρ M Q Q' w q => h.mono _ _ _ _ (fun d M1 q1 => ?_) q⟩
  · refine h.seq W s q fun d M1 al1 F1 H1 v q1 e1 W1 r1 s1 => ?_
    cases r1 <;> first | exact q1.elim | exact ⟨_, rfl, q1 al1 F1 H1 e1 W1⟩
  · cases d <;> first | exact q1.elim | exact w _ _ q1
theorem DO.seq {e : Option Expr} {f : DTO} (h : DO X e f) {ρ : Dn} {M : Sto} {al : List Addr} {F G H : Hp} {σ : L2.St} {R : Option Int → Sto → Prop} {P : Option Int → Hp → Prop} (W : Wd X.K al F G H M) (s : Es X F G al σ ρ) (q : f ρ M R)
    (k : ∀ d M1 al1 F1 H1, R d M1 → Ext al F al1 F1 → Wd X.K al1 F1 G H1 M1 → Es X F1 G al1 σ ρ → P d H1) : LiftO X f σ H P :=
  ⟨ρ, M, al, F, G, W, s, h.mono _ _ _ _ (fun d M1 r al1 F1 H1 e W1 => k d M1 al1 F1 H1 r e W1 (s.ext e)) q⟩
@[reducible] def gSl (lo hi : Option Int) : G1 := fun d M Q => match d with
  | .tup ds => Q (.tup (cut ds lo hi)) M
  | .scr ns => Q (.lst (cut (ns.map D.int) lo hi)) M
  | .str z => z.length ≤ 100000 ∧ Q (.str (cutS z lo hi)) M
  | d => match seqOf d M with
    | some ds => Q (.lst (cut ds lo hi)) M
    | none => False
theorem gSl_mono (lo hi : Option Int) : Mono1 (gSl lo hi) := fun d M Q Q' w q => by
  unfold gSl at q ⊢
  split at q
  · exact w _ _ q
  · exact w _ _ q
  · exact ⟨q.1, w _ _ q.2⟩
  · split at q
    · exact w _ _ q
    · exact q.elim
@[reducible] def dSl (fa : DTE) (lo hi : DTO) : DTE := fun ρ M Q => fa ρ M fun x M1 => lo ρ M1 fun l M2 => hi ρ M2 fun h M3 => gSl l h x M3 Q
theorem cut_whole {ds : List D} {lo hi : Option Int} (h1 : HT.sIx ds.length 0 lo = 0) (h2 : HT.sIx ds.length ds.length hi = ds.length) : cut ds lo hi = ds := by
  unfold cut
  rw [h1, h2, List.drop_zero, Nat.sub_zero, List.take_length]
theorem d_slice {lo hi : Option Expr} {fl fh : DTO} {p2 : Pos} (ha : DE X a fa) (hl : DO X lo fl) (hh : DO X hi fh) : DE X (.Subscript a (.Slice lo hi none p2) pos) (dSl fa fl fh) := by
  refine ⟨PE.of (pe_slice (SlR.or sl_tupA (SlR.or sl_list sl_str)) ha.pe hl.po hh.po) fun σ H Q ⟨ρ, M, al, F, G, W, s, q⟩ => ?_, fun ρ M Q Q' w q => ha.mono _ _ _ _ (fun d M1 q1 => hl.mono _ _ _ _ (fun l M2 q2 => hh.mono _ _ _ _ (fun h M3 q3 => gSl_mono _ _ _ _ _ _ w q3) q2) q1) q⟩
  refine ha.seq W s q fun d M1 al1 F1 H1 v q1 e1 W1 r1 s1 => ?_
  refine hl.seq W1 s1 q1 fun l M2 al2 F2 H2 q2 e2 W2 s2 => ?_
  refine hh.seq W2 s2 q2 fun h M3 al3 F3 H3 q3 e3 W3 s3 => ?_
  have r1 := r1.ext (e2.trans e3)
  have eA := e1.trans (e2.trans e3)
  unfold gSl at q3
  split at q3
  · cases r1 with
    | tup a1 b1 =>
      refine .inl ⟨_, _, rfl, (W3.sm.sq a1), fun z => ?_, fun _ p hp => kont.tup (kont.ext q3 eA) W3 (b1.cut _ _) hp⟩
      rw [b1.length] at z
      rw [cut_whole z.1 z.2] at q3
      exact kont.here (kont.ext q3 eA) W3 (.tup a1 b1)
  · cases r1 with
    | scr a1 => exact .inr (.inl ⟨_, _, rfl, W3.sm.l a1, fun p hp => kont.lst (kont.ext q3 eA) W3 (Rps.of_ints.cut _ _) hp⟩)
  · cases r1
    exact .inr (.inr ⟨_, rfl, le_line q3.1, kont.here (kont.ext q3.2 eA) W3 (.str _)⟩)
  · split at q3
    · next e =>
      obtain ⟨p1, xs1, rfl, h1, s1⟩ := seqOf_ok W3 r1 e
      exact .inr (.inl ⟨_, _, rfl, SqL.of h1, fun p hp => kont.lst (kont.ext q3 eA) W3 (s1.cut _ _) hp⟩)
    · exact q3.elim
theorem cell_ok {K : PySem.W.Frag} {al : List Addr} {F G H : Hp} {M : Sto} {v : V} {n : Nat} {ds : List D} (W : Wd K al F G H M) (r : Rp K F al v (.ref n)) (e : M[n]? = some (.lst ds)) : ∃ p xs, v = .ref p ∧ al[n]? = some p ∧ H p = some (.lst xs) ∧ Rps K F al xs ds := by
  cases r with
  | ref a =>
    obtain ⟨xs, q, rs⟩ := W.cel _ _ _ e a
    exact ⟨_, xs, rfl, a, q, rs⟩
def isCell (M : Sto) (n : Nat) : Prop := ∃ ds, M[n]? = some (.lst ds)
theorem isCell.ex {M : Sto} {n : Nat} (h : isCell M n) : ∃ ds, M[n]? = some (.lst ds) := h
/-- a method of a list of the store: what it makes of the list and gives back -/
@[reducible] def dMt (step : List D → List D → (List D → D → Prop) → Prop) (fo : DTE) (fr : DTA) : DTE := fun ρ M Q => fo ρ M fun o M1 => match o with
  | .ref n => isCell M1 n ∧ fr ρ M1 fun ys M2 => match M2[n]? with
    | some (.lst ds) => step ds ys fun ds' d => Q d (M2.set n (.lst ds'))
    | _ => False
  | _ => False
theorem dMt_mono {step : List D → List D → (List D → D → Prop) → Prop} (hst : ∀ ds ys (k k' : List D → D → Prop), (∀ a b, k a b → k' a b) → step ds ys k → step ds ys k') {o : Expr} {fo : DTE} (ho : DE X o fo) (hr : DA X es fr) :
    ∀ ρ M (Q Q' : DK), (∀ d M, Q d M → Q' d M) → dMt step fo fr ρ M Q → dMt step fo fr ρ M Q' := fun ρ M Q Q' w q => ho.mono _ _ _ _ (fun d M1 q1 => by
  cases d <;> first | exact q1.elim | skip
  refine ⟨q1.1, hr.mono _ _ _ _ (fun ys M2 q2 => ?_) q1.2⟩
  try dsimp only at q2 ⊢
  split at q2
  · exact hst _ _ _ _ (fun a b k => w _ _ k) q2
  · exact q2.elim) q
/-- the method's reading, from its data -/
theorem mt_ok {step : List D → List D → (List D → D → Prop) → Prop} {r : V → List V → Hp → VK → Prop} {o : Expr} {fo : DTE} (ho : DE X o fo) (hr : DA X es fr)
    (hk : ∀ (K : PySem.W.Frag) al F (H : Hp) p xs ds us ys Q, H p = some (.lst xs) → Rps K F al xs ds → Rps K F al us ys → step ds ys (fun ds' d => ∀ xs' v, Rps K F al xs' ds' → Rp K F al v d → Q v (upd H p (.lst xs'))) → r (.ref p) us H Q)
    (hst : ∀ ds ys (k k' : List D → D → Prop), (∀ a b, k a b → k' a b) → step ds ys k → step ds ys k') {σ : L2.St} {H : Hp} {Q : VK} (h : Lift X (dMt step fo fr) σ H Q) :
    tBM X.K "list" r (Lift X fo) (LiftA X fr) σ H Q := by
  obtain ⟨ρ, M, al, F, G, W, s, q⟩ := h
  refine ho.seq W s q fun d M1 al1 F1 H1 v q1 e1 W1 r1 s1 => ?_
  cases d <;> first | exact q1.elim | skip
  obtain ⟨ds, e⟩ := q1.1.ex
  obtain ⟨p, xs, rfl, hp, hx, rs⟩ := cell_ok W1 r1 e
  refine ⟨.inl ⟨rfl, xs, SqL.of hx⟩, hr.seq W1 s1 q1.2 fun ys M2 al2 F2 H2 us q2 e2 W2 r2 s2 => ?_⟩
  try dsimp only at q2
  split at q2
  · next ds2 c2 =>
    obtain ⟨p2, xs2, z, hp2, hx2, rs2⟩ := cell_ok W2 (r1.ext e2) c2
    cases z
    refine hk X.K al2 F2 H2 p xs2 ds2 us ys Q hx2 rs2 r2 (hst _ _ _ _ (fun ds' d k xs' v h1 h2 => ?_) q2)
    exact k al2 F2 _ _ (e1.trans e2) (W2.write hp2 ⟨xs', upd_same, h1⟩) h2
  · exact q2.elim
@[reducible] def stApp : List D → List D → (List D → D → Prop) → Prop := fun ds ys k => match ys with
  | [y] => ds.length < 100000 ∧ k (ds ++ [y]) .non
  | _ => False
theorem stApp_mono : ∀ ds ys (k k' : List D → D → Prop), (∀ a b, k a b → k' a b) → stApp ds ys k → stApp ds ys k' := fun ds ys k k' w q => by
  unfold stApp at q ⊢
  split at q
  · exact ⟨q.1, w _ _ q.2⟩
  · exact q.elim
theorem d_append {o e : Expr} {fo : DTE} {apos cpos : Pos} (ho : DE X o fo) (hr : DA X [e] fr) (hb : attributeBase o "append" X.env (eval o X.env) = eval o X.env := by rfl)
    (h2 : ((backTo cpos (starEach [e] X.env)).all (fun x => !x.1) && (backToKw cpos (keywordEach [] X.env)).all (fun x => x.1.isSome) && decide ([e].length + ([] : List Keyword).length + (if ([] : List Keyword).isEmpty = true then 0 else 1) < 30)) = true := by rfl)
    (h3 : (apos.endLine == cpos.line) = true := by rfl) (h4 : starEach [e] X.env = (false, eval e X.env) :: starEach [] X.env := by rfl) (h5 : (backTo cpos (starEach [] X.env)).any (·.1) = false := by rfl) :
    DE X (.Call (.Attribute o "append" apos) [e] [] cpos) (dMt stApp fo fr) :=
  ⟨PE.of (pe_bm PySem.F.plainAttrs_list PySem.F.slot_list_append PySem.F.type_list_append mt_append ho.pe hr.pa hb h2 h3 h4 h5) fun σ H Q h => mt_ok ho hr (fun K al F H p xs ds us ys Q hp rs r2 q => by
    unfold stApp at q
    split at q
    · cases r2 with
      | cons a b =>
        cases b
        exact ⟨_, _, _, rfl, rfl, hp, lt_line (by rw [rs.length]; exact q.1), q.2 _ _ (rs.append (.cons a .nil)) .non⟩
    · exact q.elim) stApp_mono h, dMt_mono stApp_mono ho hr⟩
@[reducible] def dMt0 (step : List D → (List D → D → Prop) → Prop) (fo : DTE) : DTE := fun ρ M Q => fo ρ M fun o M1 => match o with
  | .ref n => match M1[n]? with
    | some (.lst ds) => step ds fun ds' d => Q d (M1.set n (.lst ds'))
    | _ => False
  | _ => False
@[reducible] def stPop : List D → (List D → D → Prop) → Prop := fun ds k => match ds.getLast? with
  | some y => k ds.dropLast y
  | none => False
theorem Rps.dropLast {K : PySem.W.Frag} {F : Hp} {al : List Addr} {xs : List V} {ds : List D} (h : Rps K F al xs ds) : Rps K F al xs.dropLast ds.dropLast := by
  rw [List.dropLast_eq_take, List.dropLast_eq_take, h.length]
  exact h.take _
theorem d_pop {o : Expr} {fo : DTE} {apos cpos : Pos} (ho : DE X o fo) (hb : attributeBase o "pop" X.env (eval o X.env) = eval o X.env := by rfl) (h3 : (apos.endLine == cpos.line) = true := by rfl) :
    DE X (.Call (.Attribute o "pop" apos) [] [] cpos) (dMt0 stPop fo) := by
  refine ⟨PE.of (pe_bm0 PySem.F.plainAttrs_list PySem.F.slot_list_pop PySem.F.type_list_pop mt_pop ho.pe hb h3) fun σ H Q ⟨ρ, M, al, F, G, W, s, q⟩ => ?_, fun ρ M Q Q' w q => ho.mono _ _ _ _ (fun d M1 q1 => ?_) q⟩
  · refine ho.seq W s q fun d M1 al1 F1 H1 v q1 e1 W1 r1 s1 => ?_
    cases d <;> first | exact q1.elim | skip
    try dsimp only at q1
    split at q1
    · next ds e =>
      obtain ⟨p, xs, rfl, hp, hx, rs⟩ := cell_ok W1 r1 e
      unfold stPop at q1
      split at q1
      · next y ey =>
        rw [List.getLast?_eq_getElem?] at ey
        obtain ⟨v, hv, rv⟩ := rs.get ey
        rw [← rs.length] at hv
        refine ⟨.inl ⟨rfl, xs, SqL.of hx⟩, _, _, _, rfl, rfl, hx, hv, q1 al1 F1 _ _ e1 (W1.write hp ⟨_, upd_same, rs.dropLast⟩) rv⟩
      · exact q1.elim
    · exact q1.elim
  · cases d <;> first | exact q1.elim | skip
    try dsimp only at q1 ⊢
    split at q1
    · unfold stPop at q1 ⊢
      split at q1
      · exact w _ _ q1
      · exact q1.elim
    · exact q1.elim
/-- o[i] = e -/
@[reducible] def dgSub (fo fi : DTE) : DTG := fun d ρ M Q => fo ρ M fun o M1 => fi ρ M1 fun i M2 => match o, i with
  | .ref n, .int k => match M2[n]? with
    | some (.lst ds) => match ixN ds.length k with
      | some j => Q ρ (M2.set n (.lst (ds.set j d)))
      | none => False
    | _ => False
  | _, _ => False
theorem dg_sub {o i : Expr} {fo fi : DTE} (ho : DE X o fo) (hi : DE X i fi) (h1 : ∀ (v : Value), assign (.Subscript o i pos) X.env v = (do
                let ov ← holding [v] (eval o X.env)
                let iv ← holding [v, ov] (eval i X.env)
                standAt pos
                holding [v, ov, iv] (setItem ov iv v)
                release [v, ov, iv] []) := by intro _; rfl) : DG X (.Subscript o i pos) (dgSub fo fi) [] := by
  refine ⟨PG.of (pg_sub ho.pe hi.pe set_list h1) fun v σ H Q ⟨d, ρ, M, al, F, G, W, s, r, q⟩ => ?_, fun d ρ M Q Q' w q => ho.mono _ _ _ _ (fun o M1 q1 => hi.mono _ _ _ _ (fun i M2 q2 => ?_) q1) q⟩
  · refine ho.seq W s q fun od M1 al1 F1 H1 ov q1 e1 W1 r1 s1 => ?_
    refine hi.seq W1 s1 q1 fun idx M2 al2 F2 H2 iv q2 e2 W2 r2 s2 => ?_
    split at q2
    · next n k =>
      split at q2
      · next ds e =>
        split at q2
        · next j ej =>
          obtain ⟨p, xs, rfl, hp, hx, rs⟩ := cell_ok W2 (r1.ext e2) e
          cases r2
          rw [← rs.length] at ej
          refine ⟨_, _, _, _, rfl, rfl, hx, ej, ?_⟩
          exact q2 al2 F2 _ σ (e1.trans e2) (W2.write hp ⟨_, upd_same, Rps.set (r.ext (e1.trans e2)) j rs⟩) s2.sl rfl (Off.refl _ _)
        · exact q2.elim
      · exact q2.elim
    · exact q2.elim
  · try dsimp only at q2 ⊢
    split at q2
    · split at q2
      · split at q2
        · exact w _ _ q2
        · exact q2.elim
      · exact q2.elim
    · exact q2.elim
end
end DL
namespace DL
open PySem PySem.Spec PyProof.Rows L2
section
variable {X : Cx} {a b c : Expr} {fa fb fc : DTE} {pos : Pos} {ta tb : DTT} {es : List Expr} {fr : DTA}
def showOk (d : D) (M : Sto) : Prop := pu (vw d M) = true ∧ (toPy (vw d M)).showable = true ∧ (toPy (vw d M)).depth ≤ 60 ∧ (toPy (vw d M)).shown.length ≤ sizeLine
def tyNm : D → Sto → Option String
  | .non, _ => some "NoneType"
  | .bl _, _ => some "bool"
  | .int _, _ => some "int"
  | .str _, _ => some "str"
  | .tup _, _ => some "tuple"
  | .lst _, _ => some "list"
  | .dct _ _, _ => some "dict"
  | .ref n, M => match M[n]? with
    | some (.lst _) => some "list"
    | _ => none
  | .scr _, _ => none
  | .exo _ _ _ _ _, _ => none
  | .clo _ _ _ _, _ => none
theorem tyNm_ok {K : PySem.W.Frag} {al : List Addr} {F G H : Hp} {M : Sto} {v : V} {d : D} {T : String} (W : Wd K al F G H M) (r : Rp K F al v d) (h : tyNm d M = some T) : TyX K H v (.type T) := by
  cases r with
  | non => cases h; exact .base .non
  | bl b => cases h; exact .base (.bl b)
  | int i => cases h; exact .base (.int i)
  | str x => cases h; exact .base (.str x)
  | tup a b =>
    cases h
    rcases W.sm.rd a with e | ⟨o, e⟩
    · exact .base (.tup e)
    · exact .fTuple e
  | lst a b => cases h; exact .base (.lst (W.sm _ _ a))
  | dct a l b => cases h; exact .base (.dK (W.sm _ _ a))
  | scr a => cases h
  | exo0 => cases h
  | exo a l b => cases h
  | clo a b => cases h
  | ref a =>
    unfold tyNm at h
    dsimp only at h
    split at h
    · next ds e =>
      cases h
      obtain ⟨xs, q, rs⟩ := W.cel _ _ _ e a
      exact .base (.lst q)
    · cases h
/-- T's name of the class; tab: which of our classes are it -/
@[reducible] def dIsi (tab : String → Bool) (fa : DTE) : DTE := fun ρ M Q => fa ρ M fun d M1 => match tyNm d M1 with
  | some t => Q (.bl (tab t)) M1
  | none => False
def tabOk (T : String) (tab : String → Bool) : Prop := ∀ t ∈ ["NoneType", "bool", "int", "str", "tuple", "list", "dict"], kitB t T = some (tab t)
theorem tyNm_in {d : D} {M : Sto} {T : String} (h : tyNm d M = some T) : T ∈ ["NoneType", "bool", "int", "str", "tuple", "list", "dict"] := by
  cases d with
  | ref n =>
    unfold tyNm at h
    dsimp only at h
    split at h
    · cases h; simp
    · cases h
  | scr ns => cases h
  | exo a c o ks ds => cases h
  | clo f fo vs ds => cases h
  | _ => cases h; simp
theorem d_isi {x : Str} {T : String} {tab : String → Bool} {p p2 : Pos} (ht : tabOk T tab) (hg : Gl X "isinstance") (hm : X.mg "isinstance" = none) (hg2 : Gl X x) (hm2 : X.mg x = none) (hv2 : bootBuiltins x = some (.type T)) (h : DE X a fa) (hn2 : x ≠ "__name__" := by decide) (hd2 : (x == ("__debug__" : Str)) = false := by decide)
    (hs : starEach [a, .Name x p2] X.env = (false, eval a X.env) :: starEach [.Name x p2] X.env := by rfl) (hs2 : starEach [.Name x p2] X.env = (false, eval (.Name x p2) X.env) :: starEach [] X.env := by rfl) (hpl : (backTo pos (starEach [.Name x p2] X.env)).any (·.1) = false := by rfl) :
    DE X (.Call (.Name "isinstance" p) [a, .Name x p2] [] pos) (dIsi tab fa) := by
  refine ⟨PE.of (pe_callB call_isi hg hm (by decide +kernel) (pa_cons h.pe (pa_cons (pe_bltn (v := .ty T) hg2 hm2 hv2 rfl hn2 hd2) pa_nil hs2) hs) (by decide) (by decide) hs hpl) fun σ H Q ⟨ρ, M, al, F, G, W, s, q⟩ => ?_, fun ρ M Q Q' w q => h.mono _ _ _ _ (fun d M1 q1 => ?_) q⟩
  · refine h.seq W s q fun d M1 al1 F1 H1 v q1 e1 W1 r1 s1 => ?_
    split at q1
    · next t e => exact ⟨v, .ty T, .type t, .type T, tab t, rfl, .ty T, tyNm_ok W1 r1 e, kit_ty (ht t (tyNm_in e)), q1 al1 F1 H1 _ e1 W1 (.bl _)⟩
    · exact q1.elim
  · try dsimp only at q1 ⊢
    split at q1
    · exact w _ _ q1
    · exact q1.elim
def tabInt : String → Bool := fun t => t == "int" || t == "bool"
def tabBool : String → Bool := fun t => t == "bool"
def tabTuple : String → Bool := fun t => t == "tuple"
def tabStr : String → Bool := fun t => t == "str"
def tabList : String → Bool := fun t => t == "list"
theorem tab_int : tabOk "int" tabInt := by unfold tabOk; decide +kernel
theorem tab_bool : tabOk "bool" tabBool := by unfold tabOk; decide +kernel
theorem tab_tuple : tabOk "tuple" tabTuple := by unfold tabOk; decide +kernel
@[reducible] def stYes : Sto → Prop := fun _ => True
/-- a list or tuple: a list of the store must stand while it is walked -/
@[reducible] def diSeq (fa : DTE) : DTI := fun ρ M R => fa ρ M fun d M1 => match d with
  | .tup ds => R ds stYes M1
  | .lst ds => R ds stYes M1
  | .ref n => match M1[n]? with
    | some (.lst ds) => R ds (fun M' => M'[n]? = some (.lst ds)) M1
    | _ => False
  | _ => False
theorem it_of {K : PySem.W.Frag} {al : List Addr} {F : Hp} {xs : List V} {ds : List D} {x : V} {d : D} {i : Nat} (rs : Rps K F al xs ds) (hd : ds[i]? = some d) (hx : xs[i]? = some x) : Rp K F al x d := by
  obtain ⟨v, h1, h2⟩ := rs.get hd
  rw [hx] at h1
  cases h1
  exact h2
theorem itl_ok {K : PySem.W.Frag} {al : List Addr} {F G : Hp} {p : Addr} {ds : List D} {st : Sto → Prop} (h : ∀ al' F' G' H' M', Ext al F al' F' → Sm G G' → Wd K al' F' G' H' M' → st M' → ∃ xs, H' p = some (.lst xs) ∧ Rps K F' al' xs ds) : ItOk K (Itl K p) ds st al F G := by
  intro al' F' G' H' M' e sg W hst i
  obtain ⟨xs, hx, rs⟩ := h al' F' G' H' M' e sg W hst
  refine ⟨fun d hd => ?_, fun hl => ⟨xs, SqL.of hx, by rw [rs.length]; exact hl⟩⟩
  obtain ⟨v, h1, h2⟩ := rs.get hd
  refine ⟨⟨xs, v, SqL.of hx, h1⟩, fun x H'' hy => ?_⟩
  obtain ⟨rfl, hy⟩ := hy
  exact ⟨F', Sm.refl _, W, it_of rs hd (hy xs (SqL.of hx))⟩
theorem itt_ok {K : PySem.W.Frag} {al : List Addr} {F G : Hp} {p : Addr} {ds : List D} {xs : List V} {st : Sto → Prop} (h : Rd F p (.tup xs)) (rs : Rps K F al xs ds) : ItOk K (Itt K p) ds st al F G := by
  intro al' F' G' H' M' e sg W hst i
  have hx := W.sm.rd (e.sm.rd h)
  have rs := rs.ext e
  refine ⟨fun d hd => ?_, fun hl => ⟨xs, sqR hx, by rw [rs.length]; exact hl⟩⟩
  obtain ⟨v, h1, h2⟩ := rs.get hd
  refine ⟨⟨xs, v, sqR hx, h1⟩, fun x H'' hy => ?_⟩
  obtain ⟨rfl, hy⟩ := hy
  exact ⟨F', Sm.refl _, W, it_of rs hd (hy xs (sqR hx))⟩
theorem di_seq {tg : Expr} (h : DE X a fa) : DI X tg a (diSeq fa) := by
  refine ⟨⟨fun pins s σ H R I q => ?_⟩, fun ρ M Q Q' w q => h.mono _ _ _ _ (fun d M1 q1 => ?_) q⟩
  · obtain ⟨ρ, M, al, F, G, W, es, q⟩ := q
    have hl : Lift X fa σ H (fun v H1 => (∃ p xs, v = .ref p ∧ SqL X.K H1 p xs ∧ R (Itl X.K p) H1) ∨ (∃ p xs, v = .ref p ∧ SqT X.K H1 p xs ∧ R (Itt X.K p) H1)) := h.seq W es q fun d M1 al1 F1 H1 v q1 e1 W1 r1 s1 => by
      cases r1 with
      | tup a1 b1 => exact .inr ⟨_, _, rfl, (W1.sm.sq a1), q1 al1 F1 H1 _ e1 W1 (itt_ok a1 b1)⟩
      | lst a1 b1 => exact .inl ⟨_, _, rfl, SqL.of (W1.sm _ _ a1), q1 al1 F1 H1 _ e1 W1 (itl_ok fun al' F' G' H' M' e sg W' _ => ⟨_, W'.sm _ _ (e.sm _ _ a1), b1.ext e⟩)⟩
      | ref a1 =>
        dsimp only at q1
        split at q1
        · next ds e =>
          obtain ⟨xs, hx, rs⟩ := W1.cel _ _ _ e a1
          exact .inl ⟨_, _, rfl, SqL.of hx, q1 al1 F1 H1 _ e1 W1 (itl_ok fun al' F' G' H' M' e' sg W' st => by
            obtain ⟨xs', hx', rs'⟩ := W'.cel _ _ _ st (e'.get a1)
            exact ⟨xs', hx', rs'⟩)⟩
        · exact q1.elim
      | _ => exact q1.elim
    refine thn (h.pe.run pins s σ H _ I hl) fun v s1 ⟨x, H1, I1, r1, q1⟩ => ?_
    rcases q1 with ⟨p, xs, rfl, hq, q⟩ | ⟨p, xs, rfl, hq, q⟩
    · cases r1
      obtain ⟨its, rv, pl, hz⟩ := I1.list hq
      refine wpAny_pyIter_list pl.isList ⟨s1.heap.objs.size, [s1.heap.objs.size], _, _, H1, rfl, I1.kept (t' := s1.toks) fun b o e => Heap.get?_push_of_some _ e, turn_list p _, ⟨_, Heap.get?_push_size _ rfl, rfl, rfl⟩, fun b hb => ?_, q⟩
      rw [List.mem_singleton.mp hb]
      exact I1.fpOk (Nat.le_refl _) (I1.hok.fresh (Nat.le_refl _))
    · cases r1
      obtain ⟨its, rv, pl, hz⟩ := I1.tuple hq
      refine wpAny_pyIter_tuple (show s1.heap.IsTuple p its.toArray from pl) ⟨s1.heap.objs.size, [s1.heap.objs.size], _, _, H1, rfl, I1.kept (t' := s1.toks) fun b o e => Heap.get?_push_of_some _ e, turn_tuple p _, ⟨_, Heap.get?_push_size _ rfl, rfl, rfl⟩, fun b hb => ?_, q⟩
      rw [List.mem_singleton.mp hb]
      exact I1.fpOk (Nat.le_refl _) (I1.hok.fresh (Nat.le_refl _))
  · cases d <;> first | exact q1.elim | exact w _ _ _ q1 | skip
    try dsimp only at q1 ⊢
    split at q1
    · exact w _ _ _ q1
    · exact q1.elim
def rng (lo : Int) (n : Nat) : List D := (List.range n).map fun (i : Nat) => D.int (lo + i)
theorem rng_get {lo : Int} {n i : Nat} : (rng lo n)[i]? = if i < n then some (D.int (lo + i)) else none := by
  unfold rng
  rw [List.getElem?_map]
  by_cases h : i < n
  · rw [List.getElem?_range h, if_pos h]; rfl
  · rw [if_neg h, List.getElem?_eq_none (by simpa using h)]; rfl
theorem itr_ok {K : PySem.W.Frag} {al : List Addr} {F G : Hp} {st : Sto → Prop} (lo : Int) (n : Nat) : ItOk K (Itr lo n) (rng lo n) st al F G := by
  intro al' F' G' H' M' e sg W hst i
  refine ⟨fun d hd => ?_, fun hl => ?_⟩
  rotate_left
  · unfold rng at hl
    rw [List.length_map, List.length_range] at hl
    exact hl
  rw [rng_get] at hd
  split at hd
  · next h =>
    cases hd
    refine ⟨h, fun x H'' hy => ?_⟩
    obtain ⟨rfl, rfl⟩ := hy
    exact ⟨F', Sm.refl _, W, .int _⟩
  · cases hd
@[reducible] def diR1 (fr : DTA) : DTI := fun ρ M R => fr ρ M fun ds M1 => match ds with
  | [.int j] => (-(2 ^ 62) ≤ j ∧ j < 2 ^ 62) ∧ R (rng 0 j.toNat) stYes M1
  | _ => False
theorem di_range1 {tg : Expr} {p : Pos} (hg : Gl X "range") (hm : X.mg "range" = none) (h : DA X [a] fr) (hs : starEach [a] X.env = [(false, eval a X.env)] := by rfl) : DI X tg (.Call (.Name "range" p) [a] [] pos) (diR1 fr) := by
  refine ⟨PI.of (pi_range1 hg hm h.pa hs) fun σ H R ⟨ρ, M, al, F, G, W, es, q⟩ => ?_, fun ρ M Q Q' w q => h.mono _ _ _ _ (fun ds M1 q1 => ?_) q⟩
  · refine h.seq W es q fun ds M1 al1 F1 H1 vs q1 e1 W1 r1 s1 => ?_
    split at q1
    · cases r1 with
      | cons a1 b1 =>
        cases a1; cases b1
        exact ⟨_, rfl, q1.1.1, q1.1.2, q1.2 al1 F1 H1 _ e1 W1 (itr_ok 0 _)⟩
    · exact q1.elim
  · try dsimp only at q1 ⊢
    split at q1
    · exact ⟨q1.1, w _ _ _ q1.2⟩
    · exact q1.elim
@[reducible] def diR2 (fr : DTA) : DTI := fun ρ M R => fr ρ M fun ds M1 => match ds with
  | [.int i, .int j] => (-(2 ^ 62) ≤ i ∧ i < 2 ^ 62 ∧ -(2 ^ 62) ≤ j ∧ j < 2 ^ 62) ∧ R (rng i (j - i).toNat) stYes M1
  | _ => False
/-- zip of two lists, or of two tuples -/
def zipD (xs ys : List D) : List D := List.zipWith (fun x y => D.tup [x, y]) xs ys
@[reducible] def diZip (fr : DTA) : DTI := fun ρ M R => fr ρ M fun ds M1 => match ds with
  | [.tup xs, .tup ys] => R (zipD xs ys) stYes M1
  | [.lst xs, .lst ys] => R (zipD xs ys) stYes M1
  | _ => False
theorem zipD_get {xs ys : List D} {i : Nat} {d : D} (h : (zipD xs ys)[i]? = some d) : ∃ x y, xs[i]? = some x ∧ ys[i]? = some y ∧ d = .tup [x, y] := by
  unfold zipD at h
  rw [List.getElem?_zipWith] at h
  cases e1 : xs[i]? with
  | none => rw [e1] at h; cases h
  | some x =>
    cases e2 : ys[i]? with
    | none => rw [e1, e2] at h; cases h
    | some y => rw [e1, e2] at h; cases h; exact ⟨x, y, rfl, rfl, rfl⟩
theorem itz_ok {K : PySem.W.Frag} {al : List Addr} {F G : Hp} {st : Sto → Prop} {p q : Addr} {xs ys : List V} {ds es : List D} (hp : F p = some (.lst xs)) (hq : F q = some (.lst ys)) (r1 : Rps K F al xs ds) (r2 : Rps K F al ys es) : ItOk K (Itz K p q) (zipD ds es) st al F G := by
  intro al' F' G' H' M' e sg W hst i
  have h1 := W.sm _ _ (e.sm _ _ hp)
  have h2 := W.sm _ _ (e.sm _ _ hq)
  have r1 := r1.ext e
  have r2 := r2.ext e
  refine ⟨fun d hd => ?_, fun hl => ⟨xs, ys, SqL.of h1, SqL.of h2, ?_⟩⟩
  · obtain ⟨x, y, g1, g2, rfl⟩ := zipD_get hd
    obtain ⟨v1, k1, l1⟩ := r1.get g1
    obtain ⟨v2, k2, l2⟩ := r2.get g2
    refine ⟨⟨xs, ys, v1, v2, SqL.of h1, SqL.of h2, k1, k2⟩, fun z H'' hy => ?_⟩
    obtain ⟨T, u1, u2, rfl, nT, rfl, f1, f2⟩ := hy
    have q1 := it_of r1 g1 (f1 _ (SqL.of h1))
    have q2 := it_of r2 g2 (f2 _ (SqL.of h2))
    obtain ⟨W1, e1⟩ := W.newF (o := .tup [u1, u2]) nT
    exact ⟨_, e1.sm, W1, .tup (.inl upd_same) (.cons (q1.ext e1) (.cons (q2.ext e1) .nil))⟩
  · unfold zipD at hl
    rw [List.length_zipWith] at hl
    rw [r1.length, r2.length]
    omega
theorem itzT_ok {K : PySem.W.Frag} {al : List Addr} {F G : Hp} {st : Sto → Prop} {p q : Addr} {xs ys : List V} {ds es : List D} (hp : Rd F p (.tup xs)) (hq : Rd F q (.tup ys)) (r1 : Rps K F al xs ds) (r2 : Rps K F al ys es) : ItOk K (RZ.ItzT K p q) (zipD ds es) st al F G := by
  intro al' F' G' H' M' e sg W hst i
  have h1 := W.sm.rd (e.sm.rd hp)
  have h2 := W.sm.rd (e.sm.rd hq)
  have r1 := r1.ext e
  have r2 := r2.ext e
  refine ⟨fun d hd => ?_, fun hl => ⟨xs, ys, sqR h1, sqR h2, ?_⟩⟩
  · obtain ⟨x, y, g1, g2, rfl⟩ := zipD_get hd
    obtain ⟨v1, k1, l1⟩ := r1.get g1
    obtain ⟨v2, k2, l2⟩ := r2.get g2
    refine ⟨⟨xs, ys, v1, v2, sqR h1, sqR h2, k1, k2⟩, fun z H'' hy => ?_⟩
    obtain ⟨T, u1, u2, rfl, nT, rfl, f1, f2⟩ := hy
    have q1 := it_of r1 g1 (f1 _ (sqR h1))
    have q2 := it_of r2 g2 (f2 _ (sqR h2))
    obtain ⟨W1, e1⟩ := W.newF (o := .tup [u1, u2]) nT
    exact ⟨_, e1.sm, W1, .tup (.inl upd_same) (.cons (q1.ext e1) (.cons (q2.ext e1) .nil))⟩
  · unfold zipD at hl
    rw [List.length_zipWith] at hl
    rw [r1.length, r2.length]
    omega
theorem di_zip {p tpos : Pos} {elts : List Expr} {kk : Nat} (hg : Gl X "zip") (hm : X.mg "zip" = none) (h : DA X [a, b] fr) (hs : starEach [a, b] X.env = (false, eval a X.env) :: starEach [b] X.env := by rfl) (hpl : (backTo pos (starEach [b] X.env)).any (·.1) = false := by rfl) :
    DI X (.Tuple elts kk tpos) (.Call (.Name "zip" p) [a, b] [] pos) (diZip fr) := by
  refine ⟨PI.of (RZ.pi_zipA hg hm h.pa hs hpl) fun σ H R ⟨ρ, M, al, F, G, W, es, q⟩ => ?_, fun ρ M Q Q' w q => h.mono _ _ _ _ (fun ds M1 q1 => ?_) q⟩
  · refine h.seq W es q fun ds M1 al1 F1 H1 vs q1 e1 W1 r1 s1 => ?_
    split at q1
    · cases r1 with
      | cons a1 b1 =>
        cases b1 with
        | cons a2 b2 =>
          cases b2
          cases a1 with
          | tup c1 d1 =>
            cases a2 with
            | tup c2 d2 => exact ⟨_, _, _, _, rfl, .inr ⟨(W1.sm.sq c1), (W1.sm.sq c2), q1 al1 F1 H1 _ e1 W1 (itzT_ok c1 c2 d1 d2)⟩⟩
    · cases r1 with
      | cons a1 b1 =>
        cases b1 with
        | cons a2 b2 =>
          cases b2
          cases a1 with
          | lst c1 d1 =>
            cases a2 with
            | lst c2 d2 => exact ⟨_, _, _, _, rfl, .inl ⟨SqL.of (W1.sm _ _ c1), SqL.of (W1.sm _ _ c2), q1 al1 F1 H1 _ e1 W1 (itz_ok c1 c2 d1 d2)⟩⟩
    · exact q1.elim
  · try dsimp only at q1 ⊢
    split at q1
    · exact w _ _ _ q1
    · exact w _ _ _ q1
    · exact q1.elim
@[reducible] def dWhile (t : DTT) (f : DTS) : DTS := fun E ρ M => ∃ W : Nat → Dn → Sto → Prop, (∃ m, W m ρ M) ∧ ∀ m ρ M, W m ρ M → t ρ M fun b M1 => if b = true then f { nx := fun ρ' M' => ∃ m', m' < m ∧ W m' ρ' M', rt := E.rt, bk := E.nx, ct := fun ρ' M' => ∃ m', m' < m ∧ W m' ρ' M' } ρ M1 else E.nx ρ M1
theorem ds_while {body : List Stmt} {f : DTS} (hp : PassesOwn (model X.prog X.w) X.A X.env X.xe) (hc : DT X c ta) (hb : DSs X body f) : DS X (.While c body [] pos) (dWhile ta f) := by
  refine ⟨PS.of (ps_while hp hc.pt hb.ps) fun E σ H ⟨ρ, M, al, F, G, W, es, Wh, ⟨m, h0⟩, step⟩ => ?_, fun D D' ρ M w ⟨Wh, h0, step⟩ => ⟨Wh, h0, fun m ρ M h => hc.mono _ _ _ _ (fun b M1 q1 => ?_) (step m ρ M h)⟩⟩
  · refine ⟨fun m σ' H' => ∃ ρ' M' al' F', Wh m ρ' M' ∧ Ext al F al' F' ∧ Wd X.K al' F' G H' M' ∧ Es X F' G al' σ' ρ' ∧ ρ'.x = ρ.x, ⟨m, ρ, M, al, F, h0, Ext.refl _ _, W, es, rfl⟩, ?_⟩
    rintro m σ' H' ⟨ρ', M', al', F', hw, e', W', s', x'⟩
    refine hc.seq W' s' (step m ρ' M' hw) fun b M1 al1 F1 H1 q1 e1 W1 s1 => ?_
    cases b with
    | true =>
      refine ⟨fun σ2 H2 => ∃ m', m' < m ∧ ∃ ρ2 M2 al2 F2, Wh m' ρ2 M2 ∧ Ext al F al2 F2 ∧ Wd X.K al2 F2 G H2 M2 ∧ Es X F2 G al2 σ2 ρ2 ∧ ρ2.x = ρ.x, fun σ2 H2 ⟨m', hm, z⟩ => ⟨m', hm, z⟩, ?_⟩
      refine ⟨ρ', M1, al1, F1, G, W1, s1, ?_⟩
      rw [x']
      refine MonoS.up hb.mono (D := { nx := fun ρ' M' => ∃ m', m' < m ∧ Wh m' ρ' M', rt := (kontS X.K al F G ρ.x E).rt, bk := (kontS X.K al F G ρ.x E).nx, ct := fun ρ' M' => ∃ m', m' < m ∧ Wh m' ρ' M' }) q1 ⟨?_, fun d M2 k => kont.ext k (e'.trans e1), fun ρ2 M2 k => kN.ext k (e'.trans e1), ?_⟩
      · rintro ρ2 M2 ⟨m', hm, z⟩ al2 F2 H2 σ2 e2 W2 s2 x2
        exact ⟨m', hm, ρ2, M2, al2, F2, z, e'.trans (e1.trans e2), W2, s1.of e2 s2 (x2.trans x'.symm), x2⟩
      · rintro ρ2 M2 ⟨m', hm, z⟩ al2 F2 H2 σ2 e2 W2 s2 x2
        exact ⟨m', hm, ρ2, M2, al2, F2, z, e'.trans (e1.trans e2), W2, s1.of e2 s2 (x2.trans x'.symm), x2⟩
    | false => exact q1 al1 F1 H1 σ' (e'.trans e1) W1 s1.sl x'
  · cases b with
    | true => exact MonoS.up hb.mono (D := { nx := fun ρ' M' => ∃ m', m' < m ∧ Wh m' ρ' M', rt := D.rt, bk := D.nx, ct := fun ρ' M' => ∃ m', m' < m ∧ Wh m' ρ' M' }) q1 ⟨fun _ _ z => z, w.rt, w.nx, fun _ _ z => z⟩
    | false => exact w.nx _ _ q1
def pick {α : Type} (xs : List α) (lo hi st : Option Int) : List α := (sliceRange (sliceBounds lo hi st xs.length).1 (sliceBounds lo hi st xs.length).2.1 (sliceBounds lo hi st xs.length).2.2).filterMap (xs[·]?)
theorem Rps.picks {K : PySem.W.Frag} {F : Hp} {al : List Addr} {xs : List V} {ds : List D} (h : Rps K F al xs ds) : ∀ l : List Nat, Rps K F al (l.filterMap (xs[·]?)) (l.filterMap (ds[·]?))
  | [] => .nil
  | i :: l => by
    rw [List.filterMap_cons, List.filterMap_cons]
    cases e : ds[i]? with
    | none =>
      have e2 : xs[i]? = none := List.getElem?_eq_none (by rw [h.length]; exact List.getElem?_eq_none_iff.mp e)
      rw [e2]
      exact h.picks l
    | some d =>
      obtain ⟨v, h1, h2⟩ := h.get e
      rw [h1]
      exact .cons h2 (h.picks l)
theorem Rps.pick {K : PySem.W.Frag} {F : Hp} {al : List Addr} {xs : List V} {ds : List D} (h : Rps K F al xs ds) (lo hi st : Option Int) : Rps K F al (DL.pick xs lo hi st) (DL.pick ds lo hi st) := by
  unfold DL.pick
  rw [h.length]
  exact h.picks _
theorem vals_picks {xs : List V} {us : List Value} (h : Vals xs us) : ∀ l : List Nat, Vals (l.filterMap (xs[·]?)) (l.filterMap (us[·]?))
  | [] => .nil
  | i :: l => by
    rw [List.filterMap_cons, List.filterMap_cons]
    cases e : xs[i]? with
    | none =>
      rw [h.none_of e]
      exact vals_picks h l
    | some d =>
      obtain ⟨v, h1, h2⟩ := h.get e
      rw [h1]
      exact .cons h2 (vals_picks h l)
theorem pick_vals {xs : List V} {us : List Value} (h : Vals xs us) (lo hi st : Option Int) : Vals (DL.pick xs lo hi st) (slicePick us.toArray lo hi st).toList := by
  unfold DL.pick slicePick
  rw [h.length]
  simpa using vals_picks h _
@[reducible] def dSlS (fa : DTE) (lo hi st : DTO) : DTE := fun ρ M Q => fa ρ M fun x M1 => lo ρ M1 fun l M2 => hi ρ M2 fun h M3 => st ρ M3 fun k M4 => match seqOf x M4 with
  | some ds => k ≠ some 0 ∧ (pick ds l h k).length ≤ 100000 ∧ Q (.lst (pick ds l h k)) M4
  | none => False
theorem d_sliceS {lo hi : Option Expr} {st : Expr} {fl fh fs : DTO} {p2 : Pos} (ha : DE X a fa) (hl : DO X lo fl) (hh : DO X hi fh) (hs : DO X (some st) fs) (ht : ∀ o r, letTemporaryGo a o r = pure () := by intro _ _; rfl) : DE X (.Subscript a (.Slice lo hi (some st) p2) pos) (dSlS fa fl fh fs) := by
  refine ⟨⟨fun pins s σ H Q I q => ?_⟩, fun ρ M Q Q' w q => ha.mono _ _ _ _ (fun d M1 q1 => hl.mono _ _ _ _ (fun l M2 q2 => hh.mono _ _ _ _ (fun h M3 q3 => hs.mono _ _ _ _ (fun k M4 q4 => ?_) q3) q2) q1) q⟩
  · obtain ⟨ρ, M, al, F, G, W, es, q⟩ := q
    have r0 : Lift X fa σ H (fun v H1 => LiftO X fl σ H1 fun l H2 => LiftO X fh σ H2 fun h H3 => LiftO X fs σ H3 fun k H4 => ∃ p xs, v = .ref p ∧ H4 p = some (.lst xs) ∧ k ≠ some 0 ∧ (pick xs l h k).length ≤ sizeLine ∧ ∀ z, H4 z = none → Q (.ref z) (upd H4 z (.lst (pick xs l h k)))) := by
      refine ha.seq W es q fun d M1 al1 F1 H1 v q1 e1 W1 r1 s1 => ?_
      refine hl.seq W1 s1 q1 fun l M2 al2 F2 H2 q2 e2 W2 s2 => ?_
      refine hh.seq W2 s2 q2 fun h M3 al3 F3 H3 q3 e3 W3 s3 => ?_
      refine hs.seq W3 s3 q3 fun k M4 al4 F4 H4 q4 e4 W4 s4 => ?_
      split at q4
      · next ds e =>
        obtain ⟨p1, xs1, rfl, h1, rs⟩ := seqOf_ok W4 (r1.ext (e2.trans (e3.trans e4))) e
        have rp := rs.pick l h k
        exact ⟨p1, xs1, rfl, h1, q4.1, le_line (by rw [rp.length]; exact q4.2.1), fun z hz => kont.lst (kont.ext q4.2.2 (e1.trans (e2.trans (e3.trans e4)))) W4 rp hz⟩
      · exact q4.elim
    refine wpAny_Subscript_Slice_step PySem.slot_list_getitem.lookup (thn (ha.pe.run pins s σ H _ I r0) fun v s1 ⟨x, H1, I1, r1, q1⟩ => ?_) ht
    refine wpAny_Slice (thn (hl.po.run pins s1 σ H1 _ I1 q1) fun vl s2 ⟨l, H2, I2, pl, q2⟩ => ?_)
    refine thn (hh.po.run pins s2 σ H2 _ I2 q2) fun vu s3 ⟨u, H3, I3, pu, q3⟩ => ?_
    refine thn (hs.po.run pins s3 σ H3 _ I3 q3) fun vs s4 ⟨k, H4, I4, pk, p, xs, ex, hx, k0, hz, q4⟩ => ?_
    subst ex
    cases r1
    have I5 : Inv X pins σ H4 { s4 with heap := s4.heap.push { cls := .type "slice", data := .fields #[vl, vu, vs] } } := I4.kept (t' := s4.toks) fun b ob q => Heap.get?_push_of_some _ q
    obtain ⟨its, rv, pl5, hz5⟩ := I5.list (SqL.of hx)
    refine ⟨pl5.isList.typeIs, wpAny_getItem_list_slice pl5.isList (Heap.IsSliceOf.new _ vl vu vs) pl pu pk k0 ?_ (by rw [List.size_toArray, ← rv.length]; exact hz5)⟩
    refine ⟨.ref _, _, I5.laid (t' := s4.toks) (o := .lst (pick xs l u k)) (fun b ob q => Heap.get?_push_of_some _ q) (Nat.le_refl _) ?_, rfl, q4 _ (I5.hok.fresh (Nat.le_refl _))⟩
    exact ⟨hz, _, _, pick_vals rv l u k, Heap.get?_push_size _ rfl⟩
  · try dsimp only at q4 ⊢
    split at q4
    · exact ⟨q4.1, q4.2.1, w _ _ q4.2.2⟩
    · exact q4.elim
end
end DL
namespace DL
open PySem PySem.Spec PyProof.Rows L2
mutual
/-- all places that a datum names lie below n -/
def bel (n : Nat) : D → Bool
  | .ref m => decide (m < n)
  | .tup ds => bels n ds
  | .lst ds => bels n ds
  | .dct _ ds => bels n ds
  | .exo _ _ _ _ ds => bels n ds
  | .clo _ _ _ ds => bels n ds
  | .non | .bl _ | .int _ | .str _ | .scr _ => true
def bels (n : Nat) : List D → Bool
  | [] => true
  | d :: ds => bel n d && bels n ds
end
def Cell.bel (n : Nat) : Cell → Bool
  | .lst ds => bels n ds
  | .ins _ fs => bels n (fs.map (·.2))
  | .dic _ => true
  | .raw _ => true
section
variable {K : PySem.W.Frag} {F G H : Hp} {al : List Addr} {M : Sto}
mutual
theorem Rp.bel : ∀ {d : D} {v : V}, Rp K F al v d → DL.bel al.length d = true
  | .non, _, _ => rfl
  | .bl _, _, _ => rfl
  | .int _, _, _ => rfl
  | .str _, _, _ => rfl
  | .scr _, _, _ => rfl
  | .tup _, _, h => by
    cases h with
    | tup a b => exact Rps.bels b
  | .lst _, _, h => by
    cases h with
    | lst a b => exact Rps.bels b
  | .dct _ _, _, h => by
    cases h with
    | dct a l b => exact Rps.bels b
  | .exo _ _ _ _ _, _, h => by
    cases h with
    | exo0 => rfl
    | exo a l b => exact Rps.bels b
  | .clo _ _ _ _, _, h => by
    cases h with
    | clo a b => exact Rps.bels b
  | .ref _, _, h => by
    cases h with
    | ref a => exact decide_eq_true (List.getElem?_eq_some_iff.mp a).1
theorem Rps.bels : ∀ {ds : List D} {vs : List V}, Rps K F al vs ds → DL.bels al.length ds = true
  | [], _, _ => rfl
  | d :: ds, _, h => by
    cases h with
    | cons a b =>
      show (DL.bel al.length d && DL.bels al.length ds) = true
      rw [Rp.bel a, Rps.bels b]
      rfl
end
mutual
theorem Rp.cutA {n : Nat} : ∀ {d : D} {v : V}, Rp K F al v d → DL.bel n d = true → Rp K F (al.take n) v d
  | .non, _, h, _ => by cases h; exact .non
  | .bl _, _, h, _ => by cases h; exact .bl _
  | .int _, _, h, _ => by cases h; exact .int _
  | .str _, _, h, _ => by cases h; exact .str _
  | .scr _, _, h, _ => by
    cases h with
    | scr a => exact .scr a
  | .tup _, _, h, q => by
    cases h with
    | tup a b => exact .tup a (Rps.cutA b q)
  | .lst _, _, h, q => by
    cases h with
    | lst a b => exact .lst a (Rps.cutA b q)
  | .dct _ _, _, h, q => by
    cases h with
    | dct a l b => exact .dct a l (Rps.cutA b q)
  | .exo _ _ _ _ _, _, h, q => by
    cases h with
    | exo0 => exact .exo0 _ _
    | exo a l b => exact .exo a l (Rps.cutA b q)
  | .clo _ _ _ _, _, h, q => by
    cases h with
    | clo a b => exact .clo a (Rps.cutA b q)
  | .ref _, _, h, q => by
    cases h with
    | ref a => exact .ref (by rw [List.getElem?_take_of_lt (of_decide_eq_true q)]; exact a)
theorem Rps.cutA {n : Nat} : ∀ {ds : List D} {vs : List V}, Rps K F al vs ds → DL.bels n ds = true → Rps K F (al.take n) vs ds
  | [], _, h, _ => by cases h; exact .nil
  | d :: ds, _, h, q => by
    cases h with
    | cons a b =>
      have q' : DL.bel n d = true ∧ DL.bels n ds = true := by simpa [DL.bels] using q
      exact .cons (Rp.cutA a q'.1) (Rps.cutA b q'.2)
end
theorem CellOk.bel {a : Addr} {c : Cell} (h : CellOk K F al H a c) : c.bel al.length = true := by
  cases c with
  | lst ds => obtain ⟨xs, _, r⟩ := h; exact r.bels
  | ins C fs => obtain ⟨dx, vs, _, _, r⟩ := h; exact r.bels
  | dic ks => rfl
  | raw o => rfl
theorem CellOk.cutA {a : Addr} {c : Cell} {n : Nat} (h : CellOk K F al H a c) (q : c.bel n = true) : CellOk K F (al.take n) H a c := by
  cases c with
  | lst ds => obtain ⟨xs, e, r⟩ := h; exact ⟨xs, e, r.cutA q⟩
  | ins C fs => obtain ⟨dx, vs, e, z, r⟩ := h; exact ⟨dx, vs, e, z, r.cutA q⟩
  | dic ks => exact h
  | raw o => exact h
def stoBel (n : Nat) (M : Sto) : Prop := ∀ c ∈ M, Cell.bel n c = true
theorem Wd.bels (W : Wd K al F G H M) : stoBel M.length M := by
  intro c hc
  obtain ⟨n, hn, e⟩ := List.getElem_of_mem hc
  have hl : n < al.length := by rw [W.len]; exact hn
  rw [← W.len]
  exact (W.cel n c al[n] (by rw [List.getElem?_eq_getElem hn, e]) (List.getElem?_eq_getElem hl)).bel
theorem Wd.cutA (W : Wd K al F G H M) {n : Nat} (h : stoBel n (M.take n)) : Wd K (al.take n) F G H (M.take n) :=
  W.take n fun m c a hm q r => (W.cel m c a q r).cutA (h c (by
    have : (M.take n)[m]? = some c := by rw [List.getElem?_take_of_lt hm]; exact q
    exact List.mem_of_getElem? this))
/-- what a def hands back, as its caller sees it: as it is; without the places that the def has made; a list of these as a tree -/
def See (n : Nat) (Q : DK) (d : D) (M : Sto) : Prop :=
  Q d M ∨ (bel n d = true ∧ stoBel n (M.take n) ∧ Q d (M.take n)) ∨ ∃ m ds, d = .ref m ∧ n ≤ m ∧ M[m]? = some (.lst ds) ∧ bels n ds = true ∧ stoBel n (M.take n) ∧ Q (.lst ds) (M.take n)
theorem See.ok {al0 : List Addr} {F0 : Hp} {Q : VK} {d : D} {v : V} (e : Ext al0 F0 al F) (W : Wd K al F G H M) (r : Rp K F al v d) (h : See al0.length (kont K al0 F0 G Q) d M) : Q v H := by
  obtain ⟨be, rfl⟩ := e.al
  have tk : (al0 ++ be).take al0.length = al0 := List.take_left
  rcases h with h | ⟨h1, h2, h3⟩ | ⟨m, ds, rfl, hm, hc, hb, h2, h3⟩
  · exact h _ F H v e W r
  · have W' := W.cutA h2
    have r' := r.cutA h1
    rw [tk] at W' r'
    exact h3 al0 F H v ⟨⟨[], by simp⟩, e.sm⟩ W' r'
  · cases r with
    | @ref _ pa ha =>
      obtain ⟨xs, hx, rs⟩ := W.cel _ _ _ hc ha
      have W' := W.cutA h2
      have rs' := rs.cutA hb
      rw [tk] at W' rs'
      have ham := List.mem_of_getElem? ha
      have hF := W.out _ ham
      have hn : ∀ a ∈ al0, a ≠ pa := fun a ha0 z => by
        obtain ⟨i, hi, ei⟩ := List.getElem_of_mem ha0
        have h1 : (al0 ++ be)[i]? = some a := by rw [List.getElem?_append_left hi, List.getElem?_eq_getElem hi, ei]
        rw [z] at h1
        obtain ⟨hi1, e1⟩ := List.getElem?_eq_some_iff.mp h1
        obtain ⟨hi2, e2⟩ := List.getElem?_eq_some_iff.mp ha
        have := (List.getElem_inj W.nd).mp (e1.trans e2.symm)
        omega
      have eF : Ext al0 F al0 (upd F pa (.lst xs)) := ⟨⟨[], by simp⟩, Sm.new hF⟩
      refine h3 al0 (upd F pa (.lst xs)) H _ ⟨⟨[], by simp⟩, e.sm.trans eF.sm⟩ ⟨fun b o q => ?_, W.sg, fun a o q => ⟨?_, (W'.fg a o q).2⟩, W'.len, W'.nd, fun a q => ?_, fun n c a q1 q2 => (W'.cel n c a q1 q2).ext eF rfl, W.tb.to eF.sm fun P x f g y => ⟨rfl, (upd_ne (show P ≠ pa from fun z => y (by rw [z]; exact ham))).trans f, g, fun z => y (List.mem_append_left _ z)⟩⟩ (.lst upd_same (rs'.ext eF))
      · by_cases hb : b = pa
        · subst hb; rw [upd_same] at q; cases q; exact hx
        · rw [upd_ne hb] at q; exact W.sm b o q
      · rw [upd_ne (show a ≠ pa from fun z => (W.fg a o q).2 (z ▸ ham))]
        exact (W.fg a o q).1
      · rw [upd_ne (hn a q)]
        exact W'.out a q
theorem See.keep {n : Nat} {Q : DK} {d : D} (h : Q d M) : See n Q d M := .inl h
theorem See.drop {Q : DK} {d : D} {M M' : Sto} (hd : bel M.length d = true) (hb : stoBel M.length M) (h : Q d M) : See M.length Q d (M ++ M') := .inr (.inl ⟨hd, by rw [List.take_left]; exact hb, by rw [List.take_left]; exact h⟩)
theorem See.frz {Q : DK} {M M' : Sto} {m : Nat} {ds : List D} (hm : M.length ≤ m) (hc : (M ++ M')[m]? = some (.lst ds)) (hd : bels M.length ds = true) (hb : stoBel M.length M) (h : Q (.lst ds) M) : See M.length Q (.ref m) (M ++ M') :=
  .inr (.inr ⟨m, ds, rfl, hm, hc, hd, by rw [List.take_left]; exact hb, by rw [List.take_left]; exact h⟩)
end
abbrev DSp := List D → Sto → DK → DXK → Prop
def kontX (K : PySem.W.Frag) (al : List Addr) (F G : Hp) (E : XK) : DXK := fun c fs M' => ∀ al' F' H' o, Ext al F al' F' → Wd K al' F' G H' M' → FldOk K F' al' o fs → E c o H'
def spOf (K : PySem.W.Frag) (ds : DSp) : Sp := fun vs H Q E => ∃ args M al F G, Wd K al F G H M ∧ Rps K F al vs args ∧ ds args M (kont K al F G Q) (kontX K al F G E)
def MonoSp (ds : DSp) : Prop := ∀ args M (Q Q' : DK) (E E' : DXK), (∀ d M, Q d M → Q' d M) → (∀ c f M, E c f M → E' c f M) → ds args M Q E → ds args M Q' E'
def startD (N : List Str) (args : List D) : List (Option D) := args.map some ++ List.replicate (N.length - args.length) none
theorem start_es {K : PySem.W.Frag} {F : Hp} {al : List Addr} {N : List Str} {vs : List V} {args : List D} (r : Rps K F al vs args) : Sl K F al (L2.start N vs) (startD N args) := by
  have hl := r.length
  unfold L2.start startD
  refine ⟨by simp [hl], fun i d q => ?_⟩
  by_cases hi : i < args.length
  · rw [List.getElem?_append_left (by simpa using hi), List.getElem?_map] at q
    cases e : args[i]? with
    | none => rw [e] at q; cases q
    | some z =>
      rw [e] at q
      have : z = d := by simpa using q
      subst this
      obtain ⟨v, h1, h2⟩ := r.get e
      exact ⟨v, by rw [List.getElem?_append_left (by rw [List.length_map, hl]; exact hi), List.getElem?_map, h1]; rfl, h2⟩
  · rw [List.getElem?_append_right (by simpa using hi)] at q
    have := List.mem_of_getElem? q
    rw [List.mem_replicate] at this
    exact absurd this.2 (by simp)
section
variable {P : Program} {w : World} {K : PySem.W.Frag} {mg : Str → Option Value} {base : Heap}
/-- an exception, as the caller sees it -/
def SeeX (n : Nat) (E : DXK) : DXK := fun c fs M => E c fs M ∨ (bels n (fs.map (·.2)) = true ∧ stoBel n (M.take n) ∧ E c fs (M.take n))
theorem SeeX.ok {F G H : Hp} {al : List Addr} {M : Sto} {al0 : List Addr} {F0 : Hp} {E : XK} {c : Value} {o : Option Addr} {fs : List (Str × D)} (e : Ext al0 F0 al F) (W : Wd K al F G H M) (r : FldOk K F al o fs) (h : SeeX al0.length (kontX K al0 F0 G E) c fs M) : E c o H := by
  obtain ⟨be, rfl⟩ := e.al
  have tk : (al0 ++ be).take al0.length = al0 := List.take_left
  rcases h with h | ⟨h1, h2, h3⟩
  · exact h _ F H o e W r
  · have W' := W.cutA h2
    rw [tk] at W'
    refine h3 al0 F H o ⟨⟨[], by simp⟩, e.sm⟩ W' ?_
    rcases r with r | ⟨a, vs, r1, r2, r3, r4⟩
    · exact .inl r
    · have r' := r4.cutA h1
      rw [tk] at r'
      exact .inr ⟨a, vs, r1, r2, r3, r'⟩
theorem SeeX.keep {n : Nat} {E : DXK} {c : Value} {fs : List (Str × D)} {M : Sto} (h : E c fs M) : SeeX n E c fs M := .inl h
theorem SeeX.drop {E : DXK} {c : Value} {fs : List (Str × D)} {M M' : Sto} (hd : bels M.length (fs.map (·.2)) = true) (hb : stoBel M.length M) (h : E c fs M) : SeeX M.length E c fs (M ++ M') := .inr ⟨hd, by rw [List.take_left]; exact hb, by rw [List.take_left]; exact h⟩
/-- where a def's body runs -/
abbrev cx0 (P : Program) (w : World) (K : PySem.W.Frag) (mg : Str → Option Value) (base : Heap) (N : List Str) (qual : Str) (st : Stmt) (f : Addr) (cdv : Value) (A : Around) (outer : List Env) (s : Shared) (H : Hp) (E : XK) : Cx :=
  cxOf (CXd P w) P w K mg base N qual (defScope st) f cdv A outer s H E
/-- a def that lets an exception out only as it promises; its code object is told -/
theorem fnXC {k : Nat} {f : Addr} {x qual : Str} {st : Stmt} {fd : FuncData} {N ps : List Str} {ds : DSp} (F : Fun K x qual st f fd) (S : FnScope N ps (defScope st)) (len : ∀ args M Q E, ds args M Q E → args.length = ps.length)
    (body : ∀ (cdv : Value), fd.code = cdv → ∀ (A : Around) (outer : List Env) (s : Shared) (H : Hp) (E : XK), (cx0 P w K mg base N qual st f cdv A outer s H E).A.guards = some [] → Room k (cx0 P w K mg base N qual st f cdv A outer s H E).A →
      ∃ fb, DSs (cx0 P w K mg base N qual st f cdv A outer s H E) (defBody st) fb ∧ ∀ args M Q E', stoBel M.length M → bels M.length args = true → ds args M Q E' → fb { nx := fun _ M' => See M.length Q .non M', rt := See M.length Q } ⟨startD N args, fun c fs _ M' => SeeX M.length E' c fs M'⟩ M) :
    FnG P w K mg base (CXd P w) (k + 1) f fd ps (spOf K ds) := by
  refine fnG_of F S (fun vs H Q E ⟨args, M, al, F, G, W, r, q⟩ => r.length.trans (len _ _ _ _ q)) fun cdv hcdv A outer s H vs Q E hgd hr ⟨args, M, al, F, G, W, r, q⟩ => ?_
  obtain ⟨fb, pb, h⟩ := body cdv hcdv A outer s H E hgd hr
  have W0' : al.length = M.length := W.len
  have hb := r.bels
  rw [W0'] at hb
  obtain ⟨tk, tkc⟩ := takes_ofD (X := cx0 P w K mg base N qual st f cdv A outer s H E) (E := E) rfl rfl rfl rfl
  refine ⟨_, pb.ps, ⟨startD N args, fun c fs _ M' => SeeX M.length (kontX K al F G E) c fs M'⟩, M, al, F, G, W, ⟨start_es r, fun c fs vs M' al' F' H' o σ' e' W' s' f' z => W0.of2 tk tkc (SeeX.ok e' W' f' (by rw [W0']; exact z))⟩, MonoS.up pb.mono (h args M _ _ W.bels hb q) ⟨fun ρ' M' k al' F' H' σ' e' W' s' _ => ?_, fun d M' k al' F' H' v e' W' r' => ?_, fun _ _ z => z.elim, fun _ _ z => z.elim⟩⟩
  · exact See.ok e' W' .non (by rw [W0']; exact k)
  · exact See.ok e' W' r' (by rw [W0']; exact k)
/-- a def that lets an exception out only as it promises -/
theorem fnX {k : Nat} {f : Addr} {x qual : Str} {st : Stmt} {fd : FuncData} {N ps : List Str} {ds : DSp} (F : Fun K x qual st f fd) (S : FnScope N ps (defScope st)) (len : ∀ args M Q E, ds args M Q E → args.length = ps.length)
    (body : ∀ (cdv : Value) (A : Around) (outer : List Env) (s : Shared) (H : Hp) (E : XK), (cx0 P w K mg base N qual st f cdv A outer s H E).A.guards = some [] → Room k (cx0 P w K mg base N qual st f cdv A outer s H E).A →
      ∃ fb, DSs (cx0 P w K mg base N qual st f cdv A outer s H E) (defBody st) fb ∧ ∀ args M Q E', stoBel M.length M → bels M.length args = true → ds args M Q E' → fb { nx := fun _ M' => See M.length Q .non M', rt := See M.length Q } ⟨startD N args, fun c fs _ M' => SeeX M.length E' c fs M'⟩ M) :
    FnG P w K mg base (CXd P w) (k + 1) f fd ps (spOf K ds) :=
  fnXC F S len fun cdv _ => body cdv
/-- a def that lets no exception out; its code object is told -/
theorem fnDC {k : Nat} {f : Addr} {x qual : Str} {st : Stmt} {fd : FuncData} {N ps : List Str} {ds : DSp} (F : Fun K x qual st f fd) (S : FnScope N ps (defScope st)) (len : ∀ args M Q E, ds args M Q E → args.length = ps.length)
    (body : ∀ (cdv : Value), fd.code = cdv → ∀ (A : Around) (outer : List Env) (s : Shared) (H : Hp) (E : XK), (cx0 P w K mg base N qual st f cdv A outer s H E).A.guards = some [] → Room k (cx0 P w K mg base N qual st f cdv A outer s H E).A →
      ∃ fb, DSs (cx0 P w K mg base N qual st f cdv A outer s H E) (defBody st) fb ∧ ∀ args M Q E', stoBel M.length M → bels M.length args = true → ds args M Q E' → fb { nx := fun _ M' => See M.length Q .non M', rt := See M.length Q } ⟨startD N args, noX⟩ M) :
    FnG P w K mg base (CXd P w) (k + 1) f fd ps (spOf K ds) := by
  refine fnG_of F S (fun vs H Q E ⟨args, M, al, F, G, W, r, q⟩ => r.length.trans (len _ _ _ _ q)) fun cdv hcdv A outer s H vs Q E hgd hr ⟨args, M, al, F, G, W, r, q⟩ => ?_
  obtain ⟨fb, pb, h⟩ := body cdv hcdv A outer s H E hgd hr
  have W0' : al.length = M.length := W.len
  have hb := r.bels
  rw [W0'] at hb
  refine ⟨_, pb.ps, ⟨startD N args, noX⟩, M, al, F, G, W, Es.none (start_es r) rfl, MonoS.up pb.mono (h args M _ _ W.bels hb q) ⟨fun ρ' M' k al' F' H' σ' e' W' s' _ => ?_, fun d M' k al' F' H' v e' W' r' => ?_, fun _ _ z => z.elim, fun _ _ z => z.elim⟩⟩
  · exact See.ok e' W' .non (by rw [W0']; exact k)
  · exact See.ok e' W' r' (by rw [W0']; exact k)
/-- a def that lets no exception out -/
theorem fnD {k : Nat} {f : Addr} {x qual : Str} {st : Stmt} {fd : FuncData} {N ps : List Str} {ds : DSp} (F : Fun K x qual st f fd) (S : FnScope N ps (defScope st)) (len : ∀ args M Q E, ds args M Q E → args.length = ps.length)
    (body : ∀ (cdv : Value) (A : Around) (outer : List Env) (s : Shared) (H : Hp) (E : XK), (cx0 P w K mg base N qual st f cdv A outer s H E).A.guards = some [] → Room k (cx0 P w K mg base N qual st f cdv A outer s H E).A →
      ∃ fb, DSs (cx0 P w K mg base N qual st f cdv A outer s H E) (defBody st) fb ∧ ∀ args M Q E', stoBel M.length M → bels M.length args = true → ds args M Q E' → fb { nx := fun _ M' => See M.length Q .non M', rt := See M.length Q } ⟨startD N args, noX⟩ M) :
    FnG P w K mg base (CXd P w) (k + 1) f fd ps (spOf K ds) :=
  fnDC F S len fun cdv _ => body cdv
end
section
variable {X : Cx} {a b c : Expr} {fa fb fc : DTE} {pos : Pos} {es : List Expr} {fr : DTA}
@[reducible] def dCall (ds : DSp) (fr : DTA) : DTE := fun ρ M Q => fr ρ M fun args M1 => ds args M1 Q fun c fs M2 => ρ.x c fs ρ.v M2
theorem d_call {ds : DSp} {k : Nat} {f : Addr} {fd : FuncData} {ps : List Str} {x : Str} {p : Pos} (G : FnG X.prog X.w X.K X.mg X.base (CXd X.prog X.w) k f fd ps (spOf X.K ds)) (hgd : X.A.guards = some []) (hr : Room k X.A) (hg : Gl X x) (hm : X.mg x = some (.ref f)) (hk : PySem.W.keepIn X.K (.ref f) = true) (hb : Binds X.K fd ps [])
    (hmono : MonoSp ds) (ha : DA X (a :: es) fr) (hdb : (x == ("__debug__" : Str)) = false := by decide) (he : starEach (a :: es) X.env = (false, eval a X.env) :: starEach es X.env := by rfl) (hpl : (backTo pos (starEach es X.env)).any (·.1) = false := by rfl) :
    DE X (.Call (.Name x p) (a :: es) [] pos) (dCall ds fr) := by
  refine ⟨PE.of (peG_callS G hgd hr hg hm hk hb .nil (passD X) ha.pa hdb he hpl) fun σ H Q ⟨ρ, M, al, F, Gg, W, s, q⟩ => ?_, fun ρ M Q Q' w q => ha.mono _ _ _ _ (fun args M1 q1 => hmono _ _ _ _ _ _ w (fun _ _ _ z => z) q1) q⟩
  refine ha.seq W s q fun args M1 al1 F1 H1 vs q1 e1 W1 r1 s1 => ?_
  exact ⟨args, M1, al1, F1, Gg, W1, by rw [List.append_nil]; exact r1, hmono _ _ _ _ _ _ (fun d M2 k => kont.ext k e1) (fun c fs M2 z al2 F2 H2 o e2 W2 f2 => s1.xo c fs ρ.v M2 al2 F2 H2 o σ e2 W2 (s1.sl.ext e2) f2 z) q1⟩
/-- a def whose answer is a function of its arguments, and which changes nothing -/
@[reducible] def spF (f : List D → Option D) : DSp := fun args M Q _ => match f args with
  | some d => Q d M
  | none => False
/-- three names at once -/
@[reducible] def dPar3 (i j l : Nat) (fa : DTA) : DTS := fun D ρ M => fa ρ M fun ds M1 => match ds with
  | [d, e, f] => D.nx ⟨((ρ.v.set i (some d)).set j (some e)).set l (some f), ρ.x⟩ M1
  | _ => False
theorem ds_par3 {i j l : Nat} {tgs : List Expr} {v : Expr} (ha : DA X [a, b, c] fr) (ps : ∀ {ta : TA}, PA X [a, b, c] ta → PS X (.Assign tgs v pos) (tPar3 i j l ta)) : DS X (.Assign tgs v pos) (dPar3 i j l fr) := by
  refine ⟨PS.of (ps ha.pa) fun E σ H ⟨ρ, M, al, F, G, W, es, q⟩ => ?_, fun D D' ρ M w q => ha.mono _ _ _ _ (fun ds M1 q1 => ?_) q⟩
  · refine ha.seq W es q fun ds M1 al1 F1 H1 vs q1 e1 W1 r1 s1 => ?_
    match ds, r1, q1 with
    | [d, e, f], .cons r2 (.cons r3 (.cons r4 .nil)), q1 => exact ⟨_, _, _, rfl, q1 al1 F1 H1 _ e1 W1 (((s1.sl.set r2 i).set r3 j).set r4 l) rfl⟩
  · match ds, q1 with
    | [d, e, f], q1 => exact w.nx _ _ q1
end
end DL
namespace DL
open PySem PySem.Spec PyProof.Rows L2
section
variable {X : Cx} {a b c : Expr} {fa fb fc : DTE} {pos : Pos} {es : List Expr} {fr : DTA}
theorem dv (i : Nat) {x : Str} {pos : Pos} (hN : X.N[i]? = some x := by rfl) (hv : Vis X.env.scope x := by first | exact Or.inl rfl | exact Or.inr (Or.inl rfl) | exact Or.inr (Or.inr rfl)) (hd : (x == ("__debug__" : Str)) = false := by decide)
    (hcd : (x == ("__classdict__" : Str)) = false := by decide) : DE X (.Name x pos) (dVar i) := d_var i hN hv hd hcd
theorem dgn (i : Nat) {x : Str} {pos : Pos} (hN : X.N.Nodup) (hi : X.N[i]? = some x := by rfl) (hx : Loc X.env.scope x := by first | exact Or.inl rfl | exact Or.inr rfl) (hf : X.fn x = true ∨ X.env.scope.names.lookup x = some .local := by first | exact .inl rfl | exact .inr rfl) : DG X (.Name x pos) (dgName i) [i] := dg_name hN hi hx hf
theorem dss (i : Nat) {x : Str} {pos' : Pos} (hN : X.N.Nodup) (h : DE X a fa) (hi : X.N[i]? = some x := by rfl) (hx : Loc X.env.scope x := by first | exact Or.inl rfl | exact Or.inr rfl) (hs : swapsWith a (some (.Name x pos')) pos.line X.env = pure false := by rfl) (hf : X.fn x = true ∨ X.env.scope.names.lookup x = some .local := by first | exact .inl rfl | exact .inr rfl) :
    DS X (.Assign [.Name x pos'] a pos) (dAsg fa (dgName i)) := ds_set hN hi hx h hs hf
theorem dsp2 (i j : Nat) {x y : Str} {px py pt : Pos} {kt k2 : Nat} {pt2 : Pos} (hN : X.N.Nodup) (ha : DA X [a, b] fr) (hc : X.calm = true := by rfl) (hi : X.N[i]? = some x := by rfl) (hj : X.N[j]? = some y := by rfl) (hij : i ≠ j := by decide) (hx : X.env.scope.names.lookup x = some .local := by rfl) (hy : X.env.scope.names.lookup y = some .local := by rfl)
    (hw : swappedStores [.Tuple [.Name x px, .Name y py] kt pt] (.Tuple [a, b] k2 pt2) X.env = pure (some [x, y]) := by rfl) (hs : swapsWithSole [.Tuple [.Name x px, .Name y py] kt pt] (.Tuple [a, b] k2 pt2) pos.line X.env = pure false := by rfl) :
    DS X (.Assign [.Tuple [.Name x px, .Name y py] kt pt] (.Tuple [a, b] k2 pt2) pos) (dPar i j fr) :=
  ds_par hc hN hi hj hij hx hy ha fun h => ps_par hc hN hi hj hij hx hy h hw hs
theorem dsp3 (i j l : Nat) {x y z : Str} {px py pz pt : Pos} {kt k2 : Nat} {pt2 : Pos} (hN : X.N.Nodup) (ha : DA X [a, b, c] fr) (hc : X.calm = true := by rfl) (hi : X.N[i]? = some x := by rfl) (hj : X.N[j]? = some y := by rfl) (hl : X.N[l]? = some z := by rfl) (hij : i ≠ j := by decide) (hil : i ≠ l := by decide) (hjl : j ≠ l := by decide)
    (hx : X.env.scope.names.lookup x = some .local := by rfl) (hy : X.env.scope.names.lookup y = some .local := by rfl) (hz : X.env.scope.names.lookup z = some .local := by rfl)
    (hw : swappedStores [.Tuple [.Name x px, .Name y py, .Name z pz] kt pt] (.Tuple [a, b, c] k2 pt2) X.env = pure (some [x, y, z]) := by rfl) (hs : swapsWithSole [.Tuple [.Name x px, .Name y py, .Name z pz] kt pt] (.Tuple [a, b, c] k2 pt2) pos.line X.env = pure false := by rfl) :
    DS X (.Assign [.Tuple [.Name x px, .Name y py, .Name z pz] kt pt] (.Tuple [a, b, c] k2 pt2) pos) (dPar3 i j l fr) :=
  ds_par3 ha fun h => ps_par3 hc hN hi hj hl hij hil hjl hx hy hz h hw hs
def r2 (K : PySem.W.Frag) (g : G2) : R2 := fun x y H Q => ∃ dx dy al F G M, Wd K al F G H M ∧ Rp K F al x dx ∧ Rp K F al y dy ∧ g dx dy M (kont K al F G Q)
theorem O2.opR {f : Value → Value → Sem Value} {g : G2} (h : O2 X f g) : OpR X f (r2 X.K g) := fun pins s σ H x y v u Q I rx ry ⟨dx, dy, al, F, G, M, W, r1, r2, q⟩ => h.run pins s σ al F G H M x y v u dx dy Q I rx ry W r1 r2 q
@[reducible] def dChain (g g' : G2) (fa fb fc : DTE) : DTE := fun ρ M Q => fa ρ M fun x M1 => fb ρ M1 fun y M2 => g x y M2 fun z M3 => match z with
  | .bl true => fc ρ M3 fun w M4 => g' y w M4 Q
  | .bl false => Q (.bl false) M3
  | _ => False
theorem d_chain {op op' : CmpOp} {g g' : G2} (ho : O2 X (compareOp op) g) (ho' : O2 X (compareOp op') g') (ha : DE X a fa) (hb : DE X b fb) (hc : DE X c fc)
    (pe : ∀ {r r' : R2} {ta tb tc : TE}, OpR X (compareOp op) r → OpR X (compareOp op') r' → PE X a ta → PE X b tb → PE X c tc → PE X (.Compare a [op, op'] [b, c] pos) (tChain r r' ta tb tc)) : DE X (.Compare a [op, op'] [b, c] pos) (dChain g g' fa fb fc) := by
  refine ⟨PE.of (pe ho.opR ho'.opR ha.pe hb.pe hc.pe) fun σ H Q ⟨ρ, M, al, F, G, W, s, q⟩ => ?_, fun ρ M Q Q' w q => ha.mono _ _ _ _ (fun x M1 q1 => hb.mono _ _ _ _ (fun y M2 q2 => ho.mono _ _ _ _ _ (fun z M3 q3 => ?_) q2) q1) q⟩
  · refine ha.seq W s q fun dx M1 al1 F1 H1 v q1 e1 W1 r1 s1 => ?_
    refine hb.seq W1 s1 q1 fun dy M2 al2 F2 H2 u q2 e2 W2 r2 s2 => ?_
    refine ⟨dx, dy, al2, F2, G, M2, W2, r1.ext e2, r2, ho.mono _ _ _ _ _ (fun z M3 q3 al3 F3 H3 zv e3 W3 r3 => ?_) q2⟩
    cases r3 with
    | bl k =>
      refine ⟨k, rfl, ?_⟩
      cases k with
      | true =>
        refine hc.seq W3 (s2.ext e3) q3 fun dw M4 al4 F4 H4 wv q4 e4 W4 r4 s4 => ?_
        exact ⟨dy, dw, al4, F4, G, M4, W4, r2.ext (e3.trans e4), r4, ho'.mono _ _ _ _ _ (fun d M5 k => kont.ext k (e1.trans (e2.trans (e3.trans e4)))) q4⟩
      | false => exact q3 al3 F3 H3 _ (e1.trans (e2.trans e3)) W3 (.bl false)
    | _ => exact q3.elim
  · try dsimp only at q3 ⊢
    split at q3
    · exact hc.mono _ _ _ _ (fun w' M4 q4 => ho'.mono _ _ _ _ _ w q4) q3
    · exact w _ _ q3
    · exact q3.elim
structure Cl (P : Program) (w : World) (K : PySem.W.Frag) (mg : Str → Option Value) (base : Heap) (x : Str) (k : Nat) (ps : List Str) (ds : DSp) : Prop where
  ex : ∃ (f : Addr) (fd : FuncData), FnG P w K mg base (CXd P w) k f fd ps (spOf K ds) ∧ mg x = some (.ref f) ∧ PySem.W.keepIn K (.ref f) = true ∧ Binds K fd ps []
  mono : MonoSp ds
theorem d_cl {ds : DSp} {k : Nat} {ps : List Str} {x : Str} {p : Pos} (C : Cl X.prog X.w X.K X.mg X.base x k ps ds) (hgd : X.A.guards = some []) (hr : Room k X.A) (ha : DA X (a :: es) fr) (hg : Gl X x := by rfl) (hdb : (x == ("__debug__" : Str)) = false := by decide)
    (he : starEach (a :: es) X.env = (false, eval a X.env) :: starEach es X.env := by rfl) (hpl : (backTo pos (starEach es X.env)).any (·.1) = false := by rfl) : DE X (.Call (.Name x p) (a :: es) [] pos) (dCall ds fr) := by
  obtain ⟨f, fd, G, hm, hk, hb⟩ := C.ex
  exact d_call G hgd hr hg hm hk hb C.mono ha hdb he hpl
/-- a def of the top -/
structure Df (K : PySem.W.Frag) (mg : Str → Option Value) (x : Str) (st : Stmt) : Prop where
  ex : ∃ (f : Addr) (fd : FuncData), Fun K x x st f fd ∧ mg x = some (.ref f)
/-- the built-in names that no text here takes -/
structure Bn (mg : Str → Option Value) : Prop where
  abs : mg "abs" = none
  all : mg "all" = none
  any : mg "any" = none
  bool : mg "bool" = none
  dict : mg "dict" = none
  enumerate : mg "enumerate" = none
  int : mg "int" = none
  isinstance : mg "isinstance" = none
  len : mg "len" = none
  list : mg "list" = none
  max : mg "max" = none
  min : mg "min" = none
  range : mg "range" = none
  repr : mg "repr" = none
  set : mg "set" = none
  sorted : mg "sorted" = none
  str : mg "str" = none
  sum : mg "sum" = none
  tuple : mg "tuple" = none
  zip : mg "zip" = none
  LookupError : mg "LookupError" = none
  ValueError : mg "ValueError" = none
theorem b_abs : bootBuiltins "abs" = some (.builtin "abs") := by decide +kernel
theorem b_all : bootBuiltins "all" = some (.builtin "all") := by decide +kernel
theorem b_any : bootBuiltins "any" = some (.builtin "any") := by decide +kernel
theorem b_bool : bootBuiltins "bool" = some (.type "bool") := by decide +kernel
theorem b_int : bootBuiltins "int" = some (.type "int") := by decide +kernel
theorem b_len : bootBuiltins "len" = some (.builtin "len") := by decide +kernel
theorem b_list : bootBuiltins "list" = some (.type "list") := by decide +kernel
theorem b_max : bootBuiltins "max" = some (.builtin "max") := by decide +kernel
theorem b_min : bootBuiltins "min" = some (.builtin "min") := by decide +kernel
theorem b_sum : bootBuiltins "sum" = some (.builtin "sum") := by decide +kernel
theorem b_tuple : bootBuiltins "tuple" = some (.type "tuple") := by decide +kernel
theorem b_sorted : bootBuiltins "sorted" = some (.builtin "sorted") := by decide +kernel
/-- a comprehension's list that will be changed -/
@[reducible] def dLcM (fi : DTI) (g : DTG) (t : DTT) (fe : DTE) (vs : List Nat) : DTE := fun ρ M Q => fi ρ M fun ds st M1 => lcGo st (lcStep ρ vs g t fe) ds [] M1 fun acc M2 => Q (.ref M2.length) (M2 ++ [Cell.lst acc])
theorem Wd.thawM {K : PySem.W.Frag} {al : List Addr} {F G H : Hp} {M : Sto} {p : Addr} {xs : List V} {ds : List D} (W : Wd K al F (upd G p (.lst xs)) H M) (hg : G p = none) (rs : Rps K F al xs ds) : Wd K (al ++ [p]) F G H (M ++ [.lst ds]) ∧ Ext al F (al ++ [p]) F := by
  have hp := W.hidF (fun _ z => by cases z)
  have e : Ext al F (al ++ [p]) F := ⟨⟨[p], rfl⟩, Sm.refl F⟩
  refine ⟨⟨W.sm, fun b u q => W.sg b u (Sm.new hg b u q), fun a u q => ?_, by simp [W.len], ?_, fun a q => ?_, fun n c a q r => ?_, W.tb.to (Sm.refl F) fun P x f g y => ?_⟩, e⟩
  rotate_right
  · have np : P ≠ p := fun z => by rw [z, upd_same] at g; cases g
    exact ⟨rfl, f, (upd_ne np).symm.trans g, fun z => (List.mem_append.mp z).elim y fun z => np (by simpa using z)⟩
  · have hn : a ≠ p := fun z => by subst z; rw [hg] at q; cases q
    obtain ⟨h1, h2⟩ := W.fg a u (Sm.new hg a u q)
    refine ⟨h1, fun z => ?_⟩
    rcases List.mem_append.mp z with z | z
    · exact h2 z
    · exact hn (by simpa using z)
  · rw [List.nodup_append]
    refine ⟨W.nd, by simp, fun a ha b hb => ?_⟩
    have hb' : b = p := by simpa using hb
    subst hb'
    exact fun z => hp.2 (z ▸ ha)
  · rcases List.mem_append.mp q with q | q
    · exact W.out a q
    · have q' : a = p := by simpa using q
      subst q'
      exact hp.1
  · by_cases hn : n < M.length
    · rw [List.getElem?_append_left hn] at q
      rw [List.getElem?_append_left (by rw [W.len]; exact hn)] at r
      exact (W.cel n c a q r).ext e rfl
    · have hn' : n = M.length := by
        have := (List.getElem?_eq_some_iff.mp q).1
        rw [List.length_append, List.length_singleton] at this
        omega
      subst hn'
      rw [List.getElem?_append_right (Nat.le_refl _)] at q
      rw [← W.len, List.getElem?_append_right (Nat.le_refl _)] at r
      simp at q r
      subst q
      subst r
      exact ⟨xs, W.sg _ _ upd_same, rs.ext e⟩
theorem lcM_ok {Y : Cx} {wi : DTI} {g : DTG} {t : DTT} {fe : DTE} {vs js : List Nat} {σ : L2.St} {H : Hp} {Q : VK} (hi : ∀ ρ M (Q Q' : List D → (Sto → Prop) → Sto → Prop), (∀ ds st M, Q ds st M → Q' ds st M) → wi ρ M Q → wi ρ M Q')
    (hg : MonoG g) (ht : ∀ ρ M (Q Q' : Bool → Sto → Prop), (∀ d M, Q d M → Q' d M) → t ρ M Q → t ρ M Q') (he : ∀ ρ M (Q Q' : DK), (∀ d M, Q d M → Q' d M) → fe ρ M Q → fe ρ M Q') (hj : ∀ j ∈ js, j ∈ vs)
    (h : Lift Y (dLcM wi g t fe vs) σ H Q) : tLc (LiftI Y wi) (LiftGN Y.K g js) (LiftTN Y.K t) (LiftN Y.K fe) vs σ H Q := by
  obtain ⟨ρ, M, al, F, G, W, es, q⟩ := h
  refine ⟨ρ, M, al, F, G, W, es, hi _ _ _ _ (fun ds st M1 q1 al1 F1 H1 J e1 W1 ok => ?_) q⟩
  intro Dd hD
  have hGD : G Dd = none := W1.sg.free hD
  refine ⟨fun i m H' => ∃ M' al' F' acc xs, i + m = ds.length ∧ Ext al1 F1 al' F' ∧ Wd Y.K al' F' (upd G Dd (.lst xs)) H' M' ∧ Rps Y.K F' al' xs acc ∧ lcGo st (lcStep ρ vs g t fe) (ds.drop i) acc M' (fun acc M2 => kont Y.K al F G Q (.ref M2.length) (M2 ++ [Cell.lst acc])),
    ⟨ds.length, M1, al1, F1, [], [], by omega, Ext.refl _ _, W1.hide hD, .nil, q1⟩, ?_⟩
  rintro i m H' ⟨M', al', F', acc, xs, em, e', W', rs, q'⟩
  have smG : Sm G (upd G Dd (.lst xs)) := Sm.new hGD
  by_cases hil : i < ds.length
  · rw [List.drop_eq_getElem_cons hil] at q'
    obtain ⟨hst, q'⟩ := q'
    obtain ⟨go, yl⟩ := (ok al' F' _ H' M' e' smG W' hst i).1 ds[i] (List.getElem?_eq_getElem hil)
    refine .inr ⟨go, fun H2 => ∃ M2 al2 F2 acc2 xs2, Ext al1 F1 al2 F2 ∧ Wd Y.K al2 F2 (upd G Dd (.lst xs2)) H2 M2 ∧ Rps Y.K F2 al2 xs2 acc2 ∧ lcGo st (lcStep ρ vs g t fe) (ds.drop (i + 1)) acc2 M2 (fun acc M2 => kont Y.K al F G Q (.ref M2.length) (M2 ++ [Cell.lst acc])), ?_, fun x H2 hy => ?_⟩
    · rintro H2 ⟨M2, al2, F2, acc2, xs2, e2, W2, r2, q2⟩
      exact ⟨m - 1, by omega, M2, al2, F2, acc2, xs2, by omega, e2, W2, r2, q2⟩
    · obtain ⟨F2, sm2, W2, r2⟩ := yl x H2 hy
      have e2 : Ext al' F' al' F2 := ⟨⟨[], by simp⟩, sm2⟩
      have esw : Sl Y.K F2 al' (wipe σ vs) (wipeD ρ.v vs) := (es.sl.ext (e1.trans (e'.trans e2))).wipe vs
      refine ⟨ds[i], ⟨wipeD ρ.v vs, noX⟩, M', al', F2, _, W2, esw, rfl, r2, hg _ _ _ _ _ (fun ρ3 M3 q3 al3 F3 H3 σ3 e3 W3 s3 x3 o3 => ?_) q'⟩
      refine ⟨(wipe_eq o3 hj).trans wipe_wipe, ρ3, M3, al3, F3, _, W3, s3, x3, ht _ _ _ _ (fun b M4 q4 al4 F4 H4 e4 W4 => ?_) q3⟩
      cases b with
      | false =>
        exact ⟨M4, al4, F4, acc, xs, e'.trans (e2.trans (e3.trans e4)), W4, rs.ext (e2.trans (e3.trans e4)), q4⟩
      | true =>
        refine ⟨ρ3, M4, al4, F4, _, W4, s3.ext e4, x3, he _ _ _ _ (fun y M5 q5 al5 F5 H5 v5 e5 W5 r5 => ?_) q4⟩
        have eA : Ext al' F' al5 F5 := e2.trans (e3.trans (e4.trans e5))
        have rl := rs.length
        refine ⟨xs, W5.sg _ _ upd_same, Nat.lt_of_lt_of_le (by have := q5.1; omega : xs.length < 100000) (by decide), M5, al5, F5, acc ++ [y], xs ++ [v5], e'.trans eA, W5.rehide, (rs.ext eA).append (.cons r5 .nil), q5.2⟩
  · rw [List.drop_eq_nil_of_le (by omega)] at q'
    refine .inl ⟨(ok al' F' _ H' M' e' smG W' q'.1 i).2 (by omega), ?_⟩
    obtain ⟨W2, e2⟩ := W'.thawM hGD rs
    exact q'.2 _ _ H' _ (e1.trans (e'.trans e2)) W2 (.ref (by rw [← W'.len, List.getElem?_append_right (Nat.le_refl _)]; simp))
theorem d_lcM {elt tg iter : Expr} {ifs : List Expr} {scope : Scope} {own : List (Str × Nat)} {fi : DTI} {g : DTG} {t : DTT} {fe : DTE} {js : List Nat} (hc : X.calm = true) (hN : X.N.Nodup) (hi : DI X tg iter fi) (ok : BlkOk X.N X.env.scope scope own) (hj : ∀ j ∈ js, j ∈ own.map (·.2))
    (hg : ∀ (s : Shared) (H : Hp) (C : Addr) (cl : List (Str × Addr)) (fp : List Addr), DG (X.blk s H scope (compEnvC scope cl C X.env) fp) tg g js)
    (ht : ∀ (s : Shared) (H : Hp) (C : Addr) (cl : List (Str × Addr)) (fp : List Addr), DTTs (X.blk s H scope (compEnvC scope cl C X.env) fp) ifs t)
    (he : ∀ (s : Shared) (H : Hp) (C : Addr) (cl : List (Str × Addr)) (fp : List Addr), DE (X.blk s H scope (compEnvC scope cl C X.env) fp) elt fe)
    (hfs : ∀ x : Value, foldedSetIterable iter X.env x = pure x := by intro _; rfl) : DE X (.ListComp elt [⟨tg, iter, ifs, 0⟩] scope pos) (dLcM fi g t fe (own.map (·.2))) := by
  have g0 := (hg X.s_0 (fun _ => none) 0 [] []).mono
  have t0 := (ht X.s_0 (fun _ => none) 0 [] []).2
  have e0 := (he X.s_0 (fun _ => none) 0 [] []).mono
  refine ⟨PE.of (pe_lc hc hN hi.pi ok (fun s H C cl fp => PG.of (hg s H C cl fp).pg fun _ _ _ _ z => LiftGN.of (hg s H C cl fp).mono z) (fun s H C cl fp => PTs.of (ht s H C cl fp).1 fun _ _ _ z => LiftTN.of z) (fun s H C cl fp => PE.of (he s H C cl fp).pe fun _ _ _ z => LiftN.of z) hfs) fun σ H Q h => lcM_ok (Y := X) hi.mono g0 t0 e0 hj h, fun ρ M Q Q' w q => ?_⟩
  exact hi.mono _ _ _ _ (fun ds st M1 q1 => lcGo_mono (lcStep_mono g0 t0 e0) _ _ (fun a M2 q2 => w _ _ q2) ds [] M1 q1) q
end
end DL
namespace DL
open PySem PySem.Spec PyProof.Rows L2
theorem itemsOf_tup (ds : List D) (M : Sto) : itemsOf (.tup ds) M = some ds := rfl
theorem itemsOf_lst (ds : List D) (M : Sto) : itemsOf (.lst ds) M = some ds := rfl
theorem itemsOf_ref (n : Nat) (M : Sto) : itemsOf (.ref n) M = match M[n]? with
    | some (.lst ds) => some ds
    | _ => none := rfl
theorem seqOf_lst (ds : List D) (M : Sto) : seqOf (.lst ds) M = some ds := rfl
theorem seqOf_ref (n : Nat) (M : Sto) : seqOf (.ref n) M = match M[n]? with
    | some (.lst ds) => some ds
    | _ => none := rfl
theorem lenOf_tup (ds : List D) (M : Sto) : lenOf (.tup ds) M = some ds.length := rfl
theorem lenOf_lst (ds : List D) (M : Sto) : lenOf (.lst ds) M = some ds.length := rfl
theorem lenOf_ref (n : Nat) (M : Sto) : lenOf (.ref n) M = match M[n]? with
    | some (.lst ds) => some ds.length
    | _ => none := by
  show (match (match M[n]? with | some (.lst ds) => some ds | _ => none) with | some ds => some ds.length | none => none) = _
  cases M[n]? with
  | none => rfl
  | some c => cases c <;> rfl
theorem atI_0 {α : Type} (x : α) (xs : List α) : atI (x :: xs) 0 = some x := atI_nat (xs := x :: xs) (j := 0) rfl
theorem atI_1 {α : Type} (x y : α) (xs : List α) : atI (x :: y :: xs) 1 = some y := atI_nat (xs := x :: y :: xs) (j := 1) rfl
theorem atI_2 {α : Type} (x y z : α) (xs : List α) : atI (x :: y :: z :: xs) 2 = some z := atI_nat (xs := x :: y :: z :: xs) (j := 2) rfl
theorem atI_3 {α : Type} (x y z u : α) (xs : List α) : atI (x :: y :: z :: u :: xs) 3 = some u := atI_nat (xs := x :: y :: z :: u :: xs) (j := 3) rfl
theorem ixN_0 (n : Nat) : ixN (n + 1) 0 = some 0 := by unfold ixN; rw [if_pos (by decide), if_pos (by omega)]; rfl
theorem ixN_1 (n : Nat) : ixN (n + 1 + 1) 1 = some 1 := by unfold ixN; rw [if_pos (by decide), if_pos (by omega)]; rfl
/-- an item at an index that is known to lie within -/
theorem atI_of {α : Type} {xs : List α} {i : Int} {j : Nat} {x : α} (e : i = (j : Int)) (h : xs[j]? = some x) : atI xs i = some x := by rw [e]; exact atI_nat h
theorem ixN_of {n : Nat} {i : Int} (h0 : 0 ≤ i) (h1 : i < n) : ixN n i = some i.toNat := by unfold ixN; rw [if_pos h0, if_pos h1]
theorem atI_ints {ns : List Int} {i : Int} (h0 : 0 ≤ i) (h1 : i < ns.length) : ∃ x, x ∈ ns ∧ ns[i.toNat]? = some x ∧ atI (ns.map D.int) i = some (.int x) := by
  have hl : i.toNat < ns.length := by omega
  refine ⟨ns[i.toNat], List.getElem_mem hl, List.getElem?_eq_getElem hl, ?_⟩
  refine atI_of (j := i.toNat) (by omega) ?_
  rw [List.getElem?_map, List.getElem?_eq_getElem hl]
  rfl
theorem ite_dec {p : Prop} [Decidable p] {A B : Prop} (h1 : p → A) (h2 : ¬ p → B) : if decide p = true then A else B := by
  by_cases h : p
  · rw [if_pos (decide_eq_true h)]; exact h1 h
  · rw [if_neg (by rw [decide_eq_false h]; decide)]; exact h2 h
theorem ite_bl {b : Bool} {A B : Prop} (h1 : b = true → A) (h2 : b = false → B) : if b = true then A else B := by
  cases b
  · rw [if_neg (by decide)]; exact h2 rfl
  · rw [if_pos rfl]; exact h1 rfl
def forI (st : Sto → Prop) (g : DTG) (body : DTS) (ds : List D) (E : DEnds) (ρ : Dn) (M : Sto) : Prop := ∃ I : List D → List D → Dn → Sto → Prop, I [] ds ρ M ∧ (∀ done todo ρ M, I done todo ρ M → st M) ∧
  (∀ done d todo ρ M, I done (d :: todo) ρ M → g d ρ M fun ρ1 M1 => body { nx := fun ρ2 M2 => I (done ++ [d]) todo ρ2 M2, rt := E.rt, bk := E.nx, ct := fun ρ2 M2 => I (done ++ [d]) todo ρ2 M2 } ρ1 M1) ∧ ∀ done ρ M, I done [] ρ M → E.nx ρ M
theorem for_go {st : Sto → Prop} {g : DTG} {body : DTS} {E : DEnds} {I : List D → List D → Dn → Sto → Prop} (hst : ∀ done todo ρ M, I done todo ρ M → st M)
      (step : ∀ done d todo ρ M, I done (d :: todo) ρ M → g d ρ M fun ρ1 M1 => body { nx := fun ρ2 M2 => I (done ++ [d]) todo ρ2 M2, rt := E.rt, bk := E.nx, ct := fun ρ2 M2 => I (done ++ [d]) todo ρ2 M2 } ρ1 M1)
      (hend : ∀ done ρ M, I done [] ρ M → E.nx ρ M) (mg : MonoG g) (mb : MonoS body) : ∀ (done todo : List D) (ρ : Dn) (M : Sto), I done todo ρ M → forGo st g body todo E ρ M
  | done, [], ρ, M, h => ⟨hst _ _ _ _ h, hend _ _ _ h⟩
  | done, d :: todo, ρ, M, h => by
    refine ⟨hst _ _ _ _ h, mg _ _ _ _ _ (fun ρ1 M1 q1 => ?_) (step done d todo ρ M h)⟩
    exact MonoS.up mb (D := { nx := fun ρ2 M2 => I (done ++ [d]) todo ρ2 M2, rt := E.rt, bk := E.nx, ct := fun ρ2 M2 => I (done ++ [d]) todo ρ2 M2 }) q1
      ⟨fun ρ2 M2 q2 => for_go hst step hend mg mb (done ++ [d]) todo ρ2 M2 q2, fun _ _ z => z, fun _ _ z => z, fun ρ2 M2 q2 => for_go hst step hend mg mb (done ++ [d]) todo ρ2 M2 q2⟩
@[reducible] def dForI (fi : DTI) (g : DTG) (body : DTS) : DTS := fun E ρ M => fi ρ M fun ds st M1 => forI st g body ds E ρ M1
theorem forI_mono {st : Sto → Prop} {g : DTG} {body : DTS} (hg : MonoG g) (hb : MonoS body) (ds : List D) : MonoS (forI st g body ds) := by
  rintro D D' ρ M w ⟨I, h0, h1, h2, h3⟩
  refine ⟨I, h0, h1, fun done d todo ρ M h => hg _ _ _ _ _ (fun ρ1 M1 q1 => ?_) (h2 done d todo ρ M h), fun done ρ M h => w.nx _ _ (h3 done ρ M h)⟩
  exact MonoS.up hb (D := { nx := fun ρ2 M2 => I (done ++ [d]) todo ρ2 M2, rt := D.rt, bk := D.nx, ct := fun ρ2 M2 => I (done ++ [d]) todo ρ2 M2 }) q1 ⟨fun _ _ z => z, w.rt, w.nx, fun _ _ z => z⟩
def lcI (st : Sto → Prop) (step : D → Sto → (Option D → Sto → Prop) → Prop) (ds : List D) (M : Sto) (Q : List D → Sto → Prop) : Prop := ∃ I : List D → List D → List D → Sto → Prop, I [] ds [] M ∧ (∀ done todo acc M, I done todo acc M → st M) ∧
  (∀ done d todo acc M, I done (d :: todo) acc M → step d M fun o M1 => match o with
      | some y => acc.length < 100000 ∧ I (done ++ [d]) todo (acc ++ [y]) M1
      | none => I (done ++ [d]) todo acc M1) ∧ ∀ done acc M, I done [] acc M → Q acc M
theorem lc_go {st : Sto → Prop} {step : D → Sto → (Option D → Sto → Prop) → Prop} {Q : List D → Sto → Prop} {I : List D → List D → List D → Sto → Prop} (hst : ∀ done todo acc M, I done todo acc M → st M)
    (hs : ∀ done d todo acc M, I done (d :: todo) acc M → step d M fun o M1 => match o with
      | some y => acc.length < 100000 ∧ I (done ++ [d]) todo (acc ++ [y]) M1
      | none => I (done ++ [d]) todo acc M1)
    (hm : ∀ d M (k k' : Option D → Sto → Prop), (∀ o M, k o M → k' o M) → step d M k → step d M k') (hend : ∀ done acc M, I done [] acc M → Q acc M) :
    ∀ (done todo acc : List D) (M : Sto), I done todo acc M → lcGo st step todo acc M Q
  | done, [], acc, M, h => ⟨hst _ _ _ _ h, hend _ _ _ h⟩
  | done, d :: todo, acc, M, h => ⟨hst _ _ _ _ h, hm _ _ _ _ (fun o M1 q => by
    cases o with
    | none => exact lc_go hst hs hm hend (done ++ [d]) todo acc M1 q
    | some y => exact ⟨q.1, lc_go hst hs hm hend (done ++ [d]) todo (acc ++ [y]) M1 q.2⟩) (hs done d todo acc M h)⟩
theorem lcI_go {st : Sto → Prop} {step : D → Sto → (Option D → Sto → Prop) → Prop} {ds : List D} {M : Sto} {Q : List D → Sto → Prop} (hm : ∀ d M (k k' : Option D → Sto → Prop), (∀ o M, k o M → k' o M) → step d M k → step d M k') (h : lcI st step ds M Q) : lcGo st step ds [] M Q :=
  let ⟨I, h0, h1, h2, h3⟩ := h
  lc_go (I := I) h1 h2 hm h3 [] ds [] M h0
@[reducible] def dLcI (fi : DTI) (g : DTG) (t : DTT) (fe : DTE) (vs : List Nat) : DTE := fun ρ M Q => fi ρ M fun ds st M1 => lcI st (lcStep ρ vs g t fe) ds M1 fun acc M2 => Q (.lst acc) M2
@[reducible] def dLcMI (fi : DTI) (g : DTG) (t : DTT) (fe : DTE) (vs : List Nat) : DTE := fun ρ M Q => fi ρ M fun ds st M1 => lcI st (lcStep ρ vs g t fe) ds M1 fun acc M2 => Q (.ref M2.length) (M2 ++ [Cell.lst acc])
section
variable {X : Cx} {pos : Pos}
theorem DE.weak {e : Expr} {f f' : DTE} (h : DE X e f) (w : ∀ ρ M Q, f' ρ M Q → f ρ M Q) (m : ∀ ρ M (Q Q' : DK), (∀ d M, Q d M → Q' d M) → f' ρ M Q → f' ρ M Q') : DE X e f' :=
  ⟨PE.of h.pe fun σ H Q ⟨ρ, M, al, F, G, W, s, q⟩ => ⟨ρ, M, al, F, G, W, s, w _ _ _ q⟩, m⟩
theorem DS.weak {e : Stmt} {f f' : DTS} (h : DS X e f) (w : ∀ E ρ M, f' E ρ M → f E ρ M) (m : MonoS f') : DS X e f' :=
  ⟨PS.of h.ps fun E σ H ⟨ρ, M, al, F, G, W, s, q⟩ => ⟨ρ, M, al, F, G, W, s, w _ _ _ q⟩, m⟩
theorem ds_forI {tg iter : Expr} {body : List Stmt} {fi : DTI} {g : DTG} {js : List Nat} {f : DTS} (hp : PassesOwn (model X.prog X.w) X.A X.env X.xe) (hc : X.calm = true) (hi : DI X tg iter fi) (hg : DG X tg g js) (hb : DSs X body f)
    (hfs : ∀ x : Value, foldedSetIterable iter X.env x = pure x := by intro _; rfl) : DS X (.For tg iter body [] pos) (dForI fi g f) :=
  (ds_for hp hc hi hg hb hfs).weak (fun E ρ M q => hi.mono _ _ _ _ (fun ds st M1 ⟨I, h0, h1, h2, h3⟩ => for_go (I := I) h1 h2 h3 hg.mono hb.mono [] ds ρ M1 h0) q)
    fun D D' ρ M w q => hi.mono _ _ _ _ (fun ds st M1 q1 => forI_mono hg.mono hb.mono ds D D' ρ M1 w q1) q
theorem d_lcI {elt tg iter : Expr} {ifs : List Expr} {scope : Scope} {own : List (Str × Nat)} {fi : DTI} {g : DTG} {t : DTT} {fe : DTE} {js : List Nat} (hc : X.calm = true) (hN : X.N.Nodup) (hi : DI X tg iter fi) (ok : BlkOk X.N X.env.scope scope own) (hj : ∀ j ∈ js, j ∈ own.map (·.2))
    (hg : ∀ (s : Shared) (H : Hp) (C : Addr) (cl : List (Str × Addr)) (fp : List Addr), DG (X.blk s H scope (compEnvC scope cl C X.env) fp) tg g js)
    (ht : ∀ (s : Shared) (H : Hp) (C : Addr) (cl : List (Str × Addr)) (fp : List Addr), DTTs (X.blk s H scope (compEnvC scope cl C X.env) fp) ifs t)
    (he : ∀ (s : Shared) (H : Hp) (C : Addr) (cl : List (Str × Addr)) (fp : List Addr), DE (X.blk s H scope (compEnvC scope cl C X.env) fp) elt fe)
    (hfs : ∀ x : Value, foldedSetIterable iter X.env x = pure x := by intro _; rfl) : DE X (.ListComp elt [⟨tg, iter, ifs, 0⟩] scope pos) (dLcI fi g t fe (own.map (·.2))) := by
  have g0 := (hg X.s_0 (fun _ => none) 0 [] []).mono
  have t0 := (ht X.s_0 (fun _ => none) 0 [] []).2
  have e0 := (he X.s_0 (fun _ => none) 0 [] []).mono
  exact (d_lc hc hN hi ok hj hg ht he hfs).weak (fun ρ M Q q => hi.mono _ _ _ _ (fun ds st M1 q1 => lcI_go (lcStep_mono g0 t0 e0) q1) q)
    fun ρ M Q Q' w q => hi.mono _ _ _ _ (fun ds st M1 ⟨I, h0, h1, h2, h3⟩ => ⟨I, h0, h1, h2, fun done acc M h => w _ _ (h3 done acc M h)⟩) q
theorem d_lcMI {elt tg iter : Expr} {ifs : List Expr} {scope : Scope} {own : List (Str × Nat)} {fi : DTI} {g : DTG} {t : DTT} {fe : DTE} {js : List Nat} (hc : X.calm = true) (hN : X.N.Nodup) (hi : DI X tg iter fi) (ok : BlkOk X.N X.env.scope scope own) (hj : ∀ j ∈ js, j ∈ own.map (·.2))
    (hg : ∀ (s : Shared) (H : Hp) (C : Addr) (cl : List (Str × Addr)) (fp : List Addr), DG (X.blk s H scope (compEnvC scope cl C X.env) fp) tg g js)
    (ht : ∀ (s : Shared) (H : Hp) (C : Addr) (cl : List (Str × Addr)) (fp : List Addr), DTTs (X.blk s H scope (compEnvC scope cl C X.env) fp) ifs t)
    (he : ∀ (s : Shared) (H : Hp) (C : Addr) (cl : List (Str × Addr)) (fp : List Addr), DE (X.blk s H scope (compEnvC scope cl C X.env) fp) elt fe)
    (hfs : ∀ x : Value, foldedSetIterable iter X.env x = pure x := by intro _; rfl) : DE X (.ListComp elt [⟨tg, iter, ifs, 0⟩] scope pos) (dLcMI fi g t fe (own.map (·.2))) := by
  have g0 := (hg X.s_0 (fun _ => none) 0 [] []).mono
  have t0 := (ht X.s_0 (fun _ => none) 0 [] []).2
  have e0 := (he X.s_0 (fun _ => none) 0 [] []).mono
  exact (d_lcM hc hN hi ok hj hg ht he hfs).weak (fun ρ M Q q => hi.mono _ _ _ _ (fun ds st M1 q1 => lcI_go (lcStep_mono g0 t0 e0) q1) q)
    fun ρ M Q Q' w q => hi.mono _ _ _ _ (fun ds st M1 ⟨I, h0, h1, h2, h3⟩ => ⟨I, h0, h1, h2, fun done acc M h => w _ _ (h3 done acc M h)⟩) q
theorem ds_setLcI {i : Nat} {y : Str} {py spos : Pos} {elt tg iter : Expr} {ifs : List Expr} {scope : Scope} {own : List (Str × Nat)} {fi : DTI} {g : DTG} {t : DTT} {fe : DTE} {js : List Nat} (hc : X.calm = true) (hN : X.N.Nodup) (hy : X.N[i]? = some y) (hl : X.env.scope.names.lookup y = some .local)
    (hsw : swapsWith (.ListComp elt [⟨tg, iter, ifs, 0⟩] scope pos) (some (.Name y py)) spos.line X.env = pure true) (hi : DI X tg iter fi) (ok : BlkOk X.N X.env.scope scope own) (hj : ∀ j ∈ js, j ∈ own.map (·.2))
    (hg : ∀ (s : Shared) (H : Hp) (C : Addr) (cl : List (Str × Addr)) (fp : List Addr), DG (X.blk s H scope (compEnvC scope cl C X.env) fp) tg g js)
    (ht : ∀ (s : Shared) (H : Hp) (C : Addr) (cl : List (Str × Addr)) (fp : List Addr), DTTs (X.blk s H scope (compEnvC scope cl C X.env) fp) ifs t)
    (he : ∀ (s : Shared) (H : Hp) (C : Addr) (cl : List (Str × Addr)) (fp : List Addr), DE (X.blk s H scope (compEnvC scope cl C X.env) fp) elt fe)
    (hfs : ∀ x : Value, foldedSetIterable iter X.env x = pure x := by intro _; rfl) : DS X (.Assign [.Name y py] (.ListComp elt [⟨tg, iter, ifs, 0⟩] scope pos) spos) (dAsg (dLcI fi g t fe (own.map (·.2))) (dgName i)) := by
  have g0 := (hg X.s_0 (fun _ => none) 0 [] []).mono
  have t0 := (ht X.s_0 (fun _ => none) 0 [] []).2
  have e0 := (he X.s_0 (fun _ => none) 0 [] []).mono
  have hd := d_lcI (pos := pos) hc hN hi ok hj hg ht he hfs
  exact (ds_setLc hc hN hy hl hsw hi ok hj hg ht he hfs).weak (fun E ρ M q => hi.mono _ _ _ _ (fun ds st M1 q1 => lcI_go (lcStep_mono g0 t0 e0) q1) q)
    fun D D' ρ M w q => hd.mono _ _ _ _ (fun d M1 q1 => w.nx _ _ q1) q
end
/-- a comprehension whose turns change nothing: element by element a function -/
theorem lc_map {st : Sto → Prop} {step : D → Sto → (Option D → Sto → Prop) → Prop} (f : D → D) {ds : List D} {M : Sto} {Q : List D → Sto → Prop} (hst : st M) (hl : ds.length ≤ 100000) (hs : ∀ d ∈ ds, ∀ k : Option D → Sto → Prop, k (some (f d)) M → step d M k) (q : Q (ds.map f) M) : lcI st step ds M Q := by
  refine ⟨fun done todo acc M' => M' = M ∧ acc = done.map f ∧ done ++ todo = ds, ⟨rfl, rfl, rfl⟩, ?_, ?_, ?_⟩
  · rintro done todo acc M' ⟨rfl, _⟩
    exact hst
  · rintro done d todo acc M' ⟨rfl, rfl, e⟩
    refine hs d (by rw [← e]; simp) _ ⟨?_, rfl, by rw [List.map_append]; rfl, by rw [← e]; simp⟩
    rw [← e, List.length_append, List.length_cons] at hl
    rw [List.length_map]
    omega
  · rintro done acc M' ⟨rfl, rfl, e⟩
    rw [List.append_nil] at e
    rw [e]
    exact q
/-- .. with a test -/
theorem lc_filter {st : Sto → Prop} {step : D → Sto → (Option D → Sto → Prop) → Prop} (f : D → Option D) {ds : List D} {M : Sto} {Q : List D → Sto → Prop} (hst : st M) (hl : ds.length ≤ 100000) (hs : ∀ d ∈ ds, ∀ k : Option D → Sto → Prop, k (f d) M → step d M k) (q : Q (ds.filterMap f) M) : lcI st step ds M Q := by
  refine ⟨fun done todo acc M' => M' = M ∧ acc = done.filterMap f ∧ done ++ todo = ds, ⟨rfl, rfl, rfl⟩, ?_, ?_, ?_⟩
  · rintro done todo acc M' ⟨rfl, _⟩
    exact hst
  · rintro done d todo acc M' ⟨rfl, rfl, e⟩
    refine hs d (by rw [← e]; simp) _ ?_
    have hl2 := List.length_filterMap_le f done
    rw [← e, List.length_append, List.length_cons] at hl
    cases ef : f d with
    | none => exact ⟨rfl, by rw [List.filterMap_append, List.filterMap_cons, ef]; simp, by rw [← e]; simp⟩
    | some y => exact ⟨by omega, rfl, by rw [List.filterMap_append, List.filterMap_cons, ef]; simp, by rw [← e]; simp⟩
  · rintro done acc M' ⟨rfl, rfl, e⟩
    rw [List.append_nil] at e
    rw [e]
    exact q
theorem rng_mid {lo : Int} {n : Nat} {done todo : List D} {d : D} (e : done ++ d :: todo = rng lo n) : d = .int (lo + done.length) ∧ done.length < n := by
  have h : (rng lo n)[done.length]? = some d := by rw [← e, List.getElem?_append_right (Nat.le_refl _)]; simp
  rw [rng_get] at h
  split at h
  · next hl => exact ⟨(Option.some.inj h).symm, hl⟩
  · cases h
theorem rng_length (lo : Int) (n : Nat) : (rng lo n).length = n := by unfold rng; rw [List.length_map, List.length_range]
theorem rng_mem {lo : Int} {n : Nat} {d : D} (h : d ∈ rng lo n) : ∃ i, i < n ∧ d = .int (lo + i) := by
  unfold rng at h
  obtain ⟨i, hi, rfl⟩ := List.mem_map.mp h
  exact ⟨i, List.mem_range.mp hi, rfl⟩
theorem cut_map {α β : Type} (f : α → β) (xs : List α) (lo hi : Option Int) : cut (xs.map f) lo hi = (cut xs lo hi).map f := by
  unfold cut
  rw [List.length_map, List.map_take, List.map_drop]
theorem cut_len {α : Type} (xs : List α) (lo hi : Option Int) : (cut xs lo hi).length ≤ xs.length := by
  unfold cut
  rw [List.length_take, List.length_drop]
  omega
/-- data without places: n bounds the signs of its text, h its depth -/
inductive Sh : Nat → Nat → D → Prop
  | non : Sh 4 0 .non
  | bl (b : Bool) : Sh 5 0 (.bl b)
  | int {i : Int} (h : i.natAbs < 10 ^ 12) : Sh 13 0 (.int i)
  | intB {i : Int} {n : Nat} (h : i.natAbs.log2 < 1920) (hn : (PyData.shown (.int i)).length ≤ n) : Sh n 0 (.int i)
  | str {x : Str} {n : Nat} (h : (reprText x).length ≤ n) : Sh n 0 (.str x)
  | tup {n h m : Nat} {ds : List D} (hd : ∀ d ∈ ds, Sh n h d) (hl : ds.length ≤ m) : Sh (m * (n + 2) + 3) (h + 1) (.tup ds)
  | lst {n h m : Nat} {ds : List D} (hd : ∀ d ∈ ds, Sh n h d) (hl : ds.length ≤ m) : Sh (m * (n + 2) + 3) (h + 1) (.lst ds)
  | up {n h n' h' : Nat} {d : D} (s : Sh n h d) (hn : n ≤ n') (hh : h ≤ h') : Sh n' h' d
structure ShOk (n h : Nat) (d : D) : Prop where
  pu : DL.pu d = true
  showable : (toPy d).showable = true
  depth : (toPy d).depth ≤ h
  len : (toPy d).shown.length ≤ n
theorem shAll {n h : Nat} : ∀ {ds : List D}, (∀ d ∈ ds, ShOk n h d) → DL.pus ds = true ∧ PyData.showableAll (toPys ds) = true ∧ PyData.depthAll (toPys ds) ≤ h ∧ ((PyData.shownAll (toPys ds)).map (·.length)).sum ≤ ds.length * n ∧ (PyData.shownAll (toPys ds)).length = ds.length
  | [], _ => ⟨rfl, rfl, Nat.zero_le _, Nat.zero_le _, rfl⟩
  | d :: ds, hd => by
    obtain ⟨a1, a2, a3, a4⟩ := hd d List.mem_cons_self
    obtain ⟨b1, b2, b3, b4, b5⟩ := shAll (ds := ds) fun x hx => hd x (List.mem_cons_of_mem _ hx)
    refine ⟨?_, ?_, ?_, ?_, ?_⟩
    · show (DL.pu d && DL.pus ds) = true
      rw [a1, b1]; rfl
    · show (PyData.showable (toPy d) && PyData.showableAll (toPys ds)) = true
      rw [a2, b2]; rfl
    · show max (PyData.depth (toPy d)) (PyData.depthAll (toPys ds)) ≤ h
      exact Nat.max_le.mpr ⟨a3, b3⟩
    · show (PyData.shown (toPy d)).length + ((PyData.shownAll (toPys ds)).map (·.length)).sum ≤ (ds.length + 1) * n
      rw [Nat.add_mul]
      omega
    · show (PyData.shownAll (toPys ds)).length + 1 = ds.length + 1
      rw [b5]
theorem Sh.ok' {n h : Nat} {d : D} (s : Sh n h d) : ShOk n h d := by
  induction s with
  | non => exact ⟨rfl, rfl, Nat.le_refl _, by decide +kernel⟩
  | bl b => exact ⟨rfl, rfl, Nat.zero_le _, by cases b <;> decide +kernel⟩
  | @int i h =>
    refine ⟨rfl, ?_, Nat.zero_le _, PyData.shown_int_le h⟩
    show decide _ = true
    refine decide_eq_true ?_
    by_cases h0 : i.natAbs = 0
    · rw [h0]; decide
    · exact Nat.lt_of_lt_of_le ((Nat.log2_lt h0).mpr (Nat.lt_of_lt_of_le h (by decide : 10 ^ 12 ≤ 2 ^ 40))) (by decide)
  | intB h hn => exact ⟨rfl, decide_eq_true h, Nat.zero_le _, hn⟩
  | str h => exact ⟨rfl, rfl, Nat.zero_le _, h⟩
  | @tup n h m ds hd hl ih =>
    obtain ⟨b1, b2, b3, b4, b5⟩ := shAll ih
    refine ⟨b1, b2, Nat.succ_le_succ b3, ?_⟩
    show (tupleText (PyData.shownAll (toPys ds))).length ≤ _
    refine Nat.le_trans (tupleText_len_le _) ?_
    rw [b5, Nat.mul_add]
    have := Nat.mul_le_mul_right n hl
    omega
  | @lst n h m ds hd hl ih =>
    obtain ⟨b1, b2, b3, b4, b5⟩ := shAll ih
    refine ⟨b1, b2, Nat.succ_le_succ b3, ?_⟩
    show (listText (PyData.shownAll (toPys ds))).length ≤ _
    refine Nat.le_trans (listText_len_le _) ?_
    rw [b5, Nat.mul_add]
    have := Nat.mul_le_mul_right n hl
    omega
  | up s hn hh ih => exact ⟨ih.pu, ih.showable, Nat.le_trans ih.depth hh, Nat.le_trans ih.len hn⟩
theorem Sh.vw {n h : Nat} {d : D} (s : Sh n h d) (M : Sto) : DL.vw d M = d := by
  have := s.ok'.pu
  cases d <;> first | rfl | (cases this)
theorem Sh.ok {n h : Nat} {d : D} (s : Sh n h d) (hn : n ≤ 16000000) (hh : h ≤ 60) (M : Sto) : showOk d M := by
  unfold showOk
  rw [s.vw M]
  exact ⟨s.ok'.pu, s.ok'.showable, Nat.le_trans s.ok'.depth hh, Nat.le_trans s.ok'.len (Nat.le_trans hn (by decide))⟩
theorem get_new (M : Sto) (c : Cell) : (M ++ [c])[M.length]? = some c := by rw [List.getElem?_append_right (Nat.le_refl _)]; simp
theorem get_new1 (M : Sto) (a b : Cell) : (M ++ [a] ++ [b])[M.length]? = some a := by rw [List.getElem?_append_left (by simp), get_new]
theorem set_new (M : Sto) (c d : Cell) : (M ++ [c]).set M.length d = M ++ [d] := by rw [List.set_append_right _ _ (Nat.le_refl _)]; simp
theorem set_new1 (M : Sto) (a b d : Cell) : (M ++ [a] ++ [b]).set M.length d = M ++ [d] ++ [b] := by rw [List.set_append_left _ _ (by simp), set_new]
theorem atI_back {α : Type} (xs : List α) (x : α) : atI (xs ++ [x]) (-1) = some x := atI_last xs x
theorem atI_back2 {α : Type} (xs : List α) (x y : α) : atI (xs ++ [x] ++ [y]) (-2) = some x := by
  unfold atI ixN
  rw [if_neg (by omega), if_pos (by simp; omega)]
  have e : (-2 + ((xs ++ [x] ++ [y]).length : Int)).toNat = xs.length := by simp; omega
  show (xs ++ [x] ++ [y])[(-2 + ((xs ++ [x] ++ [y]).length : Int)).toNat]? = some x
  rw [e, List.getElem?_append_left (by simp), List.getElem?_append_right (Nat.le_refl _)]
  simp
theorem fm_range {α : Type} (xs : List α) : ∀ m : Nat, (List.range m).filterMap (xs[·]?) = xs.take m
  | 0 => by simp
  | m + 1 => by
    rw [List.range_succ, List.filterMap_append, fm_range xs m, List.take_add_one]
    congr 1
/-- [-2::-1] of a list that isn't empty: all but the last, backwards -/
theorem pick_back2 {α : Type} (xs : List α) (h : xs ≠ []) : pick xs (some (-2)) none (some (-1)) = xs.dropLast.reverse := by
  have hn : 0 < xs.length := List.length_pos_iff.mpr h
  unfold pick
  have hb : sliceBounds (some (-2)) none (some (-1)) xs.length = ((xs.length : Int) - 2, -1, -1) := by
    unfold sliceBounds
    simp only [Option.getD_some]
    rw [if_neg (by decide), if_pos (by decide), if_neg (by decide)]
    refine Prod.ext ?_ rfl
    show max (-1) (min (-2 + (xs.length : Int)) ((xs.length : Int) - 1)) = (xs.length : Int) - 2
    omega
  rw [hb]
  have hr : sliceRange ((xs.length : Int) - 2) (-1) (-1) = (List.range (xs.length - 1)).map fun k => xs.length - 1 - 1 - k := by
    have := PySem.W.krv_sliceRange (xs.length - 1)
    rw [← this]
    congr 1
    omega
  show (sliceRange ((xs.length : Int) - 2) (-1) (-1)).filterMap (xs[·]?) = _
  rw [hr, PySem.W.krv_range, List.filterMap_reverse]
  rw [List.dropLast_eq_take, fm_range]
theorem len_snoc (M : Sto) (c : Cell) : (M ++ [c]).length = M.length + 1 := by simp
theorem get_newS (M : Sto) (a b : Cell) : (M ++ [a] ++ [b])[M.length + 1]? = some b := by rw [← len_snoc M a, get_new]
theorem set_newS (M : Sto) (a b d : Cell) : (M ++ [a] ++ [b]).set (M.length + 1) d = M ++ [a] ++ [d] := by rw [← len_snoc M a, set_new]
theorem See.drop2 {Q : DK} {d : D} {M : Sto} {a b : Cell} (hd : bel M.length d = true) (hb : stoBel M.length M) (h : Q d M) : See M.length Q d (M ++ [a] ++ [b]) := by
  rw [List.append_assoc]
  exact See.drop hd hb h
theorem bels_of {n : Nat} : ∀ {ds : List D}, (∀ d ∈ ds, bel n d = true) → bels n ds = true
  | [], _ => rfl
  | d :: ds, h => by
    show (bel n d && bels n ds) = true
    rw [h d List.mem_cons_self, bels_of fun x hx => h x (List.mem_cons_of_mem _ hx)]
    rfl
theorem two_back {α : Type} {xs : List α} (h : 1 < xs.length) : ∃ r x y, xs = r ++ [x] ++ [y] := by
  have h0 : xs ≠ [] := by intro e; rw [e] at h; simp at h
  have h1 : xs.dropLast ≠ [] := by
    intro e
    have := congrArg List.length e
    rw [List.length_dropLast] at this
    simp at this
    omega
  exact ⟨xs.dropLast.dropLast, xs.dropLast.getLast h1, xs.getLast h0, by rw [List.dropLast_concat_getLast, List.dropLast_concat_getLast]⟩
theorem rng_two : rng 0 2 = [.int 0, .int 1] := rfl
/-- all but the tables (ahead of the law) -/
def offT (H : Hp) : Hp := fun b => match H b with
  | some (.tbl _) => none
  | o => o
theorem offT_of {H : Hp} {b : Addr} {o : HO} (h : offT H b = some o) : H b = some o := by
  unfold offT at h
  split at h
  · cases h
  · exact h
theorem offT_eq {H : Hp} {b : Addr} {o : HO} (h : H b = some o) (n : ∀ ps, o ≠ .tbl ps) : offT H b = some o := by
  unfold offT
  rw [h]
  cases o <;> first | rfl | exact (n _ rfl).elim
theorem scr_start {K : PySem.W.Frag} {H : Hp} {a : Addr} {ns : List Int} {ds : DSp} {E : XK} (hT : ∀ p ∈ Tk K, H p.1 = some (.tbl #[])) (hS : SqL K H a (ns.map V.int)) (h : ∀ Q : DK, (∀ M, Q (.bl true) M) → ∀ E', ds [.scr ns] [] Q E') : spOf K ds [.ref a] H (fun v _ => v = .bl true) E := by
  have hS' : SqL K (offT H) a (ns.map V.int) := by
    rcases hS with (h | ⟨o, h⟩) | h
    · exact .inl (.inl (offT_eq h fun _ z => by cases z))
    · exact .inl (.inr ⟨o, offT_eq h fun _ z => by cases z⟩)
    · exact .inr h
  refine ⟨[.scr ns], [], [], offT H, fun _ => none, ⟨fun _ _ e => offT_of e, (fun _ _ e => by cases e), (fun _ _ e => by cases e), rfl, List.nodup_nil, (fun _ h => (List.not_mem_nil h).elim), (fun n c a e _ => by simp at e), fun p hp => ⟨⟨#[], hT p hp, trivial, fun pos cv hc => ?_⟩, ?_, rfl, List.not_mem_nil⟩⟩, .cons (.scr hS') .nil, h _ (fun M al' F' H' v _ _ r => by cases r; rfl) _⟩
  · have z : codeAmong pos [] = some cv := hc
    simp [codeAmong] at z
  · unfold offT
    rw [hT p hp]
theorem lc_rng {st : Sto → Prop} {step : D → Sto → (Option D → Sto → Prop) → Prop} (f : Nat → D) {n : Nat} {M : Sto} {Q : List D → Sto → Prop} (hst : st M) (hn : n ≤ 100000) (hs : ∀ j : Nat, j < n → ∀ k : Option D → Sto → Prop, k (some (f j)) M → step (.int (j : Int)) M k) (q : Q ((List.range n).map f) M) : lcI st step (rng 0 n) M Q := by
  refine lc_map (fun d => match d with | .int z => f z.toNat | d => d) hst (by rw [rng_length]; exact hn) (fun d hd kk hk => ?_) ?_
  · obtain ⟨j, hj, rfl⟩ := rng_mem hd
    have e : (0 + (j : Int)).toNat = j := by omega
    rw [Int.zero_add]
    have hk' : kk (some (f (0 + (j : Int)).toNat)) M := hk
    rw [e] at hk'
    exact hs j hj kk hk'
  · have e : (rng 0 n).map (fun d => match d with | .int z => f z.toNat | d => d) = (List.range n).map f := by
      unfold rng
      rw [List.map_map]
      apply List.map_congr_left
      intro j _
      show f (0 + (j : Int)).toNat = f j
      rw [show (0 + (j : Int)).toNat = j by omega]
    rw [e]
    exact q
end DL
namespace DL
open PySem PySem.Spec PyProof.Rows L2
/-- the tuple at a, each item in a new pair with its count -/
def IteT (K : PySem.W.Frag) (a : Addr) (k : Int) : It :=
  ⟨fun i H => ∃ (xs : List V) (x : V), SqT K H a xs ∧ xs[i]? = some x,
    fun i H v H' => ∃ T x, v = .ref T ∧ H T = none ∧ H' = upd H T (.tup [.int (k + (i : Int)), x]) ∧ ∀ xs, SqT K H a xs → xs[i]? = some x,
    fun i H => ∃ xs : List V, SqT K H a xs ∧ xs.length ≤ i⟩
theorem turn_enumT {P : Program} {w : World} {K : PySem.W.Frag} {elts : List Expr} {kk : Nat} {tpos : Pos} (a e it : Addr) (k : Int) :
    Turn P w K (.Tuple elts kk tpos) (IteT K a k) [e, it] e (fun i h => (∃ old, IsEnum h e it (k + (i : Int)) old) ∧ h.IsTupleIter it a i ∧ e ≠ it ∧ a ≠ it ∧ a ≠ e) where
  mem := by simp
  obj := fun i h ⟨⟨old, he⟩, ⟨o, ho, hc, hd⟩, _⟩ b hb => by
    rcases List.mem_cons.mp hb with z | z
    · exact z ▸ ⟨_, he, fun v q => nomatch q⟩
    · rw [List.mem_singleton.mp z]; exact ⟨o, ho, fun v q => by rw [hd] at q; cases q⟩
  keep := fun i h h' ⟨⟨old, he⟩, hi, hne⟩ kp => ⟨⟨old, kp e (by simp) _ he⟩, hi.at fun o q => kp it (by simp) o q, hne⟩
  item := by
    intro X hP hw hK hc i pins s σ H E I hf ⟨⟨old, he⟩, hit, hne, hai, hae⟩ ⟨xs, x, hq, hx⟩
    subst hP hw hK
    obtain ⟨its, rv, p, hz⟩ := I.tuple hq
    obtain ⟨u, hu, ru⟩ := rv.get hx
    have p' : s.heap.IsTuple a its.toArray := p
    have hel : e < s.heap.objs.size := Heap.lt_size he
    have hil : it < s.heap.objs.size := by
      obtain ⟨_, q, _⟩ := hit
      exact Heap.lt_size q
    have hlt : i < its.toArray.size := by
      obtain ⟨h1, _⟩ := List.getElem?_eq_some_iff.mp hu
      simpa using h1
    refine wpAny_pyNext_enum_itemC (Draws.tuple (A := X.A.in1) (I.ok.hd hc) it a hai its.toArray) he ⟨hit, p'⟩ hlt hne (by simp [hne, Ne.symm hae]) fun y h' tk hy ho ⟨hit', _⟩ hT hsz hk => ?_
    have hyu : y = u := by
      have h1 : its.toArray[i]? = some u := by simpa using hu
      rw [h1] at hy
      exact (Option.some.inj hy).symm
    subst hyu
    refine ⟨_, rfl, wpAny_letOwnedTupleGo_enum (s := { s with heap := h', toks := tk + 1 }) ho fun h'' he' sb => ?_⟩
    have hT2 : h''.get? s.heap.objs.size = some { cls := .type "tuple", data := .seq #[.int (k + (i : Int)) tk, y] } := (sb.2 _ (Nat.ne_of_gt hel)).trans hT
    have I1 : Inv X pins σ (upd H s.heap.objs.size (.tup [.int (k + (i : Int)), x])) { s with heap := h'', toks := tk + 1 } :=
      I.turnedNew (ch := [e, it]) (fun b ob hb q => by
        have hb1 : b ≠ e := fun z => hb (by simp [z])
        have hb2 : b ≠ it := fun z => hb (by simp [z])
        exact (sb.2 b hb1).trans (hk b ob hb1 hb2 q)) hf (Nat.le_refl _) ⟨by show 2 ≤ sizeLine; decide, [.int (k + (i : Int)) tk, y], .cons ⟨_, rfl⟩ (.cons ru .nil), ⟨_, hT2, rfl, _, rfl⟩⟩
    refine ⟨.ref s.heap.objs.size, _, I1, rfl, ⟨_, x, rfl, I.hok.fresh (Nat.le_refl _), rfl, fun ys hy => by rw [I.tuple_inj hy hq]; exact hx⟩, ⟨⟨y, ?_⟩, hit'.at fun o q => (sb.2 it (Ne.symm hne)).trans q, hne, hai, hae⟩, fun b hb => ?_⟩
    · rw [show k + ((i + 1 : Nat) : Int) = k + (i : Int) + 1 by omega]
      exact he'
    · have hb' : b < s.heap.objs.size := by
        rcases List.mem_cons.mp hb with z | z
        · exact z ▸ hel
        · rw [List.mem_singleton.mp z]; exact hil
      rw [upd_ne (Nat.ne_of_lt hb')]
      exact (hf b hb).1
  done := by
    intro X hP hw hK hc i pins s σ H E I hf ⟨⟨old, he⟩, hit, hne, hai, hae⟩ ⟨xs, hq, hx⟩
    subst hP hw hK
    obtain ⟨its, rv, p, hz⟩ := I.tuple hq
    obtain ⟨f0, f1, f2, f3, f4, f5⟩ := hf it (by simp)
    have hl := rv.length
    have hT : s.TypeIs (.ref e) "enumerate" := ⟨_, he, rfl⟩
    unfold pyNext
    refine wpAny_bind (wpAny_attempt (wpAny_callSpecial?_slot (name := Str.ofString "__next__") hT F.slot_enumerate_next (wpAny_call_entry F.slot_enumerate_next hT F.entry_enumerate_next ?_ (F.args_enumerate_next_1 _))))
    show wpAny _ _ (field (.ref e) 2 >>= _) _ _ _
    refine wpAny_bind (wpAny_field he rfl (x := .ref it) rfl (wpAny_bind (wpAny_nextOf_tuple_end (I.ok.hd hc) hit (show s.heap.IsTuple a its.toArray from p) (by simp; omega) fun h' x he' hx' => ?_)))
    obtain ⟨o, ho, hcc⟩ := hx'
    refine wpAny_bind (wpAny_isInstance (T := "StopIteration") (b := true) ⟨o, ho, hcc⟩ isSubtype_stop (wpAny_pure ⟨rfl, ?_⟩))
    exact I.turned (t' := s.toks) (fun b o hb q => he' b o hb q) f0 f1 f3 f4 f5
  self := fun A i s Q E ⟨⟨_, he⟩, _⟩ h => wpAny_pyIter_enum he h
set_option maxHeartbeats 1000000 in
theorem meets_enum1 {v : Value} {o : Obj} {H : Heap → Prop} (B : Begins v o H) :
    Meets (Builtin.«enumerate.__new__» ⟨[.type "enumerate", v], []⟩) (fun _ R s => H s.heap ∧
      R (.ok (.ret (.ref (s.heap.push o).objs.size))) { s with heap := (s.heap.push o).push { cls := .type "enumerate", data := .fields #[.none, .bool false, .ref s.heap.objs.size, rawInt 0, .none, .none] } }) :=
  .of_wp fun prog w A R s h => by
    obtain ⟨hp, g, d, tk, os⟩ := s
    obtain ⟨h1, h⟩ := h
    have hsub := sub_enumerate
    have q1 : ∀ {A' : Around} {E : Value → Shared → Prop} {Q : Value → Shared → Prop}, Q (.ref hp.objs.size) ⟨hp.push o, g, d, tk, os⟩ → wpAny (model prog w) A' (pyIter v) Q E ⟨hp, g, d, tk, os⟩ := fun q => B.iter prog w _ _ ⟨hp, g, d, tk, os⟩ _ h1 q
    wp_walk using q1
    refine wpAny_stack_any fun st => wpAny_pure ?_
    split
    · rename_i c _ _ _ _ _
      cases (c == Value.type "enumerate") <;> (wp_walk using q1; exact ⟨_, rfl, h⟩)
    · wp_walk using q1
      exact ⟨_, rfl, h⟩
theorem enum1_begins {prog : Program} {w : World} {A : Around} {E : Value → Shared → Prop} {s : Shared} {v : Value} {o : Obj} {H : Heap → Prop} {Q : Value → Shared → Prop} (B : Begins v o H) (h1 : H s.heap)
    (h : ∀ h', IsEnum h' (s.heap.objs.size + 1) s.heap.objs.size 0 .none → h'.get? s.heap.objs.size = some o → (∀ b o, s.heap.get? b = some o → h'.get? b = some o) → Q (.ref (s.heap.objs.size + 1)) { s with heap := h' }) :
    wpAny (model prog w) A (call (.type "enumerate") [v]) Q E s := by
  refine callType_new F.called_enumerate (by decide) (F.typeCall_enumerate_1 _) (F.newCall_enumerate_1 _) (fun obj => F.args_object_init_2 obj _) F.entry_enumerate_new (meets_enum1 B) ⟨h1, ?_⟩
  have hz : (s.heap.push o).objs.size = s.heap.objs.size + 1 := Heap.size_push ..
  show _ ∧ _
  rw [hz]
  have he := Heap.get?_push_size (s.heap.push o) (o := { cls := .type "enumerate", data := .fields #[.none, .bool false, .ref s.heap.objs.size, rawInt 0, .none, .none] }) rfl
  rw [hz] at he
  exact ⟨⟨_, he, rfl⟩, h _ he (Heap.get?_push_of_some _ (Heap.get?_push_size _ B.free)) fun b o x => Heap.get?_push_of_some _ (Heap.get?_push_of_some _ x)⟩
def enumD (k : Int) (xs : List D) : List D := xs.mapIdx fun i x => D.tup [.int (k + (i : Int)), x]
theorem enumD_length {k : Int} {xs : List D} : (enumD k xs).length = xs.length := by unfold enumD; simp
theorem enumD_get {k : Int} {xs : List D} {i : Nat} {d : D} (h : (enumD k xs)[i]? = some d) : ∃ x, xs[i]? = some x ∧ d = .tup [.int (k + (i : Int)), x] := by
  unfold enumD at h
  rw [List.getElem?_mapIdx] at h
  cases e : xs[i]? with
  | none => rw [e] at h; cases h
  | some x => rw [e] at h; cases h; exact ⟨x, rfl, rfl⟩
section
variable {X : Cx} {a b : Expr} {fr : DTA} {pos : Pos}
theorem iteT_ok {K : PySem.W.Frag} {al : List Addr} {F G : Hp} {p : Addr} {ds : List D} {xs : List V} {st : Sto → Prop} {k : Int} (h : Rd F p (.tup xs)) (rs : Rps K F al xs ds) : ItOk K (IteT K p k) (enumD k ds) st al F G := by
  intro al' F' G' H' M' e sg W hst i
  have hx := W.sm.rd (e.sm.rd h)
  have rs := rs.ext e
  refine ⟨fun d hd => ?_, fun hl => ⟨xs, sqR hx, by rw [rs.length]; rw [enumD_length] at hl; exact hl⟩⟩
  obtain ⟨x, hx1, rfl⟩ := enumD_get hd
  obtain ⟨v, h1, h2⟩ := rs.get hx1
  refine ⟨⟨xs, v, sqR hx, h1⟩, fun z H'' hy => ?_⟩
  obtain ⟨T, u, rfl, nT, rfl, f⟩ := hy
  have q2 := it_of rs hx1 (f _ (sqR hx))
  obtain ⟨W1, e1⟩ := W.newF (o := .tup [.int (k + (i : Int)), u]) nT
  exact ⟨_, e1.sm, W1, .tup (.inl upd_same) (.cons (.int _) (.cons (q2.ext e1) .nil))⟩
theorem ite_ok {K : PySem.W.Frag} {al : List Addr} {F G : Hp} {p : Addr} {ds : List D} {st : Sto → Prop} (h : ∀ al' F' G' H' M', Ext al F al' F' → Sm G G' → Wd K al' F' G' H' M' → st M' → ∃ xs, H' p = some (.lst xs) ∧ Rps K F' al' xs ds) : ItOk K (Ite K p) (enumD 0 ds) st al F G := by
  intro al' F' G' H' M' e sg W hst i
  obtain ⟨xs, hx, rs⟩ := h al' F' G' H' M' e sg W hst
  refine ⟨fun d hd => ?_, fun hl => ⟨xs, SqL.of hx, by rw [rs.length]; rw [enumD_length] at hl; exact hl⟩⟩
  obtain ⟨x, hx1, rfl⟩ := enumD_get hd
  obtain ⟨v, h1, h2⟩ := rs.get hx1
  refine ⟨⟨xs, v, SqL.of hx, h1⟩, fun z H'' hy => ?_⟩
  obtain ⟨T, u, rfl, nT, rfl, f⟩ := hy
  have q2 := it_of rs hx1 (f _ (SqL.of hx))
  obtain ⟨W1, e1⟩ := W.newF (o := .tup [.int ((i : Nat) : Int), u]) nT
  refine ⟨_, e1.sm, W1, .tup (.inl upd_same) (.cons ?_ (.cons (q2.ext e1) .nil))⟩
  rw [Int.zero_add]
  exact .int _
@[reducible] def diEnum (fr : DTA) : DTI := fun ρ M R => fr ρ M fun ds M1 => match ds with
  | [.tup xs] => R (enumD 0 xs) stYes M1
  | [.lst xs] => R (enumD 0 xs) stYes M1
  | _ => False
theorem di_enum {p tpos : Pos} {elts : List Expr} {kk : Nat} (hg : Gl X "enumerate") (hm : X.mg "enumerate" = none) (h : DA X [a] fr) (hs : starEach [a] X.env = [(false, eval a X.env)] := by rfl) :
    DI X (.Tuple elts kk tpos) (.Call (.Name "enumerate" p) [a] [] pos) (diEnum fr) := by
  refine ⟨⟨fun pins s σ H R I q => ?_⟩, fun ρ M Q Q' w q => h.mono _ _ _ _ (fun ds M1 q1 => ?_) q⟩
  · obtain ⟨ρ, M, al, F, G, W, es, q⟩ := q
    have hl : LiftA X fr σ H (fun vs H1 => ∃ p, vs = [.ref p] ∧ ((∃ xs, SqL X.K H1 p xs ∧ R (Ite X.K p) H1) ∨ (∃ xs, SqT X.K H1 p xs ∧ R (IteT X.K p 0) H1))) := h.seq W es q fun ds M1 al1 F1 H1 vs q1 e1 W1 r1 s1 => by
      split at q1
      · cases r1 with
        | cons a1 b1 =>
          cases b1
          cases a1 with
          | tup c1 d1 => exact ⟨_, rfl, .inr ⟨_, (W1.sm.sq c1), q1 al1 F1 H1 _ e1 W1 (iteT_ok c1 d1)⟩⟩
      · cases r1 with
        | cons a1 b1 =>
          cases b1
          cases a1 with
          | lst c1 d1 => exact ⟨_, rfl, .inl ⟨_, SqL.of (W1.sm _ _ c1), q1 al1 F1 H1 _ e1 W1 (ite_ok fun al' F' G' H' M' e sg W' _ => ⟨_, W'.sm _ _ (e.sm _ _ c1), d1.ext e⟩)⟩⟩
      · exact q1.elim
    refine Call_ (ld_blt I hg hm boot_enumerate (PyProof.Rows.callWith_type1 (thn (h.pa.run pos pins s σ H _ I hl) fun us s1 ⟨vs, H1, I1, r1, q1⟩ => ?_) hs rfl))
    obtain ⟨a, rfl, q1⟩ := q1
    cases r1 with
    | cons r rr =>
      cases rr
      cases r
      have go : ∀ b ∈ [s1.heap.objs.size + 1, s1.heap.objs.size], s1.heap.objs.size ≤ b := fun b hb => by
        have e' : b = s1.heap.objs.size + 1 ∨ b = s1.heap.objs.size := by simpa using hb
        omega
      rcases q1 with ⟨xs, hq, q⟩ | ⟨xs, hq, q⟩
      · obtain ⟨its, rv, p', hz⟩ := I1.list hq
        refine call_enumerate_list p'.isList fun h' he hit hsz hk => wpAny_pyIter_enum he ?_
        exact ⟨_, [s1.heap.objs.size + 1, s1.heap.objs.size], _, _, H1, rfl, I1.kept (t' := s1.toks) hk, turn_enum a _ s1.heap.objs.size, ⟨⟨.none, he⟩, hit, Nat.succ_ne_self _⟩, fun b hb => I1.fpOk (go b hb) (I1.hok.fresh (go b hb)), q⟩
      · obtain ⟨its, rv, p', hz⟩ := I1.tuple hq
        have p2 : s1.heap.IsTuple a its.toArray := p'
        have hal : a < s1.heap.objs.size := by
          obtain ⟨o, ho, _⟩ := p2
          exact Heap.lt_size ho
        refine enum1_begins (begins_tuple a its.toArray) p2 fun h' he hit hk => wpAny_pyIter_enum he ?_
        exact ⟨_, [s1.heap.objs.size + 1, s1.heap.objs.size], _, _, H1, rfl, I1.kept (t' := s1.toks) hk, turn_enumT a _ s1.heap.objs.size 0, ⟨⟨.none, he⟩, ⟨_, hit, rfl, rfl⟩, Nat.succ_ne_self _, Nat.ne_of_lt hal, Nat.ne_of_lt (Nat.lt_succ_of_lt hal)⟩, fun b hb => I1.fpOk (go b hb) (I1.hok.fresh (go b hb)), q⟩
  · try dsimp only at q1 ⊢
    split at q1
    · exact w _ _ _ q1
    · exact w _ _ _ q1
    · exact q1.elim
@[reducible] def diEnum2 (fr : DTA) : DTI := fun ρ M R => fr ρ M fun ds M1 => match ds with
  | [.tup xs, .int k] => (-(2 ^ 62) ≤ k ∧ k < 2 ^ 62) ∧ R (enumD k xs) stYes M1
  | _ => False
theorem di_enum2 {p tpos : Pos} {elts : List Expr} {kk : Nat} (hg : Gl X "enumerate") (hm : X.mg "enumerate" = none) (h : DA X [a, b] fr) (hs : starEach [a, b] X.env = [(false, eval a X.env), (false, eval b X.env)] := by rfl) (hs2 : starEach [b] X.env = [(false, eval b X.env)] := by rfl) :
    DI X (.Tuple elts kk tpos) (.Call (.Name "enumerate" p) [a, b] [] pos) (diEnum2 fr) := by
  refine ⟨⟨fun pins s σ H R I q => ?_⟩, fun ρ M Q Q' w q => h.mono _ _ _ _ (fun ds M1 q1 => ?_) q⟩
  · obtain ⟨ρ, M, al, F, G, W, es, q⟩ := q
    have hl : LiftA X fr σ H (fun vs H1 => ∃ p k xs, vs = [.ref p, .int k] ∧ (-(2 ^ 62) ≤ k ∧ k < 2 ^ 62) ∧ SqT X.K H1 p xs ∧ R (IteT X.K p k) H1) := h.seq W es q fun ds M1 al1 F1 H1 vs q1 e1 W1 r1 s1 => by
      split at q1
      · cases r1 with
        | cons a1 b1 =>
          cases b1 with
          | cons a2 b2 =>
            cases b2
            cases a2
            cases a1 with
            | tup c1 d1 => exact ⟨_, _, _, rfl, q1.1, (W1.sm.sq c1), q1.2 al1 F1 H1 _ e1 W1 (iteT_ok c1 d1)⟩
      · exact q1.elim
    refine Call_ (ld_blt I hg hm boot_enumerate (PyProof.Rows.callWith_type1 (thn (h.pa.run pos pins s σ H _ I hl) fun us s1 ⟨vs, H1, I1, r1, q1⟩ => ?_) (by rw [hs, hs2]) (by rw [hs2]; rfl)))
    obtain ⟨a, k, xs, rfl, hk1, hq, q⟩ := q1
    cases r1 with
    | cons r rr =>
      cases rr with
      | cons r' rr =>
        cases rr
        cases r
        obtain ⟨t, rfl⟩ := r'
        have go : ∀ b ∈ [s1.heap.objs.size + 1, s1.heap.objs.size], s1.heap.objs.size ≤ b := fun b hb => by
          have e' : b = s1.heap.objs.size + 1 ∨ b = s1.heap.objs.size := by simpa using hb
          omega
        obtain ⟨its, rv, p', hz⟩ := I1.tuple hq
        have p2 : s1.heap.IsTuple a its.toArray := p'
        have hal : a < s1.heap.objs.size := by
          obtain ⟨o, ho, _⟩ := p2
          exact Heap.lt_size ho
        refine enum_begins (begins_tuple a its.toArray) p2 (by omega) (by omega) fun h' he hit hsz hk => wpAny_pyIter_enum he ?_
        refine ⟨_, [s1.heap.objs.size + 1, s1.heap.objs.size], _, _, H1, rfl, I1.kept (t' := s1.toks) hk, turn_enumT a _ s1.heap.objs.size k, ⟨⟨.none, ?_⟩, ⟨_, hit, rfl, rfl⟩, Nat.succ_ne_self _, Nat.ne_of_lt hal, Nat.ne_of_lt (Nat.lt_succ_of_lt hal)⟩, fun b hb => I1.fpOk (go b hb) (I1.hok.fresh (go b hb)), q⟩
        rw [show k + ((0 : Nat) : Int) = k by omega]
        exact he
  · try dsimp only at q1 ⊢
    split at q1
    · exact ⟨q1.1, w _ _ _ q1.2⟩
    · exact q1.elim
end
end DL
set_option maxHeartbeats 1000000
namespace DL
open PySem PySem.Spec PyProof.Rows L2
open PySem.AutoSeq1 (wpAny_loadPart')
theorem tuple_once (l : Addr) (items : Array Value) (n : Nat) (dd : Option Addr) (sl : Array (Option Value)) (u : Tok) :
    Meets (Builtin.«tuple.__mul__» ⟨[.ref l, .int 1 u], []⟩) (fun _ R s => s.heap.get? l = some { cls := .type "tuple", dict := dd, data := .seq items n, slots := sl } ∧ R (.ok (.ret (Value.ref l))) s) :=
  .of_wp fun prog w A R s ⟨hl, h⟩ => by
    obtain ⟨hp, g, d, tk, os⟩ := s
    have f1 := AutoSeq1.idx_int
    have c1 : (items.isEmpty || (1 : Int) == 1) = true := by simp
    wp_walk using wpAny_loadPart' hl
    exact ⟨_, rfl, h⟩
def rOnce (K : PySem.W.Frag) : R2 := fun x y H Q => ∃ l xs, x = .ref l ∧ y = .int 1 ∧ SqT K H l xs ∧ Q (.ref l) H
section
variable {X : Cx} {a b c : Expr} {fa fb fc : DTE} {pos : Pos} {ta tb : DTT} {es : List Expr} {fr : DTA}
theorem op_once : OpR X (binaryOp .Mult) (rOnce X.K) := by
  intro pins s σ H x y v u Q I rx ry ⟨l, xs, ex, ey, hT, q⟩
  subst ex ey
  cases rx
  obtain ⟨t, rfl⟩ := ry
  obtain ⟨its, r, ⟨⟨cls, dd, data, sl⟩, ho, hc, n, hd⟩, hs⟩ := I.tuple hT
  simp only at hc hd
  subst hc hd
  refine wpAny_binaryOp_repeat_ref (T := "tuple") (U := "int") (by decide) ⟨_, ho, rfl⟩ (fun s' => typeIs_int s' 1 t) noFill_tuple_mul F.fills_int_mul F.slot_int_rmul repeat_tuple F.slot_int_index.lookup (call_meets F.slot_int_rmul (typeIs_int s 1 t) F.entry_int_rmul (F.args_int_rmul_2 _ _) (int_rmul_tuple 1 t l its.toArray n dd sl) ⟨ho, rfl, ⟨_, ho, rfl⟩, ?_⟩)
  exact call_meets F.slot_tuple_mul ⟨_, ho, rfl⟩ F.entry_tuple_mul (F.args_tuple_mul_2 _ _) (tuple_once l its.toArray n dd sl t) ⟨ho, ⟨.ref l, H, I, rfl, q⟩⟩
/-- * : a tuple once, too -/
@[reducible] def gMulA : G2 := fun x y M Q => match x, y with
  | .int i, .int j => CMul i j ∧ Q (.int (i * j)) M
  | .tup ds, .int k => ds ≠ [] ∧ 1 ≤ k ∧ k ≤ 1000 ∧ ds.length ≤ 1000 ∧ Q (.tup (List.replicate k.toNat ds).flatten) M
  | x, .int k => match seqOf x M with
    | some ds => 0 ≤ k ∧ k < 100000 ∧ ds.length * k.toNat ≤ 100000 ∧ Q (.lst (List.replicate k.toNat ds).flatten) M
    | none => False
  | _, _ => False
theorem gMulA_mono : Mono2 gMulA := fun x y M Q Q' w q => by
  unfold gMulA at q ⊢
  split at q
  · exact ⟨q.1, w _ _ q.2⟩
  · exact ⟨q.1, q.2.1, q.2.2.1, q.2.2.2.1, w _ _ q.2.2.2.2⟩
  · split at q
    · exact ⟨q.1, q.2.1, q.2.2.1, w _ _ q.2.2.2⟩
    · exact q.elim
  · exact q.elim
theorem o_mulA : O2 X (binaryOp .Mult) gMulA := O2.of (OpR.or op_once (OpR.or op_mul (OpR.or op_repT op_rep))) gMulA_mono fun al F G H M x y dx dy Q W r1 r2 q => by
  unfold gMulA at q
  split at q
  · cases r1; cases r2
    exact .inr (.inl ⟨_, _, rfl, rfl, q.1, kont.here q.2 W (.int _)⟩)
  · cases r2
    cases r1 with
    | tup a1 b1 =>
      have l1 := b1.length
      rename_i ds1 k xs1 p1
      by_cases hk : k = 1
      · subst hk
        refine .inl ⟨_, _, rfl, rfl, (W.sm.sq a1), kont.here q.2.2.2.2 W ?_⟩
        have e : (List.replicate (1 : Int).toNat ds1).flatten = ds1 := by simp
        rw [e]
        exact .tup a1 b1
      · refine .inr (.inr (.inl ⟨_, _, _, rfl, rfl, (W.sm.sq a1), fun z => ?_, by omega, q.2.2.1, by have := q.2.2.2.1; omega, fun p hp => kont.tup q.2.2.2.2 W (b1.rep _) hp⟩))
        subst z
        cases b1
        exact q.1 rfl
  · cases r2
    split at q
    · next e =>
      obtain ⟨p1, xs1, rfl, h1, s1⟩ := seqOf_ok W r1 e
      have l1 := s1.length
      exact .inr (.inr (.inr ⟨_, _, _, rfl, rfl, h1, by have := q.1; omega, by have := q.2.1; omega, le_line (by rw [l1]; exact q.2.2.1), fun p hp => kont.lst q.2.2.2 W (s1.rep _) hp⟩))
    · exact q.elim
  · exact q.elim
/-- o.extend(e) of a list of the store, by a list that nobody changes -/
@[reducible] def dExt (fo : DTE) (fr : DTA) : DTE := fun ρ M Q => fo ρ M fun o M1 => match o with
  | .ref n => isCell M1 n ∧ fr ρ M1 fun ys M2 => match M2[n]?, ys with
    | some (.lst ds), [.lst zs] => ds.length + zs.length ≤ 100000 ∧ Q .non (M2.set n (.lst (ds ++ zs)))
    | _, _ => False
  | _ => False
theorem d_extend {o e : Expr} {fo : DTE} {apos cpos : Pos} (ho : DE X o fo) (hr : DA X [e] fr) (hb : attributeBase o "extend" X.env (eval o X.env) = eval o X.env := by rfl)
    (h2 : ((backTo cpos (starEach [e] X.env)).all (fun x => !x.1) && (backToKw cpos (keywordEach [] X.env)).all (fun x => x.1.isSome) && decide ([e].length + ([] : List Keyword).length + (if ([] : List Keyword).isEmpty = true then 0 else 1) < 30)) = true := by rfl)
    (h3 : (apos.endLine == cpos.line) = true := by rfl) (h4 : starEach [e] X.env = (false, eval e X.env) :: starEach [] X.env := by rfl) (h5 : (backTo cpos (starEach [] X.env)).any (·.1) = false := by rfl) :
    DE X (.Call (.Attribute o "extend" apos) [e] [] cpos) (dExt fo fr) := by
  refine ⟨PE.of (pe_bm PySem.F.plainAttrs_list PySem.F.slot_list_extend PySem.F.type_list_extend mt_extend ho.pe hr.pa hb h2 h3 h4 h5) fun σ H Q ⟨ρ, M, al, F, G, W, s, q⟩ => ?_, fun ρ M Q Q' w q => ho.mono _ _ _ _ (fun d M1 q1 => ?_) q⟩
  · refine ho.seq W s q fun d M1 al1 F1 H1 v q1 e1 W1 r1 s1 => ?_
    cases d <;> first | exact q1.elim | skip
    obtain ⟨ds, e⟩ := q1.1.ex
    obtain ⟨p, xs, rfl, hp, hx, rs⟩ := cell_ok W1 r1 e
    refine ⟨.inl ⟨rfl, xs, SqL.of hx⟩, hr.seq W1 s1 q1.2 fun ys M2 al2 F2 H2 us q2 e2 W2 r2 s2 => ?_⟩
    try dsimp only at q2
    split at q2
    · next ds2 zs c2 =>
      obtain ⟨p2, xs2, z, hp2, hx2, rs2⟩ := cell_ok W2 (r1.ext e2) c2
      cases z
      cases r2 with
      | cons a1 b1 =>
        cases b1
        cases a1 with
        | lst c1 d1 =>
          have l1 := rs2.length
          have l2 := d1.length
          exact ⟨_, _, _, _, rfl, rfl, hx2, W2.sm _ _ c1, le_line (by rw [l1, l2]; exact q2.1), q2.2 al2 F2 _ _ (e1.trans e2) (W2.write hp2 ⟨_, upd_same, rs2.append d1⟩) .non⟩
    · exact q2.elim
  · cases d <;> first | exact q1.elim | skip
    refine ⟨q1.1, hr.mono _ _ _ _ (fun ys M2 q2 => ?_) q1.2⟩
    try dsimp only at q2 ⊢
    split at q2
    · exact ⟨q2.1, w _ _ q2.2⟩
    · exact q2.elim
end
end DL
set_option maxHeartbeats 1000000
namespace DL
open PySem PySem.Spec PyProof.Rows L2
section
variable {X : Cx} {a b c : Expr} {fa fb fc : DTE} {pos : Pos} {ta tb : DTT} {es : List Expr} {fr : DTA}
theorem ints_at {us : List Value} {ns : List Int} (h : IntsAre us ns) : ∀ (i : Nat) (v : Value), us.toArray[i]? = some v → ∃ t, v = Value.int (ns.getD i 0) t := by
  induction h with
  | nil => intro i v e; simp at e
  | cons n t h ih =>
    intro i v e
    cases i with
    | zero => exact ⟨t, by simpa using e.symm⟩
    | succ i => exact ih i v (by simpa using e)
theorem getD_at {ns : List Int} {j : Nat} {y : Int} (hj : j < ns.length) (e : ns[j] = y) : ns.getD j 0 = y := by rw [List.getD_eq_getElem?_getD, List.getElem?_eq_getElem hj, e]; rfl
def rMaxT (K : PySem.W.Frag) : List V → Hp → VK → Prop := fun vs H Q => ∃ (a : Addr) (ns : List Int), vs = [V.ref a] ∧ SqT K H a (ns.map V.int) ∧ 0 < ns.length ∧ ∀ m, m ∈ ns → (∀ y, y ∈ ns → y ≤ m) → Q (.int m) H
def rMinT (K : PySem.W.Frag) : List V → Hp → VK → Prop := fun vs H Q => ∃ (a : Addr) (ns : List Int), vs = [V.ref a] ∧ SqT K H a (ns.map V.int) ∧ 0 < ns.length ∧ ∀ m, m ∈ ns → (∀ y, y ∈ ns → m ≤ y) → Q (.int m) H
theorem cr_maxT (hc : X.calm = true) : CallR X (.builtin "max") (rMaxT X.K) := by
  intro pins s σ H vs us Q I r ⟨a, ns, ev, hs, hne, q⟩
  subst ev
  obtain ⟨its, rv, hl, _⟩ := I.tuple hs
  rw [Vals.ref1 r]
  have hl : s.heap.IsTuple a its.toArray := hl
  have hsz : its.toArray.size = ns.length := by
    have := rv.length
    rw [List.length_map] at this
    rw [List.size_toArray, this]
  have ha : a < s.heap.objs.size := by
    obtain ⟨o, ho, _⟩ := hl
    exact Heap.lt_size ho
  refine call_max_walk (wpAny_pyIter_tuple hl ⟨s.heap.objs.size, _, _, _, _, _, _, rfl, Walks.tuple (show X.A.in1.handled = none from I.ok.hd hc) s.heap.objs.size a (Nat.ne_of_lt ha) its.toArray, ⟨⟨_, Heap.get?_push_size _ rfl, rfl, rfl⟩, hl.at fun o e => Heap.get?_push_of_some _ e⟩, fun b hb => ?_, by omega, CmpOf.ints_gt (fun i => ns.getD i 0) (ints_at rv.ints), fun v h' tk hv' hk => ?_⟩)
  · show b < (s.heap.push _).objs.size
    rw [size_push']
    have : b = s.heap.objs.size ∨ b = a := by simpa using hb
    rcases this with z | z
    · rw [z]; exact Nat.lt_succ_self _
    · rw [z]; exact Nat.lt_succ_of_lt ha
  · obtain ⟨t, rfl⟩ := ints_at rv.ints _ _ hv'
    obtain ⟨m1, m2⟩ := argBest_gt (fun i => ns.getD i 0) (its.toArray.size - 1)
    refine ⟨.int _, H, I.kept (t' := tk) (fun b o e => hk b o (fun z => ?_) (Heap.get?_push_of_some _ e)), ⟨t, rfl⟩, q _ (PySem.getD_mem (by omega)) fun y hy => ?_⟩
    · rw [List.mem_singleton.mp z] at e
      exact absurd (Heap.lt_size e) (Nat.lt_irrefl _)
    · obtain ⟨j, hj, e⟩ := List.mem_iff_getElem.mp hy
      have z := m2 j (by omega)
      rw [getD_at hj e] at z
      exact z
theorem cr_minT (hc : X.calm = true) : CallR X (.builtin "min") (rMinT X.K) := by
  intro pins s σ H vs us Q I r ⟨a, ns, ev, hs, hne, q⟩
  subst ev
  obtain ⟨its, rv, hl, _⟩ := I.tuple hs
  rw [Vals.ref1 r]
  have hl : s.heap.IsTuple a its.toArray := hl
  have hsz : its.toArray.size = ns.length := by
    have := rv.length
    rw [List.length_map] at this
    rw [List.size_toArray, this]
  have ha : a < s.heap.objs.size := by
    obtain ⟨o, ho, _⟩ := hl
    exact Heap.lt_size ho
  refine call_min_walk (wpAny_pyIter_tuple hl ⟨s.heap.objs.size, _, _, _, _, _, _, rfl, Walks.tuple (show X.A.in1.handled = none from I.ok.hd hc) s.heap.objs.size a (Nat.ne_of_lt ha) its.toArray, ⟨⟨_, Heap.get?_push_size _ rfl, rfl, rfl⟩, hl.at fun o e => Heap.get?_push_of_some _ e⟩, fun b hb => ?_, by omega, CmpOf.ints_lt (fun i => ns.getD i 0) (ints_at rv.ints), fun v h' tk hv' hk => ?_⟩)
  · show b < (s.heap.push _).objs.size
    rw [size_push']
    have : b = s.heap.objs.size ∨ b = a := by simpa using hb
    rcases this with z | z
    · rw [z]; exact Nat.lt_succ_self _
    · rw [z]; exact Nat.lt_succ_of_lt ha
  · obtain ⟨t, rfl⟩ := ints_at rv.ints _ _ hv'
    obtain ⟨m1, m2⟩ := argBest_lt (fun i => ns.getD i 0) (its.toArray.size - 1)
    refine ⟨.int _, H, I.kept (t' := tk) (fun b o e => hk b o (fun z => ?_) (Heap.get?_push_of_some _ e)), ⟨t, rfl⟩, q _ (PySem.getD_mem (by omega)) fun y hy => ?_⟩
    · rw [List.mem_singleton.mp z] at e
      exact absurd (Heap.lt_size e) (Nat.lt_irrefl _)
    · obtain ⟨j, hj, e⟩ := List.mem_iff_getElem.mp hy
      have z := m2 j (by omega)
      rw [getD_at hj e] at z
      exact z
@[reducible] def gIntsA (f : List Int → Sto → DK → Prop) : G1 := fun d M Q => match itemsOf d M with
  | some ds => match intsOf ds with
    | some ns => f ns M Q
    | none => False
  | none => False
theorem gIntsA_mono {f : List Int → Sto → DK → Prop} (h : ∀ ns M (Q Q' : DK), (∀ d M, Q d M → Q' d M) → f ns M Q → f ns M Q') : Mono1 (gIntsA f) := fun d M Q Q' w q => by
  unfold gIntsA at q ⊢
  split at q
  · split at q
    · exact h _ _ _ _ w q
    · exact q.elim
  · exact q.elim
theorem gIntsA_ok {f : List Int → Sto → DK → Prop} {K : PySem.W.Frag} {al : List Addr} {F G H : Hp} {M : Sto} {v : V} {d : D} {Q : DK} (W : Wd K al F G H M) (r : Rp K F al v d) (h : gIntsA f d M Q) : ∃ a ns, v = .ref a ∧ (SqT K H a (ns.map V.int) ∨ SqL K H a (ns.map V.int)) ∧ f ns M Q := by
  unfold gIntsA at h
  split at h
  · next ds e2 =>
    split at h
    · next ns e =>
      have e3 := intsOf_eq e
      subst e3
      obtain ⟨p1, xs1, rfl, h1, s1⟩ := itemsOf_ok W r e2
      rw [s1.ints] at h1
      rcases h1 with h1 | h1
      · exact ⟨_, ns, rfl, .inl (sqR h1), h⟩
      · exact ⟨_, ns, rfl, .inr (SqL.of h1), h⟩
    · exact h.elim
  · exact h.elim
theorem o_maxA (hc : X.calm = true) : ON X (.builtin "max") (g1 (gIntsA fMax)) := ON.of1 (CallR.or (cr_maxT hc) (cr_max hc)) (gIntsA_mono fun _ _ _ _ w q => ⟨q.1, w _ _ q.2⟩) fun al F G H M x d Q W r q => by
  obtain ⟨p, ns, rfl, h, n0, k⟩ := gIntsA_ok W r q
  have fin : ∀ m, m ∈ ns → (∀ y, y ∈ ns → y ≤ m) → _ := fun m hm hl => by rw [maxI_uniq hm hl] at k; exact kont.here k W (.int _)
  rcases h with h | h
  · exact .inl ⟨p, ns, rfl, h, len_pos n0, fin⟩
  · exact .inr ⟨p, ns, rfl, h, len_pos n0, fin⟩
theorem o_minA (hc : X.calm = true) : ON X (.builtin "min") (g1 (gIntsA fMin)) := ON.of1 (CallR.or (cr_minT hc) (cr_min hc)) (gIntsA_mono fun _ _ _ _ w q => ⟨q.1, w _ _ q.2⟩) fun al F G H M x d Q W r q => by
  obtain ⟨p, ns, rfl, h, n0, k⟩ := gIntsA_ok W r q
  have fin : ∀ m, m ∈ ns → (∀ y, y ∈ ns → m ≤ y) → _ := fun m hm hl => by rw [minI_uniq hm hl] at k; exact kont.here k W (.int _)
  rcases h with h | h
  · exact .inl ⟨p, ns, rfl, h, len_pos n0, fin⟩
  · exact .inr ⟨p, ns, rfl, h, len_pos n0, fin⟩
end
theorem map_mid {α β : Type} {f : α → β} {L : List α} {done todo : List β} {d : β} (e : done ++ d :: todo = L.map f) : ∃ x, L[done.length]? = some x ∧ d = f x ∧ done.length < L.length := by
  have h : (L.map f)[done.length]? = some d := by rw [← e, List.getElem?_append_right (Nat.le_refl _)]; simp
  rw [List.getElem?_map] at h
  cases q : L[done.length]? with
  | none => rw [q] at h; cases h
  | some x =>
    rw [q] at h
    exact ⟨x, rfl, (Option.some.inj h).symm, (List.getElem?_eq_some_iff.mp q).1⟩
theorem take_more {α : Type} {L : List α} {n : Nat} {x : α} (h : L[n]? = some x) : L.take (n + 1) = L.take n ++ [x] := by
  rw [List.take_succ, h]
  rfl
theorem map_done {α β : Type} {f : α → β} {L : List α} {done : List β} (e : done ++ [] = L.map f) : L.take done.length = L := by
  rw [List.append_nil] at e
  rw [e, List.length_map, List.take_length]
theorem enum_map {α : Type} (k : Int) (f : α → D) (L : List α) : enumD k (L.map f) = L.zipIdx.map fun q => D.tup [.int (k + (q.2 : Int)), f q.1] := by
  unfold enumD
  apply List.ext_getElem?
  intro i
  rw [List.getElem?_mapIdx, List.getElem?_map, List.getElem?_map, List.getElem?_zipIdx]
  cases L[i]? with
  | none => rfl
  | some x => simp
theorem idx_at {α : Type} {L : List α} {n : Nat} {q : α × Nat} (h : L.zipIdx[n]? = some q) : q.2 = n ∧ L[n]? = some q.1 := by
  rw [List.getElem?_zipIdx] at h
  cases e : L[n]? with
  | none => rw [e] at h; cases h
  | some x => rw [e] at h; cases h; exact ⟨by simp, rfl⟩
theorem idx_mem {α : Type} {L : List α} {q : α × Nat} (h : q ∈ L.zipIdx) : L[q.2]? = some q.1 := by
  obtain ⟨n, hn, e⟩ := List.getElem_of_mem h
  have := idx_at (L := L) (n := n) (q := q) (by rw [List.getElem?_eq_getElem hn, e])
  rw [this.1]; exact this.2
theorem idx_len {α : Type} (L : List α) : L.zipIdx.length = L.length := by simp
end DL
set_option maxHeartbeats 1000000
namespace DL
open PySem PySem.Spec PyProof.Rows L2
section
variable {prog : Program} {w : World} {A : Around} {E : Value → Shared → Prop}
theorem draw_lst {it l : Addr} {items : Array Value} (hne : l ≠ it) : ∀ (n i : Nat) (s : Shared) (Q : List Value → Shared → Prop), s.heap.IsListIter it l i → s.heap.IsList l items → i + n ≤ items.size →
    (∀ h', h'.IsListIter it l (i + n) → h'.IsList l items → Heap.SameBut it s.heap h' → Q ((items.toList.drop i).take n) { s with heap := h' }) → wpAny (model prog w) A (draw (.ref it) n) Q E s
  | 0, i, s, Q, hit, hl, _, hQ => by
    show wpAny _ _ (pure []) Q E s
    have := hQ s.heap hit hl (Heap.SameBut.refl ..)
    rw [List.take_zero] at this
    exact wpAny_pure this
  | n + 1, i, s, Q, hit, hl, hle, hQ => by
    have hi : i < items.size := by omega
    show wpAny _ _ (pyNext (.ref it) >>= _) Q E s
    refine wpAny_bind (wpAny_pyNext_list_item hit hl (x := items[i]) (by simp [hi]) fun h1 hit1 hs1 => wpAny_bind (wpAny_holding (draw_lst hne n (i + 1) _ _ hit1 (hl.extBut hs1.extBut hne) (by omega) fun h2 hit2 hl2 hs2 => wpAny_pure ?_)))
    have q := hQ h2 (by rw [show i + (n + 1) = i + 1 + n by omega]; exact hit2) hl2 (hs1.trans hs2)
    rw [show items.toList.drop i = items[i] :: items.toList.drop (i + 1) by simp [List.drop_eq_getElem_cons, hi], List.take_succ_cons] at q
    exact q
theorem unpack_lst {s : Shared} {l : Addr} {items : Array Value} {targets : List (Bool × (Value → Sem Unit))} {Q : Unit → Shared → Prop} (hh : A.handled = none) (hl : s.heap.IsList l items) (hn : targets.length = items.size) (hstar : targets.findIdx? (·.1) = none)
    (h : ∀ h', Heap.ExtBut s.heap.objs.size s.heap h' → wpAny (model prog w) A (assignInOrder (targets.map (·.2)) items.toList) Q E { s with heap := h' }) : wpAny (model prog w) A (unpack (.ref l) targets) Q E s := by
  have hlt : l ≠ s.heap.objs.size := by
    obtain ⟨o, ho, _⟩ := hl
    exact Nat.ne_of_lt (Heap.lt_size ho)
  unfold unpack
  rw [hn, hstar]
  refine wpAny_bind (wpAny_holding ?_)
  unfold unpackItems notIterableAtAll
  refine wpAny_bind (wpAny_bind (wpAny_specialOf hl.typeIs F.slot_list_iter.lookup (wpAny_pure ?_)))
  simp only [Bool.false_eq_true, if_false]
  have hl1 : ∀ o, (s.heap.push o).IsList l items := fun o => hl.at fun _ e => Heap.get?_push_of_some _ e
  refine wpAny_bind (wpAny_holding (wpAny_pyIter_list hl (wpAny_bind (wpAny_holding (draw_lst hlt items.size 0 _ _ ⟨_, Heap.get?_push_size _ rfl, rfl, rfl⟩ (hl1 _) (by omega) fun h1 hit1 hl2 hs1 => ?_)))))
  rw [show List.take items.size (List.drop 0 items.toList) = items.toList by rw [List.drop_zero]; exact List.take_of_length_le (by simp), if_neg (by simp)]
  refine wpAny_bind (wpAny_holding (wpAny_pyNext_list_end hh hit1 hl2 (by simp) fun h2 he2 => ?_))
  simp only [Option.isSome_none, Bool.false_eq_true, if_false]
  exact wpAny_pure (h h2 fun b o hb e => he2 b o hb (hs1.extBut b o hb (Heap.get?_push_of_some _ e)))
end
section
variable {X : Cx} {a b c : Expr} {fa fb fc : DTE} {pos : Pos} {es : List Expr} {fr : DTA}
def gTupL (K : PySem.W.Frag) (n : Nat) (t : TGs) : TG := fun v σ H Q => ∃ a xs, v = .ref a ∧ (SqT K H a xs ∨ SqL K H a xs) ∧ xs.length = n ∧ t xs σ H Q
theorem pg_tupL {k : Nat} {t : TGs} {n : Nat} (hc : X.calm = true) (h : PGs X es t) (hn : (assignEach es X.env).length = n := by rfl) (hst : (assignEach es X.env).findIdx? (·.1) = none := by rfl) : PG X (.Tuple es k pos) (gTupL X.K n t) := by
  refine ⟨fun pins s σ H v u Q I r ⟨a, xs, e1, hq, hl, hw⟩ => ?_⟩
  subst e1
  cases r
  rcases hq with hq | hq
  · obtain ⟨its, rv, ht, hz⟩ := I.tuple hq
    refine assign_Tuple_tuple (I.ok.hd hc) ht (by simp [hn, ← hl, rv.length]) hst fun h' hx => ?_
    exact h.run pins _ σ H xs _ Q (I.kept (t' := s.toks) fun b o e => hx b o (Nat.ne_of_lt (Heap.lt_size e)) e) (by simpa using rv) hw
  · obtain ⟨its, rv, ht, hz⟩ := I.list hq
    rw [assign_Tuple]
    refine wpAny_bind (wpAny_standAt (unpack_lst (I.ok.hd hc) ht.isList (by simp [hn, ← hl, rv.length]) hst fun h' hx => ?_))
    exact h.run pins _ σ H xs _ Q (I.kept (t' := s.toks) fun b o e => hx b o (Nat.ne_of_lt (Heap.lt_size e)) e) (by simpa using rv) hw
/-- a tuple or a list, unpacked -/
@[reducible] def dgTupL (n : Nat) (g : DTGs) : DTG := fun d ρ M Q => match itemsOf d M with
  | some ds => ds.length = n ∧ g ds ρ M Q
  | none => False
theorem dg_tupL {k n : Nat} {g : DTGs} {js : List Nat} (hc : X.calm = true) (h : DGs X es g js) (hn : (assignEach es X.env).length = n := by rfl) (hst : (assignEach es X.env).findIdx? (·.1) = none := by rfl) : DG X (.Tuple es k pos) (dgTupL n g) js := by
  refine ⟨PG.of (pg_tupL hc h.pg hn hst) fun v σ H Q ⟨d, ρ, M, al, F, G, W, es, r, q⟩ => ?_, fun d ρ M Q Q' w q => ?_⟩
  · unfold dgTupL at q
    split at q
    · next ds e =>
      obtain ⟨p, xs, rfl, h1, rs⟩ := itemsOf_ok W r e
      rcases h1 with h1 | h1
      · exact ⟨_, _, rfl, .inl (sqR h1), rs.length.trans q.1, _, ρ, M, al, F, G, W, es, rs, q.2⟩
      · exact ⟨_, _, rfl, .inr (SqL.of h1), rs.length.trans q.1, _, ρ, M, al, F, G, W, es, rs, q.2⟩
    · exact q.elim
  · unfold dgTupL at q ⊢
    split at q
    · exact ⟨q.1, h.mono _ _ _ _ _ w q.2⟩
    · exact q.elim
/-- list(range(n)) -/
@[reducible] def dLstRg (fa : DTE) : DTE := fun ρ M Q => fa ρ M fun d M1 => match d with
  | .int j => (-1000000 ≤ j ∧ j ≤ 1000000) ∧ Q (.lst (rng 0 j.toNat)) M1
  | _ => False
theorem rg_rps {K : PySem.W.Frag} {F : Hp} {al : List Addr} (j : Int) : Rps K F al (rgV 0 j) (rng 0 j.toNat) := by
  unfold rgV rng
  rw [Int.sub_zero]
  generalize List.range j.toNat = L
  induction L with
  | nil => exact .nil
  | cons x L ih => exact .cons (.int _) ih
theorem d_listRg {p p2 pos2 : Pos} (hg : Gl X "list") (hm : X.mg "list" = none) (hg2 : Gl X "range") (hm2 : X.mg "range" = none) (hc : X.calm = true) (h : DE X a fa) (na : starEach [a] X.env = (false, eval a X.env) :: starEach [] X.env := by rfl)
    (na2 : starEach [.Call (.Name "range" p2) [a] [] pos2] X.env = (false, eval (.Call (.Name "range" p2) [a] [] pos2) X.env) :: starEach [] X.env := by rfl) : DE X (.Call (.Name "list" p) [.Call (.Name "range" p2) [a] [] pos2] [] pos) (dLstRg fa) := by
  refine ⟨PE.of (pe_listRg hc hg hm (prg_1 hg2 hm2 h.pe na) na2) fun σ H Q ⟨ρ, M, al, F, G, W, es, q⟩ => ?_, fun ρ M Q Q' w q => h.mono _ _ _ _ (fun d M1 q1 => ?_) q⟩
  · refine h.seq W es q fun d M1 al1 F1 H1 v q1 e1 W1 r1 s1 => ?_
    cases r1 <;> first | exact q1.elim | skip
    refine ⟨_, rfl, ⟨by omega, by omega, by have := q1.1.1; omega, by have := q1.1.2; omega, by have := q1.1.2; omega⟩, fun p hp => ?_⟩
    exact kont.lst (kont.ext q1.2 e1) W1 (rg_rps _) hp
  · cases d <;> first | exact q1.elim | exact ⟨q1.1, w _ _ q1.2⟩
end
end DL
namespace DL
open PySem PySem.Spec PyProof.Rows L2
inductive Pl : Nat → D → Prop
  | non : Pl 0 .non
  | bl (b : Bool) : Pl 0 (.bl b)
  | int (i : Int) : Pl 0 (.int i)
  | tup {h : Nat} {ds : List D} (hd : ∀ d ∈ ds, Pl h d) : Pl (h + 1) (.tup ds)
  | lst {h : Nat} {ds : List D} (hd : ∀ d ∈ ds, Pl h d) : Pl (h + 1) (.lst ds)
def PlOk (h : Nat) (d : D) : Prop := pu d = true ∧ (toPy d).canLay0 = true ∧ (toPy d).depth ≤ h
theorem plAll {h : Nat} : ∀ {ds : List D}, (∀ d ∈ ds, PlOk h d) → DL.pus ds = true ∧ PyData.canLayAll0 (toPys ds) = true ∧ PyData.depthAll (toPys ds) ≤ h
  | [], _ => ⟨rfl, rfl, Nat.zero_le _⟩
  | d :: ds, hd => by
    obtain ⟨a1, a2, a3⟩ := hd d (by simp)
    obtain ⟨b1, b2, b3⟩ := plAll fun x hx => hd x (List.mem_cons_of_mem _ hx)
    refine ⟨?_, ?_, ?_⟩
    · show (pu d && DL.pus ds) = true
      rw [a1, b1]; rfl
    · show ((toPy d).canLay0 && PyData.canLayAll0 (toPys ds)) = true
      rw [a2, b2]; rfl
    · show max (toPy d).depth (PyData.depthAll (toPys ds)) ≤ h
      exact Nat.max_le.mpr ⟨a3, b3⟩
theorem Pl.ok' {h : Nat} {d : D} (s : Pl h d) : PlOk h d := by
  induction s with
  | non => exact ⟨rfl, rfl, Nat.zero_le _⟩
  | bl b => exact ⟨rfl, rfl, Nat.zero_le _⟩
  | int i => exact ⟨rfl, rfl, Nat.zero_le _⟩
  | tup hd ih =>
    obtain ⟨b1, b2, b3⟩ := plAll ih
    exact ⟨b1, b2, Nat.succ_le_succ b3⟩
  | lst hd ih =>
    obtain ⟨b1, b2, b3⟩ := plAll ih
    exact ⟨b1, b2, Nat.succ_le_succ b3⟩
theorem Pl.vw {h : Nat} {d : D} (s : Pl h d) (M : Sto) : DL.vw d M = d := by
  have := s.ok'.1
  cases d <;> first | rfl | (cases this)
theorem PlOk.eq {h : Nat} {d : D} (s : PlOk h d) (hh : h ≤ 60) : pu d = true ∧ SeqAt.shaped (toPy d) = true := ⟨s.1, by
  unfold SeqAt.shaped
  rw [s.2.1, Bool.true_and]
  exact decide_eq_true (Nat.le_trans s.2.2 (by omega))⟩
theorem Pl.eqOk {h : Nat} {d : D} (s : Pl h d) (hh : h ≤ 60) (M : Sto) : DL.eqOk d M := by
  unfold DL.eqOk
  rw [s.vw M]
  exact s.ok'.eq hh
theorem eqv_nil (ds : List D) : PyData.eqv (toPy (.lst ds)) (toPy (.lst [])) = decide (ds = []) := by
  cases ds with
  | nil => rfl
  | cons d ds => rfl
end DL
namespace DL
open PySem PySem.Spec PyProof.Rows L2
section
variable {X : Cx} {a b c : Expr} {fa fb fc : DTE} {pos : Pos}
@[reducible] def gMulM : G2 := fun x y M Q => match y with
  | .int k => match seqOf x M with
    | some ds => 0 ≤ k ∧ k < 100000 ∧ ds.length * k.toNat ≤ 100000 ∧ Q (.ref M.length) (M ++ [.lst (List.replicate k.toNat ds).flatten])
    | none => False
  | _ => False
theorem gMulM_mono : Mono2 gMulM := fun x y M Q Q' w q => by
  unfold gMulM at q ⊢
  split at q
  · split at q
    · exact ⟨q.1, q.2.1, q.2.2.1, w _ _ q.2.2.2⟩
    · exact q.elim
  · exact q.elim
theorem o_mulM : O2 X (binaryOp .Mult) gMulM := O2.of op_rep gMulM_mono fun al F G H M x y dx dy Q W r1 r2 q => by
  unfold gMulM at q
  split at q
  · cases r2
    split at q
    · next e =>
      obtain ⟨p1, xs1, rfl, h1, s1⟩ := seqOf_ok W r1 e
      have l1 := s1.length
      exact ⟨_, _, _, rfl, rfl, h1, by have := q.1; omega, by have := q.2.1; omega, le_line (by rw [l1]; exact q.2.2.1), fun p hp => kont.new q.2.2.2 W (s1.rep _) hp⟩
    · exact q.elim
  · exact q.elim
@[reducible] def gAddM : G2 := fun x y M Q => match seqOf x M, seqOf y M with
    | some i, some j => i.length + j.length ≤ 100000 ∧ Q (.ref M.length) (M ++ [.lst (i ++ j)])
    | _, _ => False
end
def allCell (sc : Scope) : Scope := { sc with names := sc.names.map fun y => (y.1, .cell) }
def freeB (sc scope : Scope) : Bool := scope.names.all fun y => match y.2 with
  | .free => (match sc.names.lookup y.1 with
    | some .cell => true
    | some .free => true
    | _ => false)
  | _ => true
theorem blkOk_in {N : List Str} {sc scope : Scope} {own : List (Str × Nat)} (h : blkC N (allCell scope) scope own = true) (hf : freeB sc scope = true) : BlkOk N sc scope own := by
  have b := blkOk_by h
  refine ⟨b.kind, b.uniq, b.ix, fun y hy e => ?_, b.own⟩
  have q := List.all_eq_true.mp hf y hy
  rw [e] at q
  dsimp only at q
  split at q
  · next h => exact .inl h
  · next h => exact .inr h
  · cases q
section
variable {X : Cx} {a b c : Expr} {fa fb fc : DTE} {pos : Pos}
theorem chain_ok {op op' : CmpOp} {g g' : G2} (ho : O2 X (compareOp op) g) (ho' : O2 X (compareOp op') g') (ha : DE X a fa) (hb : DE X b fb) (hc : DE X c fc) {σ : L2.St} {H : Hp} {Q : VK} (h : Lift X (dChain g g' fa fb fc) σ H Q) :
    tChain (r2 X.K g) (r2 X.K g') (Lift X fa) (Lift X fb) (Lift X fc) σ H Q := by
  obtain ⟨ρ, M, al, F, G, W, s, q⟩ := h
  refine ha.seq W s q fun dx M1 al1 F1 H1 v q1 e1 W1 r1 s1 => ?_
  refine hb.seq W1 s1 q1 fun dy M2 al2 F2 H2 u q2 e2 W2 r2 s2 => ?_
  refine ⟨dx, dy, al2, F2, G, M2, W2, r1.ext e2, r2, ho.mono _ _ _ _ _ (fun z M3 q3 al3 F3 H3 zv e3 W3 r3 => ?_) q2⟩
  cases r3 with
  | bl k =>
    refine ⟨k, rfl, ?_⟩
    cases k with
    | true =>
      refine hc.seq W3 (s2.ext e3) q3 fun dw M4 al4 F4 H4 wv q4 e4 W4 r4 s4 => ?_
      exact ⟨dy, dw, al4, F4, G, M4, W4, r2.ext (e3.trans e4), r4, ho'.mono _ _ _ _ _ (fun d M5 k => kont.ext k (e1.trans (e2.trans (e3.trans e4)))) q4⟩
    | false => exact q3 al3 F3 H3 _ (e1.trans (e2.trans e3)) W3 (.bl false)
  | _ => exact q3.elim
theorem dt_chain {op op' : CmpOp} {g g' : G2} (ho : O2 X (compareOp op) g) (ho' : O2 X (compareOp op') g') (ha : DE X a fa) (hb : DE X b fb) (hc : DE X c fc) (hm : lastMarks [op, op'] [b, c] = false := by with_unfolding_all rfl) :
    DT X (.Compare a [op, op'] [b, c] pos) (dBl (dChain g g' fa fb fc)) := by
  have hd : DE X (.Compare a [op, op'] [b, c] pos) (dChain g g' fa fb fc) := d_chain ho ho' ha hb hc fun h1 h2 h3 h4 h5 => pe_chain h1 h2 h3 h4 h5 hm
  refine ⟨PT.of (pt_chain ho.opR ho'.opR ha.pe hb.pe hc.pe hm) fun σ H Q ⟨ρ, M, al, F, G, W, s, q⟩ => ?_, dBl_mono hd⟩
  refine chain_ok ho ho' ha hb hc ⟨ρ, M, al, F, G, W, s, hd.mono _ _ _ _ (fun d M1 q1 al1 F1 H1 v e1 W1 r1 => ?_) q⟩
  cases r1 with
  | bl k => exact ⟨k, rfl, q1 al1 F1 H1 e1 W1⟩
  | _ => exact q1.elim
end
end DL
set_option maxHeartbeats 2000000
namespace PySem
namespace HandSPX
open Builtin Builtin.ObjectAttr
section
variable {prog : Program} {w : World} {A : Around} {E : Value → Shared → Prop} {R : Result → Shared → Prop} {hp : Heap} {g : Array GenState} {d : Drawn} {t : Nat} {os : OsState}
theorem exc_osaB {B : String} {bmB : List Value} {K : W.Frag} {name : Str} {tk : Tok} {v : Value} {x C : Addr} {fv : Array Value} {cd : ClassData} (SB : StoreFacts B bmB "object.__setattr__" "object")
    (X : K.In hp) (hx : hp.get? x = some { cls := .ref C, data := .fields fv }) (hcd : W.clsIn K C = some cd) (hm : W.excTail bmB cd.mro = true) (hh : cd.hasDict = true) (ha : W.findIn K (.ref C) name = some none)
    (hq : ∀ h' tk' dx, (∀ b o, b ≠ x → hp.get? b = some o → h'.get? b = some o) → hp.objs.size ≤ dx → dx ≠ x → h'.get? x = some { cls := .ref C, dict := some dx, data := .fields fv } →
      h'.Ns1 dx (fun y => if y = name then some v else none) → R (.ok (.ret .none)) ⟨h', g, d, tk', os⟩) :
    codeAny (model prog w) A (.call (.builtin "object.__setattr__") ⟨[.ref x, .str name tk, v], []⟩) R ⟨hp, g, d, t, os⟩ := by
  have I : W.InstAt hp x { cls := .ref C, data := .fields fv } C none := ⟨hx, rfl, rfl, trivial⟩
  have SF := F.store_object
  have hob : cd.mro.contains (.type "object") = true := (W.excTail_contains "object" _ hm).trans SB.hasOwner
  have ne : cd.mro.isEmpty = false := by
    cases e : cd.mro with
    | nil => rw [e] at hob; cases hob
    | cons _ _ => rfl
  have hxs : x ≠ hp.objs.size := Nat.ne_of_lt (Heap.lt_size hx)
  have sub : W.Looks (model prog w) hp (isInstance (.ref x) (.type "object")) true := I.type.andThen (W.looks_mroIn X (by unfold W.mroIn; rw [hcd, Option.bind_some, if_neg (by rw [ne]; decide), hob]))
  refine codeAny_call_builtin SF.slot.plain SF.entry (@W.check_slot (model prog w) _ _ ⟨hp, g, d, t, os⟩ "object.__setattr__" "object" "__setattr__" (.ref x) [.str name tk, v] [] _ SF.kind SF.split sub (SF.args (.ref x) (.str name tk) v) ?_)
  have hmr : W.Looks (model prog w) hp (mroOf (.ref C)) cd.mro := (W.looks_clsIn X hcd).andThen .now
  have L3 : W.Looks (model prog w) hp (storeTaker? none) none := .now
  have hcls : W.Looks (model prog w) hp (classData C) cd := W.looks_clsIn X hcd
  rw [W.osa_eq, refuse_eq]
  refine wpAny_bind (wpAny_bind (I.type.at (wpAny_bind (hmr.at ?_))))
  rw [W.excTail_pass _ (SB.passes _) _ hm]
  refine wpAny_pure (wpAny_bind (I.type.at (wpAny_bind ((W.looks_findIn X ha).at (wpAny_bind (L3.at ?_))))))
  show wpAny _ _ (storeInOwnDict (.ref x) (.ref C) (.str name tk) name v false) _ _ _
  obtain ⟨nm, bs, mro, ns, qn, hd, sn, sb, ab, col, del⟩ := cd
  dsimp only at hh
  subst hh
  unfold storeInOwnDict ownDictForStores
  repeat (first | with_reducible refine store_in_new ?_ ?_ | with_reducible refine wpAny_loadPart_at hx ?_ | with_reducible refine hcls.at ?_ | wp_step)
  · exact ⟨_, #[], _, (Heap.get?_update_ne _ _ _ _ hxs.symm).trans (Heap.get?_push_at rfl rfl), rfl, fun e he => absurd he (by simp), fun _ => rfl⟩
  · intro h' tk' hn' hs
    have hx₁ : (hp.push { cls := .type "dict", data := .dict #[] }).get? x = some { cls := .ref C, data := .fields fv } := Heap.get?_push_of_some _ hx
    refine hq h' tk' hp.objs.size (fun b o hb ho => ?_) (Nat.le_refl _) hxs.symm ?_ hn'
    · exact (hs.2 b (Nat.ne_of_lt (Heap.lt_size ho))).trans ((Heap.get?_update_ne _ _ _ _ hb).trans (Heap.get?_push_of_some _ ho))
    · exact (hs.2 x hxs).trans (Heap.get?_update_self _ hx₁ rfl)
end
end HandSPX
end PySem
namespace DL
open PySem PySem.Spec PyProof.Rows L2
/-- what the written part says of the class -/
structure OexB (K : PySem.W.Frag) (C : Addr) : Prop where
  cls : ∃ (B newId initId : String) (bmB : List Value), ExcBaseFacts B newId initId bmB ∧ StoreFacts B bmB "object.__setattr__" "object" ∧ ∃ nm q N bs bm sn sub ab col dd k0 k1 k2 k3 k5, K.lookup C = some (excClassObj nm q C N bs bm true sn sub ab col dd k0 k1 k2 k3 k5 newId) ∧ PySem.W.excTail bmB bm = true
  sa : PySem.W.findIn K (.ref C) "__setattr__" = some (some (.builtin "object.__setattr__"))
  exC : PySem.W.subIn K (.ref C) (.type "BaseException") = some true
  tyC : PySem.W.typeIn K (.ref C) = some (.type "type")
  kC : PySem.W.keepIn K (.ref C) = true
section
variable {X : Cx} {pins : List (Addr × Obj)} {σ : L2.St} {H : Hp} {s : Shared} {a C dx : Addr} {f : Str} {y : V} {u : Value} {fs : List (Str × V)} {Q : Unit → Shared → Prop} {E : Value → Shared → Prop} {A : Around}
/-- self.f = y, the first one -/
theorem ost_newB (T : OexB X.K C) (I : Inv X pins σ H s) (e : H a = some (exo a C none)) (hno : PySem.W.findIn X.K (.ref C) f = some none) (ry : RelV y u)
    (h : ∀ dx s', H dx = none → dx ≠ a → Inv X pins σ (upd (upd H dx (exd dx [(f, y)])) a (exo a C (some dx))) s' → Q () s') : wpAny (model X.prog X.w) A (setAttr (.ref a) f u) Q E s := by
  obtain ⟨B, newId, initId, bmB, FB, SB, nm, q, N, bs, bm, sn, sub, ab, col, dd, k0, k1, k2, k3, k5, hC, hbm⟩ := T.cls
  have hcl : PySem.W.clsIn X.K C = some { name := nm, bases := bs, mro := .ref C :: bm, ns := N, qualname := q, hasDict := true, slotNames := sn, subclasses := sub, abstract := ab, collection := col, hasDel := false } := by unfold PySem.W.clsIn; rw [hC] <;> rfl
  obtain ⟨t1, ho⟩ := exo_at I.hok e
  obtain ⟨hp, g, d, t, os⟩ := s
  refine PySem.W.set_plain I.kIn (ox := { cls := .ref C, dict := none, data := .fields #[.ref t1, .none, .none, .none, .bool false, .none] }) (od := none) ⟨ho, rfl, rfl, trivial⟩ T.sa ?_
  refine PySem.HandSPX.exc_osaB SB I.kIn ho hcl (show PySem.W.excTail bmB (.ref C :: bm) = true from hbm) rfl hno (fun h' tk' dx k dn dne hx hn => ?_)
  have hnd : H dx = none := I.hok.fresh dn
  have nd : ∀ {b : Addr} {o : Obj}, hp.get? b = some o → b ≠ dx := fun {b o} q => Nat.ne_of_lt (Nat.lt_of_lt_of_le (Heap.lt_size q) dn)
  have na : ∀ {b : Addr}, H b = none → b ≠ a := fun {b} n z => by
    rw [z, e] at n
    cases n
  have Un1 : Un X.fs [] H (upd (upd H dx (exd dx [(f, y)])) a (exo a C (some dx))) hp h' := {
    keep := fun b o q n _ _ => k b o (na n) q
    slot := fun b o q n _ _ => ⟨o.slots, k b o (na n) q⟩
    free := fun b o q n _ => by rw [upd_ne (na n), upd_ne (nd q)]; exact n
    there := fun b o q _ => by
      by_cases hb : b = a
      · exact ⟨_, by rw [hb]; exact hx⟩
      · exact ⟨o, k b o hb q⟩
    tups := fun b xs q => by rw [upd_ne (at_ne e q exo_tup), upd_ne (ne_of_none q hnd)]; exact q
    frzs := fun b o v q => by rw [upd_ne (at_ne e q exo_frz), upd_ne (ne_of_none q hnd)]; exact q
    tbls := fun b ps q => ⟨#[], by rw [upd_ne (at_ne e q exo_tbl), upd_ne (ne_of_none q hnd), q]; simp⟩ }
  refine h dx _ hnd dne (I.un (t' := tk') Un1 fun b o q => ?_)
  by_cases hb : b = a
  · subst hb
    rw [upd_same] at q
    cases q
    exact exo_ok hx
  · rw [upd_ne hb] at q
    by_cases hd : b = dx
    · subst hd
      rw [upd_same] at q
      cases q
      exact exd_ok hn (relO_put (fs := []) ry fun g => True.intro)
    · rw [upd_ne hd] at q
      exact (I.hok b o q).stay (fun c v hc z => k c v (by
          rcases hc with hc | hc
          · rw [hc]
            exact hb
          · exact at_ne e hc exo_own) z)
        (fun c hc => by rw [upd_ne (at_ne e hc exo_own), upd_ne (ne_of_none hc hnd)]; exact hc) (fun c xs hc => by rw [upd_ne (at_ne e hc exo_tup), upd_ne (ne_of_none hc hnd)]; exact hc)
/-- self.f = e -/
def tOstB (K : PySem.W.Frag) (f : Str) (to te : TE) : TS := fun D σ H => te σ H fun y H1 => to σ H1 fun x H2 => ∃ a C : Addr, x = .ref a ∧ OexB K C ∧ PySem.W.findIn K (.ref C) f = some none ∧
  H2 a = some (exo a C none) ∧ ∀ dx, H2 dx = none → dx ≠ a → D.nx σ (upd (upd H2 dx (exd dx [(f, y)])) a (exo a C (some dx)))
theorem ps_ostB {o e : Expr} {to te : TE} {p' pos : Pos} (ho : PE X o to) (he : PE X e te) (hs : swapsWith e (some (.Attribute o f p')) pos.line X.env = pure false := by rfl) : PS X (.Assign [.Attribute o f p'] e pos) (tOstB X.K f to te) := by
  refine ⟨fun pins s σ H D I h => ?_⟩
  refine plainObj_wpAny_Assign_Attribute (thn (he.run pins s σ H _ I h) fun v s1 ⟨y, H1, I1, r1, q1⟩ => thn (ho.run pins s1 σ H1 _ I1 q1) fun u s2 ⟨x, H2, I2, r2, a, C, ex, T, hno, ea, q⟩ => ?_) hs
  subst ex
  obtain rfl : u = Value.ref a := r2
  exact ost_newB T I2 ea hno r1 fun dx s' n ne J => ⟨σ, _, J, q dx n ne⟩
end
/-- the class that a name of the module holds -/
def cls (mg : Str → Option Value) (x : Str) : Addr := match mg x with
  | some (.ref a) => a
  | _ => 0
theorem cls_of {mg : Str → Option Value} {x : Str} {C : Addr} (h : mg x = some (.ref C)) : cls mg x = C := by unfold cls; rw [h]
/-- what __init__(self, f) with self.f = f does to a new exception -/
def spInit (C : Addr) (f : Str) : Sp := fun vs H Q _ => ∃ (a : Addr) (v : V), vs = [.ref a, v] ∧ H a = some (exo a C none) ∧ ∀ dx, H dx = none → dx ≠ a → Q .non (upd (upd H dx (exd dx [(f, v)])) a (exo a C (some dx)))
def initBody (f : Str) (st : Stmt) : Prop := ∃ p1 p2 p3 p4, defBody st = [.Assign [.Attribute (.Name "self" p1) f p2] (.Name f p3) p4]
theorem init_ok {P : Program} {w : World} {K : PySem.W.Frag} {mg : Str → Option Value} {base : Heap} {qual f : Str} {st : Stmt} {fI C : Addr} {fd : FuncData} (F : Fun K "__init__" qual st fI fd) (S : FnScope ["self", f] ["self", f] (defScope st)) (hb : initBody f st)
    (v0 : Vis (defScope st) "self") (v1 : Vis (defScope st) f) (T : OexB K C) (no : PySem.W.findIn K (.ref C) f = some none) (h1 : (f == ("__debug__" : Str)) = false) (h2 : (f == ("__classdict__" : Str)) = false) :
    FnOk P w K mg base CX0 1 fI fd ["self", f] (spInit C f) := by
  obtain ⟨p1, p2, p3, p4, eb⟩ := hb
  refine F.ok S (fun vs H Q E ⟨a, v, e, _⟩ => by rw [e]; rfl) fun cdv A outer s H vs Q E hr h => ⟨_, by rw [eb]; exact pss_one (ps_ostB (pe_var (i := 0) rfl v0) (pe_var (i := 1) rfl v1 h1 h2)), ?_⟩
  obtain ⟨a, v, rfl, ha, k⟩ := h
  exact ⟨v, rfl, .ref a, rfl, a, C, rfl, T, no, ha, k⟩
theorem init_okH {P : Program} {w : World} {K : PySem.W.Frag} {mg : Str → Option Value} {base : Heap} {qual f : Str} {st : Stmt} {fI C : Addr} {fd : FuncData} (F : Fun K "__init__" qual st fI fd) (S : FnScope ["self", f] ["self", f] (defScope st)) (hb : initBody f st)
    (v0 : Vis (defScope st) "self") (v1 : Vis (defScope st) f) (T : OexB K C) (no : PySem.W.findIn K (.ref C) f = some none) (h1 : (f == ("__debug__" : Str)) = false) (h2 : (f == ("__classdict__" : Str)) = false) :
    L2H.FnH P w K mg base CX0 1 fI fd ["self", f] (spInit C f) := by
  obtain ⟨p1, p2, p3, p4, eb⟩ := hb
  obtain ⟨oc, od, kV, doc, pm, an, cdv, ct, osl, rfl, lk, hcd⟩ := F.ex
  refine L2H.fn_ofH lk hcd S (fun vs H Q E ⟨a, v, e, _⟩ => by rw [e]; rfl) fun A outer s H vs Q E p hot hr h => ⟨_, by rw [eb]; exact pss_one (ps_ostB (pe_var (i := 0) rfl v0) (pe_var (i := 1) rfl v1 h1 h2)), ?_⟩
  obtain ⟨a, v, rfl, ha, k⟩ := h
  exact ⟨v, rfl, .ref a, rfl, a, C, rfl, T, no, ha, k⟩
/-- what the written part says of an exception class C with the field f -/
structure EcF (K : PySem.W.Frag) (C : Addr) (f : Str) : Prop where
  oex : OexB K C
  no : PySem.W.findIn K (.ref C) f = some none
  ga : PySem.W.findIn K (.ref C) "__getattribute__" = some (some (.builtin "BaseException.__getattribute__"))
  gg : PySem.W.findIn K (.ref C) "__getattr__" = some none
  hd : PySem.W.hasDictIn K C = true
  init : ∃ (fI : Addr) (fd : FuncData), PySem.W.findIn K (.ref C) "__init__" = some (some (.ref fI)) ∧ PySem.W.typeIn K (.ref fI) = some (.type "function") ∧ Binds K fd ["self", f] [] ∧
    ∀ (P : Program) (w : World) (mg : Str → Option Value) (base : Heap), FnOk P w K mg base CX0 1 fI fd ["self", f] (spInit C f) ∧ L2H.FnH P w K mg base CX0 1 fI fd ["self", f] (spInit C f)
section
variable {X : Cx} {a b c e : Expr} {fa fb fc : DTE} {pos : Pos} {es : List Expr} {fr : DTA} {ta : TA}
/-- C(e) as an exception that is being made -/
theorem pmk1 {x f : Str} {C : Addr} {p : Pos} (T : EcF X.K C f) (room : Room 2 X.A) (hg : Gl X x) (hm : X.mg x = some (.ref C)) (args : PA X [e] ta) (hdb : (x == ("__debug__" : Str)) = false)
    (he : starEach [e] X.env = (false, eval e X.env) :: starEach [] X.env) (hpl : (backTo pos (starEach [] X.env)).any (·.1) = false) :
    L2N.PMk X (.Call (.Name x p) [e] [] pos) (fun σ H Q => ta σ H fun vs H1 => ∃ v, vs = [v] ∧ ∀ d, H1 d = none → Q (.ref C) (some d) (upd H1 d (.xd [(f, v)]))) := by
  intro ps0 s0 σ H Q J h
  obtain ⟨B, newId, initId, bmB, FB, SB, nm, qn, N, bs, bm, sn, sub, ab, col, dd, k0, k1, k2, k3, k5, lkC, okC⟩ := T.oex.cls
  obtain ⟨fI, fd, hi, ht, hbd, hF⟩ := T.init
  refine wpAny_Call_Name_kw (ld_glob J hg hm ?_ hdb)
  refine PySem.W.callWith_K (h₀ := X.base) J.ok.mod.kin T.oex.kC (thn (args.run pos ps0 s0 σ H _ J h) fun us s1 ⟨vs, H1, J1, r1, v, ev, q1⟩ => ⟨J1.kIn, ?_⟩) he hpl
  subst ev
  obtain ⟨hp, g, dr, tk, os⟩ := s1
  obtain ⟨n, hn⟩ : ∃ n, n = hp.objs.size + 1 := ⟨_, rfl⟩
  have hle : hp.objs.size ≤ n := by omega
  have fresh : H1 n = none := J1.hok.fresh hle
  obtain ⟨h2, eh2⟩ : ∃ h2, h2 = (hp.push (PySem.W.kdv_tup us)).push (PySem.HandSPX.excO C hp.objs.size) := ⟨_, rfl⟩
  have keep2 : ∀ b o, hp.get? b = some o → h2.get? b = some o := fun b o z => by rw [eh2]; exact Heap.get?_push_of_some _ (Heap.get?_push_of_some _ z)
  have at2 : h2.get? n = some (PySem.HandSPX.excO C hp.objs.size) := by rw [eh2, hn]; heap_get
  have J2 : Inv X ps0 σ (upd H1 n (exo n C none)) ⟨h2, g, dr, tk, os⟩ := J1.laid (t' := tk) (a := n) (o := exo n C none) (h' := h2) keep2 hle (exo_ok at2)
  have r2 : Vals [V.ref n, v] (Value.ref n :: us) := .cons rfl r1
  have l2 : (Value.ref n :: us).length = 2 := r2.length.symm
  have lus : us.length ≤ sizeLine := by
    have : us.length + 1 = 2 := l2
    rw [sizeLine_eq]
    omega
  have bind2 := hbd ⟨h2, g, dr, tk, os⟩ (Value.ref n :: us) J2.kIn (by rw [List.append_nil]; exact l2)
  rw [List.append_nil] at bind2
  have want : spInit C f [.ref n, v] (upd H1 n (exo n C none)) (fun u H2 => u = .non ∧ ∃ d, H2 = upd (upd (upd H1 n (exo n C none)) d (exd d [(f, v)])) n (exo n C (some d)) ∧ H1 d = none ∧ d ≠ n) (fun _ _ _ => False) :=
    ⟨n, v, rfl, upd_same, fun d hd ne => ⟨rfl, d, rfl, by rw [upd_ne ne] at hd; exact hd, ne⟩⟩
  show wpAny _ _ (call (.ref C) us) _ _ _
  refine wpAny_call (PySem.HandSPX.call_own FB (fun Y => PySem.W.excTail_contains Y bm okC) (J1.kIn _ _ lkC) (PySem.W.looks_findIn J1.kIn hi) (fun self => PySem.W.bind_fn J1.kIn self ht) lus ?_)
  rw [← eh2, ← hn]
  refine codeAny_mono ((hF X.prog X.w X.mg X.base).1.run _ X.stack _ _ ⟨Value.ref n :: us, []⟩ (Value.ref n :: us) _ _ (fun _ _ _ => False) (room.make C us []) (J2.env0.make C us []) bind2 r2 want) fun r s' z => ?_
  match r, z with
  | .error er, z => exact z.elim
  | .ok .next, z => exact z.elim
  | .ok .brk, z => exact z.elim
  | .ok .cont, z => exact z.elim
  | .ok (.ret u), z =>
    obtain ⟨u', H2, os2, bare2, un2, hok2, rv, eu, d, eH, fd1, dne⟩ := z
    subst eu
    obtain ⟨h3, g3, d3, t3, os3⟩ := s'
    have en : H2 n = some (exo n C (some d)) := by rw [eH]; exact upd_same
    have ed : H2 d = some (exd d [(f, v)]) := by rw [eH, upd_ne dne]; exact upd_same
    obtain ⟨t0, G, J3, kG, ge, hoe, na⟩ := mk_end0 (d2 := d3) (t2 := t3) J1 hle keep2 un2 hok2 os2 bare2 en ed fd1
    have same : upd (del H2 n) d (.xd [(f, v)]) = upd H1 d (.xd [(f, v)]) := by
      funext b
      by_cases hb : b = d
      · rw [hb, upd_same, upd_same]
      · rw [upd_ne hb, upd_ne hb]
        by_cases hbn : b = n
        · rw [hbn, del_same, fresh]
        · rw [del_ne hbn, eH, upd_ne hbn, upd_ne hb, upd_ne hbn]
    rw [same] at J3 na
    exact ⟨rv, n, _, _, ⟨G, g3, d3, t3, os3⟩, _, .ref C, some d, rfl, J3, kG, ge, hoe, ⟨rfl, rfl, fun vs e => by cases e; rfl⟩, rfl, rfl, na, rfl, bare2, raises_own T.oex.exC T.oex.tyC, q1 d fd1⟩
@[reducible] def dRaise (C : Addr) (f : Str) (fr : DTA) : DTS := fun _ ρ M => fr ρ M fun ds M1 => match ds with
  | [d] => ρ.x (.ref C) [(f, d)] ρ.v M1
  | _ => False
theorem ds_raise {x f : Str} {C : Addr} {p pos2 : Pos} (T : EcF X.K C f) (room : Room 2 X.A) (hm : X.mg x = some (.ref C)) (args : DA X [e] fr) (hc : X.calm = true := by rfl) (hg : Gl X x := by rfl) (hdb : (x == ("__debug__" : Str)) = false := by decide)
    (he : starEach [e] X.env = (false, eval e X.env) :: starEach [] X.env := by rfl) (hpl : (backTo pos (starEach [] X.env)).any (·.1) = false := by rfl) :
    DS X (.Raise (some (.Call (.Name x p) [e] [] pos)) none pos2) (dRaise C f fr) := by
  refine ⟨PS.of (L2N.ps_raise hc (takesW X) (pmk1 T room hg hm args.pa hdb he hpl)) fun E σ H ⟨ρ, M, al, F, G, W, es, q⟩ => ?_, fun D D' ρ M w q => args.mono _ _ _ _ (fun ds M1 q1 => q1) q⟩
  refine args.seq W es q fun ds M1 al1 F1 H1 vs q1 e1 W1 r1 s1 => ?_
  match ds, r1, q1 with
  | [d], .cons rd .nil, q1 =>
    refine ⟨_, rfl, fun q hq => ?_⟩
    obtain ⟨W2, e2⟩ := W1.newF (p := q) (o := .xd [(f, _)]) hq
    exact ⟨plain_ref C, s1.xo (.ref C) [(f, d)] ρ.v M1 al1 _ _ (some q) σ e2 W2 (s1.sl.ext e2) (.inr ⟨q, [(f, _)], rfl, upd_same, rfl, show Rps _ _ _ [_] [d] from .cons (rd.ext e2) .nil⟩) q1⟩
/-- a statement that is never reached -/
@[reducible] def dNever : DTS := fun _ _ _ => False
theorem ds_never {st : Stmt} : DS X st dNever := ⟨⟨fun pins s σ H D I ⟨_, _, _, _, _, _, _, q⟩ => q.elim⟩, fun _ _ _ _ _ q => q⟩
end
theorem zip_back {α β : Type} : ∀ l : List (α × β), (l.map (·.1)).zip (l.map (·.2)) = l
  | [] => rfl
  | (x, y) :: l => by
    show (x, y) :: (l.map (·.1)).zip (l.map (·.2)) = _
    rw [zip_back l]
theorem FldOk.rp {K : PySem.W.Frag} {F : Hp} {al : List Addr} {o : Option Addr} {fs : List (Str × D)} (h : FldOk K F al o fs) (a : Addr) (c : Value) : Rp K F al (.ref a) (.exo a c o (fs.map (·.1)) (fs.map (·.2))) := by
  rcases h with ⟨rfl, rfl⟩ | ⟨q, vs, rfl, h1, h2, h3⟩
  · exact .exo0 a c
  · refine .exo (xs := vs.map (·.2)) ?_ ?_ h3
    · rw [← h2, zip_back]
      exact h1
    · rw [← h2, List.length_map, List.length_map]
def LiftSN (K : PySem.W.Frag) (f : DTS) : TS := fun E σ H => ∃ ρ M al F G, Wd K al F G H M ∧ Sl K F al σ ρ.v ∧ ρ.x = noX ∧ f (kontS K al F G noX E) ρ M
theorem LiftSN.of {Y : Cx} {f : DTS} {E : Ends} {σ : L2.St} {H : Hp} (h : LiftSN Y.K f E σ H) : LiftS Y f E σ H := by
  obtain ⟨ρ, M, al, F, G, W, s, x, q⟩ := h
  exact ⟨ρ, M, al, F, G, W, Es.none s x, by rw [x]; exact q⟩
theorem exm_noc {K : PySem.W.Frag} {C : Addr} {c : Value} {b : Bool} (h : PySem.W.exmOne K (ctxd C) c = some b) : False := by
  unfold PySem.W.exmOne at h
  split at h
  · cases c with
    | ref x =>
      replace h : (if ((PySem.W.clsIn K x).isSome && PySem.W.typeIn K (.ref x) == some (.type "type")) = true then PySem.W.subIn K (ctxd C) (.ref x) else none) = some b := h
      split at h
      · exact nomatch (show (none : Option Bool) = some b from h)
      · cases h
    | type T =>
      replace h : (if PySem.W.kitMeta T = true then PySem.W.subIn K (ctxd C) (.type T) else none) = some b := h
      split at h
      · exact nomatch (show (none : Option Bool) = some b from h)
      · cases h
    | _ => exact nomatch (show (none : Option Bool) = some b from h)
  · cases h
/-- .. behind which the slot i is empty -/
@[reducible] def endsU (i : Nat) (D : DEnds) (x : DXS) : DEnds := ⟨fun ρ M => D.nx ⟨ρ.v.set i none, x⟩ M, D.rt, fun ρ M => D.bk ⟨ρ.v.set i none, x⟩ M, fun ρ M => D.ct ⟨ρ.v.set i none, x⟩ M⟩
end DL
set_option maxHeartbeats 2000000
namespace DL
open PySem PySem.Spec PyProof.Rows L2
/-- what an exception class must say, so that isinstance asks its instances rightly, and its fields are read -/
structure ExI (K : PySem.W.Frag) (C : Addr) : Prop where
  ga : PySem.W.findIn K (.ref C) "__getattribute__" = some (some (.builtin "BaseException.__getattribute__"))
  gg : PySem.W.findIn K (.ref C) "__getattr__" = some none
  ex : PySem.W.subIn K (.ref C) (.type "BaseException") = some true
  hd : PySem.W.hasDictIn K C = true
  cl : PySem.W.findIn K (.ref C) "__class__" = some (some (.builtin "object.__class__"))
  gs : PySem.W.specialIn K (.builtin "object.__class__") "__get__" = some (some (.builtin "getset_descriptor.__get__"))
  tk : PySem.W.takesIn K (.builtin "object.__class__") = some true
  ob : PySem.W.mroIn K C (.type "object") = some true
theorem ExI.is {K : PySem.W.Frag} {C : Addr} (h : ExI K C) : (PySem.W.clsIn K C).isSome = true := by
  have hd := h.hd
  unfold PySem.W.hasDictIn at hd
  cases e : PySem.W.clsIn K C with
  | none => rw [e] at hd; cases hd
  | some c => rfl
/-- the exception at a is handled: its object is pinned -/
structure Pin (Y : Cx) (a : Addr) (cls : Value) (d : Option Addr) : Prop where
  ex : ∃ oe : Obj, (a, oe) ∈ Y.pn ∧ L2N.Zn cls d oe ∧ ∃ vs, oe.data = .fields vs
/-- .. whatever its context is -/
structure PinC (Y : Cx) (a : Addr) (cls : Value) (d : Option Addr) : Prop where
  ex : ∃ oe : Obj, (a, oe) ∈ Y.pn ∧ L2.Zc cls d oe ∧ ∃ vs, oe.data = .fields vs
theorem Pin.c {Y : Cx} {a : Addr} {cls : Value} {d : Option Addr} (p : Pin Y a cls d) : PinC Y a cls d := by
  obtain ⟨oe, h1, h2, h3⟩ := p.ex
  exact ⟨oe, h1, h2.zc, h3⟩
def DictAt (H : Hp) : Option Addr → Prop
  | none => True
  | some q => ∃ fs, H q = some (.xd fs)
/-- an expression that names a class -/
def NmC (Y : Cx) (e : Expr) (cv : Value) : Prop := ∃ v, PE Y e (tC v) ∧ ClsV v cv
inductive NmCs (Y : Cx) : List Expr → List Value → Prop
  | nil : NmCs Y [] []
  | cons {e : Expr} {es : List Expr} {c : Value} {cs : List Value} : NmC Y e c → (starEach (e :: es) Y.env = (false, eval e Y.env) :: starEach es Y.env) → NmCs Y es cs → NmCs Y (e :: es) (c :: cs)
theorem NmCs.pa {Y : Cx} : ∀ {es : List Expr} {cs : List Value}, NmCs Y es cs → ∃ vs t, PA Y es t ∧ Paired ClsV vs cs ∧ ∀ σ H (Q : List V → Hp → Prop), Q vs H → t σ H Q
  | _, _, .nil => ⟨[], _, pa_nil, .nil, fun _ _ _ q => q⟩
  | _, _, .cons ⟨v, hv, k⟩ hs r => by
    obtain ⟨vs, t, ht, kk, w⟩ := r.pa
    exact ⟨v :: vs, _, pa_cons hv ht hs, .cons k kk, fun σ H Q q => w σ H _ q⟩
theorem Paired.len {α β : Type} {R : α → β → Prop} : ∀ {xs : List α} {ys : List β}, Paired R xs ys → xs.length = ys.length
  | _, _, .nil => rfl
  | _, _, .cons _ r => by rw [List.length_cons, List.length_cons, Paired.len r]
end DL
set_option maxHeartbeats 2000000
namespace DL
open PySem PySem.Spec PyProof.Rows L2
open L2H (RoomH Hot1 PinOk cxH inv_startH)
end DL
set_option maxHeartbeats 2000000
namespace DL
open PySem PySem.Spec PyProof.Rows L2
/-- what an except clause asks for: one class or a tuple of some -/
inductive Tst (X : Cx) : Expr → List Value → Prop
  | one {x : Str} {np : Pos} {c : Value} : Names X x c → Tst X (.Name x np) [c]
  | two {x1 x2 : Str} {p1 p2 p : Pos} {c1 c2 : Value} {k : Nat} : Names X x1 c1 → Names X x2 c2 → Tst X (.Tuple [.Name x1 p1, .Name x2 p2] k p) [c1, c2]
  | three {x1 x2 x3 : Str} {p1 p2 p3 p : Pos} {c1 c2 c3 : Value} {k : Nat} : Names X x1 c1 → Names X x2 c2 → Names X x3 c3 → Tst X (.Tuple [.Name x1 p1, .Name x2 p2, .Name x3 p3] k p) [c1, c2, c3]
  | four {x1 x2 x3 x4 : Str} {p1 p2 p3 p4 p : Pos} {c1 c2 c3 c4 : Value} {k : Nat} : Names X x1 c1 → Names X x2 c2 → Names X x3 c3 → Names X x4 c4 → Tst X (.Tuple [.Name x1 p1, .Name x2 p2, .Name x3 p3, .Name x4 p4] k p) [c1, c2, c3, c4]
abbrev Cla : Type := List Value × Nat × (Addr → Value → Option Addr → TS)
@[reducible] def endsI (i : Nat) (D : Ends) : Ends := { nx := fun σ' H' => D.nx (σ'.set i none) H', rt := D.rt, bk := fun σ' H' => D.bk (σ'.set i none) H', ct := fun σ' H' => D.ct (σ'.set i none) H' }
/-- what the clauses wish of an exception of the body -/
def wAll (K : PySem.W.Frag) (Wout : WX) (D : Ends) : List Cla → WX
  | [] => Wout
  | (cs, i, ts) :: r => fun cls d σ H => ∃ b, PySem.W.exmAny K cls cs = some b ∧ (b = true → ∀ a, H a = none → ts a cls d (endsI i D) (σ.set i (some (.ref a))) H) ∧ (b = false → wAll K Wout D r cls d σ H)
inductive HdA (X : Cx) : List ExceptHandler → List Cla → Prop
  | nil : HdA X [] []
  | cons {t : Expr} {n : Str} {i : Nat} {cs : List Value} {ts : Addr → Value → Option Addr → TS} {b₀ : Stmt} {suite : List Stmt} {pos' : Pos} {hds : List ExceptHandler} {l : List Cla} (T : Tst X t cs) (hi : X.N[i]? = some n) (hln : X.env.kindOf n = some .local)
      (hsu : ∀ (a : Addr) (oe : Obj) (cls : Value) (d : Option Addr) (pn : List (Addr × Obj)), L2N.Zn cls d oe → (∃ vs, oe.data = .fields vs) → PSs (X.suite a ((a, oe) :: pn)) (b₀ :: suite) (ts a cls d)) (r : HdA X hds l) :
      HdA X (.ExceptHandler (some t) (some n) (b₀ :: suite) pos' :: hds) ((cs, i, ts) :: l)
abbrev Dcl : Type := List Value × Nat × (Addr → Value → Option Addr → DTS)
@[reducible] def dWish (K : PySem.W.Frag) (D : DEnds) (x0 : DXS) : List Dcl → DXS
  | [] => x0
  | (cs, i, fs) :: r => fun cls fl vs M' => ∃ b, PySem.W.exmAny K cls cs = some b ∧ (b = true → ∀ a o, fs a cls o (endsU i D x0) ⟨vs.set i (some (.exo a cls o (fl.map (·.1)) (fl.map (·.2)))), noX⟩ M') ∧ (b = false → dWish K D x0 r cls fl vs M')
inductive DHd (X : Cx) : List ExceptHandler → List Dcl → Prop
  | nil : DHd X [] []
  | cons {t : Expr} {n : Str} {i : Nat} {cs : List Value} {fs : Addr → Value → Option Addr → DTS} {b₀ : Stmt} {suite : List Stmt} {pos' : Pos} {hds : List ExceptHandler} {l : List Dcl} (T : Tst X t cs) (hi : X.N[i]? = some n) (hln : X.env.kindOf n = some .local)
      (hsu : ∀ (a : Addr) (oe : Obj) (cls : Value) (d : Option Addr) (pn : List (Addr × Obj)), L2N.Zn cls d oe → (∃ vs, oe.data = .fields vs) → DSs (X.suite a ((a, oe) :: pn)) (b₀ :: suite) (fs a cls d)) (r : DHd X hds l) :
      DHd X (.ExceptHandler (some t) (some n) (b₀ :: suite) pos' :: hds) ((cs, i, fs) :: l)
def liftC (K : PySem.W.Frag) (c : Dcl) : Cla := (c.1, c.2.1, fun a cls d => LiftSN K (c.2.2 a cls d))
theorem DHd.hd {X : Cx} {hds : List ExceptHandler} {l : List Dcl} (h : DHd X hds l) : HdA X hds (l.map (liftC X.K)) := by
  induction h with
  | nil => exact .nil
  | cons T hi hln hsu r ih => exact .cons T hi hln (fun a oe cls d pn hz hd => PSs.of (hsu a oe cls d pn hz hd).ps fun E σ H h => LiftSN.of h) ih
theorem Tst.noc {X : Cx} {t : Expr} {cs : List Value} (h : Tst X t cs) {K : PySem.W.Frag} {C : Addr} {b : Bool} (e : PySem.W.exmAny K (ctxd C) cs = some b) : False := by
  cases h <;> (obtain ⟨b1, d1, x1, _, _⟩ := PySem.W.exmAny_cons e; exact exm_noc x1)
theorem DHd.noc {X : Cx} {h₀ : ExceptHandler} {hds : List ExceptHandler} {l : List Dcl} (h : DHd X (h₀ :: hds) l) {K : PySem.W.Frag} {Wout : WX} {D : Ends} : NoC (wAll K Wout D (l.map (liftC K))) := by
  cases h with
  | cons T hi hln hsu r => exact fun C d σ H ⟨b, e, _⟩ => T.noc e
theorem DHd.plain {X : Cx} {h₀ : ExceptHandler} {hds : List ExceptHandler} {l : List Dcl} (h : DHd X (h₀ :: hds) l) {K : PySem.W.Frag} {E : DEnds} {x0 : DXS} {cls : Value} {fl : List (Str × D)} {vs : List (Option D)} {M : Sto} (z : dWish K E x0 l cls fl vs M) : plainC cls := by
  cases h with
  | cons T hi hln hsu r =>
    obtain ⟨b, e, _⟩ := z
    exact fun C ec => T.noc (ec ▸ e)
theorem DHd.mono {X : Cx} {hds : List ExceptHandler} {l : List Dcl} (h : DHd X hds l) : ∀ c ∈ l, ∀ a cls d, MonoS (c.2.2 a cls d) := by
  induction h with
  | nil => exact fun c hc => nomatch hc
  | cons T hi hln hsu r ih =>
    intro c hc a cls d
    rcases List.mem_cons.mp hc with rfl | hc
    · exact (hsu a { cls := cls, dict := d, data := .fields #[.none, .none, .none] } cls d [] ⟨rfl, rfl, fun vs e => by cases e; rfl⟩ ⟨_, rfl⟩).mono
    · exact ih c hc a cls d
end DL
set_option maxHeartbeats 2000000
namespace DL
open PySem PySem.Spec PyProof.Rows L2
/-- a flat datum's value -/
def fV : D → Option V
  | .non => some .non
  | .bl b => some (.bl b)
  | .int i => some (.int i)
  | .str x => some (.str x)
  | _ => none
def fVs : List D → Option (List V)
  | [] => some []
  | d :: ds => match fV d, fVs ds with
    | some v, some vs => some (v :: vs)
    | _, _ => none
theorem fV_ok {K : PySem.W.Frag} {F : Hp} {al : List Addr} {v u : V} {d : D} (r : Rp K F al v d) (h : fV d = some u) : v = u ∧ flatV u = true := by
  cases r <;> cases h <;> exact ⟨rfl, rfl⟩
theorem fVs_ok {K : PySem.W.Frag} {F : Hp} {al : List Addr} : ∀ {ds : List D} {vs us : List V}, Rps K F al vs ds → fVs ds = some us → vs = us ∧ us.all flatV = true
  | [], _, _, .nil, h => by cases h; exact ⟨rfl, rfl⟩
  | d :: ds, _, _, .cons r rs, h => by
    unfold fVs at h
    split at h
    · next v vs e1 e2 =>
      cases h
      obtain ⟨rfl, h1⟩ := fV_ok r e1
      obtain ⟨rfl, h2⟩ := fVs_ok rs e2
      exact ⟨rfl, by rw [List.all_cons, h1, h2]; rfl⟩
    · cases h
@[reducible] def gIn (neg : Bool) : G2 := fun x y M Q => match fV x, (itemsOf y M).bind fVs with
  | some v, some vs => Q (.bl (if neg then !inV v vs else inV v vs)) M
  | _, _ => False
theorem gIn_mono (neg : Bool) : Mono2 (gIn neg) := fun x y M Q Q' w q => by
  unfold gIn at q ⊢
  split at q
  · exact w _ _ q
  · exact q.elim
section
variable {X : Cx}
theorem gIn_ok {neg : Bool} {K : PySem.W.Frag} {al : List Addr} {F G H : Hp} {M : Sto} {x y : V} {dx dy : D} {Q : VK} (W : Wd K al F G H M) (r1 : Rp K F al x dx) (r2 : Rp K F al y dy) (q : gIn neg dx dy M (kont K al F G Q)) : rIn K neg x y H Q := by
  unfold gIn at q
  split at q
  · next v vs e1 e2 =>
    obtain ⟨rfl, f1⟩ := fV_ok r1 e1
    cases e3 : itemsOf dy M with
    | none => rw [e3] at e2; cases e2
    | some ds =>
      rw [e3, Option.bind_some] at e2
      obtain ⟨a, xs, rfl, hs, rs⟩ := itemsOf_ok W r2 e3
      obtain ⟨rfl, f2⟩ := fVs_ok rs e2
      exact ⟨a, xs, rfl, hs.elim (fun h => .inr (sqR h)) (fun h => .inl (SqL.of h)), f1, f2, kont.here q W (.bl _)⟩
  · exact q.elim
theorem o_in (hu : X.A.units + 64 < cLine) : O2 X (compareOp .In) (gIn false) := O2.of op_in_seq (gIn_mono _) fun al F G H M x y dx dy Q W r1 r2 q => gIn_ok W r1 r2 q
theorem o_notin (hu : X.A.units + 64 < cLine) : O2 X (compareOp .NotIn) (gIn true) := O2.of op_notIn_seq (gIn_mono _) fun al F G H M x y dx dy Q W r1 r2 q => gIn_ok W r1 r2 q
end
end DL
namespace MT
abbrev Tr := List (Nat × Nat)
def TreeOk (t : Tr) : Prop := t.length ≤ 11 ∧ ∀ (k : Nat) (p : Nat × Nat), t[k]? = some p → p.1 ≤ k ∧ 1 ≤ p.2 ∧ p.2 ≤ 1000000
/-- the parent of a mark from 1 on; the length of its row -/
def par (t : Tr) (m : Nat) : Nat := min (t.getD (m - 1) (0, 0)).1 (m - 1)
def ln (t : Tr) (m : Nat) : Nat := (t.getD (m - 1) (0, 0)).2
theorem par_lt (t : Tr) {m : Nat} (h : 0 < m) : par t m < m := by unfold par; omega
theorem par_of {t : Tr} (ht : TreeOk t) {k : Nat} {p : Nat × Nat} (h : t[k]? = some p) : par t (k + 1) = p.1 ∧ ln t (k + 1) = p.2 := by
  have e : t.getD k (0, 0) = p := by rw [List.getD_eq_getElem?_getD, h]; rfl
  unfold par ln
  rw [Nat.add_sub_cancel, e]
  have := (ht.2 k p h).1
  exact ⟨by omega, rfl⟩
def above (t : Tr) (m : Nat) : List Nat := if h : m = 0 then [0] else m :: above t (par t m)
termination_by m
decreasing_by exact par_lt t (by omega)
theorem above_0 (t : Tr) : above t 0 = [0] := by rw [above, dif_pos rfl]
theorem above_s (t : Tr) {m : Nat} (h : m ≠ 0) : above t m = m :: above t (par t m) := by rw [above, dif_neg h]
def dist (t : Tr) (i j : Nat) : Int := if i = j then 0 else if h : j < i then (ln t i : Int) + dist t (par t i) j else dist t i (par t j) + ln t j
termination_by i + j
decreasing_by
  · have := par_lt t (show 0 < i by omega); omega
  · have := par_lt t (show 0 < j by omega); omega
theorem dist_self (t : Tr) (i : Nat) : dist t i i = 0 := by rw [dist, if_pos rfl]
theorem dist_gt (t : Tr) {i j : Nat} (h : j < i) : dist t i j = ln t i + dist t (par t i) j := by rw [dist, if_neg (by omega), dif_pos h]
theorem dist_lt (t : Tr) {i j : Nat} (h : i < j) : dist t i j = dist t i (par t j) + ln t j := by rw [dist, if_neg (by omega), dif_neg (by omega)]
theorem dist_comm (t : Tr) (i j : Nat) : dist t i j = dist t j i := by
  rcases Nat.lt_trichotomy i j with h | h | h
  · have := par_lt t (show 0 < j by omega)
    rw [dist_lt t h, dist_gt t h, dist_comm t i (par t j)]
    omega
  · subst h; rfl
  · have := par_lt t (show 0 < i by omega)
    rw [dist_gt t h, dist_lt t h, dist_comm t (par t i) j]
    omega
termination_by i + j
theorem dist_nonneg (t : Tr) (i j : Nat) : 0 ≤ dist t i j := by
  rcases Nat.lt_trichotomy i j with h | h | h
  · have := par_lt t (show 0 < j by omega)
    have := dist_nonneg t i (par t j)
    rw [dist_lt t h]
    omega
  · subst h; rw [dist_self]; exact Int.le_refl _
  · have := par_lt t (show 0 < i by omega)
    have := dist_nonneg t (par t i) j
    rw [dist_gt t h]
    omega
termination_by i + j
theorem ln_le {t : Tr} (ht : TreeOk t) (m : Nat) : ln t m ≤ 1000000 := by
  unfold ln
  rw [List.getD_eq_getElem?_getD]
  cases e : t[m - 1]? with
  | none => exact Nat.zero_le _
  | some p => exact (ht.2 _ _ e).2.2
theorem dist_le {t : Tr} (ht : TreeOk t) (i j : Nat) : dist t i j ≤ (i + j : Nat) * 1000000 := by
  have hi := ln_le ht i
  have hj := ln_le ht j
  rcases Nat.lt_trichotomy i j with h | h | h
  · have h1 := par_lt t (show 0 < j by omega)
    have h2 := dist_le ht i (par t j)
    rw [dist_lt t h]
    omega
  · subst h; rw [dist_self]; omega
  · have h1 := par_lt t (show 0 < i by omega)
    have h2 := dist_le ht (par t i) j
    rw [dist_gt t h]
    omega
termination_by i + j
/-- the law's own way -/
def lway (t : Tr) (i j : Nat) : List Nat := if i = j then [i] else if h : j < i then i :: lway t (par t i) j else lway t i (par t j) ++ [j]
termination_by i + j
decreasing_by
  · have := par_lt t (show 0 < i by omega); omega
  · have := par_lt t (show 0 < j by omega); omega
theorem lway_self (t : Tr) (i : Nat) : lway t i i = [i] := by rw [lway, if_pos rfl]
theorem lway_gt (t : Tr) {i j : Nat} (h : j < i) : lway t i j = i :: lway t (par t i) j := by rw [lway, if_neg (by omega), dif_pos h]
theorem lway_lt (t : Tr) {i j : Nat} (h : i < j) : lway t i j = lway t i (par t j) ++ [j] := by rw [lway, if_neg (by omega), dif_neg (by omega)]
theorem lway_len (t : Tr) (i j : Nat) : (lway t i j).length ≤ i + j + 1 := by
  rcases Nat.lt_trichotomy i j with h | h | h
  · have := par_lt t (show 0 < j by omega)
    have := lway_len t i (par t j)
    rw [lway_lt t h, List.length_append, List.length_singleton]
    omega
  · subst h; rw [lway_self, List.length_singleton]; omega
  · have := par_lt t (show 0 < i by omega)
    have := lway_len t (par t i) j
    rw [lway_gt t h, List.length_cons]
    omega
termination_by i + j
theorem lway_mem (t : Tr) (i j : Nat) : ∀ x ∈ lway t i j, x ≤ max i j := by
  intro x hx
  rcases Nat.lt_trichotomy i j with h | h | h
  · have h1 := par_lt t (show 0 < j by omega)
    rw [lway_lt t h, List.mem_append, List.mem_singleton] at hx
    rcases hx with hx | hx
    · have := lway_mem t i (par t j) x hx; omega
    · omega
  · subst h; rw [lway_self, List.mem_singleton] at hx; omega
  · have h1 := par_lt t (show 0 < i by omega)
    rw [lway_gt t h, List.mem_cons] at hx
    rcases hx with hx | hx
    · omega
    · have := lway_mem t (par t i) j x hx; omega
termination_by i + j
theorem lway_head (t : Tr) (i j : Nat) : ∃ r, lway t i j = i :: r := by
  rcases Nat.lt_trichotomy i j with h | h | h
  · have := par_lt t (show 0 < j by omega)
    obtain ⟨r, e⟩ := lway_head t i (par t j)
    rw [lway_lt t h, e]
    exact ⟨r ++ [j], rfl⟩
  · subst h; rw [lway_self]; exact ⟨[], rfl⟩
  · rw [lway_gt t h]; exact ⟨_, rfl⟩
termination_by i + j
theorem lway_last (t : Tr) (i j : Nat) : ∃ r, lway t i j = r ++ [j] := by
  rcases Nat.lt_trichotomy i j with h | h | h
  · rw [lway_lt t h]; exact ⟨_, rfl⟩
  · subst h; rw [lway_self]; exact ⟨[], rfl⟩
  · have := par_lt t (show 0 < i by omega)
    obtain ⟨r, e⟩ := lway_last t (par t i) j
    rw [lway_gt t h, e]
    exact ⟨i :: r, rfl⟩
termination_by i + j
/-- of two lists, the last ones dropped while the second last ones are equal; root first here -/
def strip : List Nat → List Nat → List Nat × List Nat
  | c :: x :: xs, d :: y :: ys => if x = y then strip (x :: xs) (y :: ys) else (c :: x :: xs, d :: y :: ys)
  | a, b => (a, b)
def join (p : List Nat × List Nat) : List Nat := p.1.reverse ++ p.2.tail
theorem strip_snoc (i : Nat) : ∀ (a b : List Nat), a ≠ [] → i ∉ b → strip (a ++ [i]) b = ((strip a b).1 ++ [i], (strip a b).2)
  | [], b, h, _ => absurd rfl h
  | [c], [], _, _ => by simp [strip]
  | [c], [d], _, _ => by simp [strip]
  | [c], d :: y :: ys, _, hi => by
    have : i ≠ y := fun e => hi (by simp [e])
    simp [strip, this]
  | c :: x :: xs, [], _, _ => by simp [strip]
  | c :: x :: xs, [d], _, _ => by simp [strip]
  | c :: x :: xs, d :: y :: ys, _, hi => by
    show strip (c :: x :: (xs ++ [i])) (d :: y :: ys) = _
    by_cases e : x = y
    · have e1 : strip (c :: x :: (xs ++ [i])) (d :: y :: ys) = strip (x :: (xs ++ [i])) (y :: ys) := by rw [strip, if_pos e]
      have e2 : strip (c :: x :: xs) (d :: y :: ys) = strip (x :: xs) (y :: ys) := by rw [strip, if_pos e]
      rw [e1, e2]
      exact strip_snoc i (x :: xs) (y :: ys) (by simp) (fun z => hi (List.mem_cons_of_mem _ z))
    · have e1 : strip (c :: x :: (xs ++ [i])) (d :: y :: ys) = (c :: x :: (xs ++ [i]), d :: y :: ys) := by rw [strip, if_neg e]
      have e2 : strip (c :: x :: xs) (d :: y :: ys) = (c :: x :: xs, d :: y :: ys) := by rw [strip, if_neg e]
      rw [e1, e2]
      rfl
theorem strip_swap : ∀ (a b : List Nat), strip b a = ((strip a b).2, (strip a b).1)
  | [], [] => by simp [strip]
  | [], [d] => by simp [strip]
  | [], d :: y :: ys => by simp [strip]
  | [c], [] => by simp [strip]
  | [c], [d] => by simp [strip]
  | [c], d :: y :: ys => by simp [strip]
  | c :: x :: xs, [] => by simp [strip]
  | c :: x :: xs, [d] => by simp [strip]
  | c :: x :: xs, d :: y :: ys => by
    by_cases e : x = y
    · have e1 : strip (d :: y :: ys) (c :: x :: xs) = strip (y :: ys) (x :: xs) := by rw [strip, if_pos e.symm]
      have e2 : strip (c :: x :: xs) (d :: y :: ys) = strip (x :: xs) (y :: ys) := by rw [strip, if_pos e]
      rw [e1, e2]
      exact strip_swap (x :: xs) (y :: ys)
    · have e1 : strip (d :: y :: ys) (c :: x :: xs) = (d :: y :: ys, c :: x :: xs) := by rw [strip, if_neg (Ne.symm e)]
      have e2 : strip (c :: x :: xs) (d :: y :: ys) = (c :: x :: xs, d :: y :: ys) := by rw [strip, if_neg e]
      rw [e1, e2]
theorem above_le (t : Tr) (m : Nat) : ∀ x ∈ above t m, x ≤ m := by
  intro x hx
  by_cases h : m = 0
  · subst h; rw [above_0, List.mem_singleton] at hx; omega
  · rw [above_s t h, List.mem_cons] at hx
    have := par_lt t (show 0 < m by omega)
    rcases hx with hx | hx
    · omega
    · have := above_le t (par t m) x hx; omega
termination_by m
theorem above_ne (t : Tr) (m : Nat) : above t m ≠ [] := by
  by_cases h : m = 0
  · subst h; rw [above_0]; simp
  · rw [above_s t h]; simp
theorem above_len (t : Tr) (m : Nat) : (above t m).length ≤ m + 1 := by
  by_cases h : m = 0
  · subst h; rw [above_0]; simp
  · have := par_lt t (show 0 < m by omega)
    have := above_len t (par t m)
    rw [above_s t h, List.length_cons]
    omega
termination_by m
theorem strip_self : ∀ (a : List Nat) (i : Nat), strip (a ++ [i]) (a ++ [i]) = ([i], [i])
  | [], i => by simp [strip]
  | [c], i => by
    show strip (c :: i :: []) (c :: i :: []) = _
    rw [strip, if_pos rfl]
    simp [strip]
  | c :: x :: xs, i => by
    show strip (c :: x :: (xs ++ [i])) (c :: x :: (xs ++ [i])) = _
    rw [strip, if_pos rfl]
    exact strip_self (x :: xs) i
theorem strip_snd_ne (a b : List Nat) (h : b ≠ []) : (strip a b).2 ≠ [] := by
  match a, b with
  | [], b => cases b <;> simp [strip] at h ⊢
  | [c], b => cases b with
    | nil => exact absurd rfl h
    | cons d ys => cases ys <;> simp [strip]
  | c :: x :: xs, [] => exact absurd rfl h
  | c :: x :: xs, [d] => simp [strip]
  | c :: x :: xs, d :: y :: ys =>
    by_cases e : x = y
    · have e2 : strip (c :: x :: xs) (d :: y :: ys) = strip (x :: xs) (y :: ys) := by rw [strip, if_pos e]
      rw [e2]
      exact strip_snd_ne (x :: xs) (y :: ys) (by simp)
    · have e2 : strip (c :: x :: xs) (d :: y :: ys) = (c :: x :: xs, d :: y :: ys) := by rw [strip, if_neg e]
      rw [e2]
      simp
/-- the way that the program finds is the law's -/
theorem way_eq (t : Tr) (i j : Nat) : join (strip (above t i).reverse (above t j).reverse) = lway t i j := by
  rcases Nat.lt_trichotomy i j with h | h | h
  · have h1 := par_lt t (show 0 < j by omega)
    rw [lway_lt t h, ← way_eq t i (par t j), above_s t (show j ≠ 0 by omega), List.reverse_cons, strip_swap, strip_snoc j _ _ (by simpa using above_ne t (par t j)) (fun z => by
      have := above_le t i j (by simpa using z)
      omega), strip_swap (above t i).reverse]
    unfold join
    have hne := strip_snd_ne (above t i).reverse (above t (par t j)).reverse (by simpa using above_ne t (par t j))
    show (strip (above t i).reverse (above t (par t j)).reverse).1.reverse ++ ((strip (above t i).reverse (above t (par t j)).reverse).2 ++ [j]).tail = _
    rw [List.tail_append_of_ne_nil hne, List.append_assoc]
  · subst h
    have : ∃ a, (above t i).reverse = a ++ [i] := by
      by_cases h : i = 0
      · subst h; rw [above_0]; exact ⟨[], rfl⟩
      · rw [above_s t h, List.reverse_cons]; exact ⟨_, rfl⟩
    obtain ⟨a, e⟩ := this
    rw [lway_self, e, strip_self]
    rfl
  · have h1 := par_lt t (show 0 < i by omega)
    rw [lway_gt t h, ← way_eq t (par t i) j, above_s t (show i ≠ 0 by omega), List.reverse_cons, strip_snoc i _ _ (by simpa using above_ne t (par t i)) (fun z => by
      have := above_le t j i (by simpa using z)
      omega)]
    unfold join
    show ((strip (above t (par t i)).reverse (above t j).reverse).1 ++ [i]).reverse ++ _ = _
    rw [List.reverse_append]
    rfl
termination_by i + j
/-- the lengths along a way -/
def legs (t : Tr) : List Nat → List Int
  | x :: y :: r => (ln t (max x y) : Int) :: legs t (y :: r)
  | _ => []
theorem legs_snoc (t : Tr) : ∀ (r : List Nat) (x y : Nat), legs t (r ++ [x] ++ [y]) = legs t (r ++ [x]) ++ [(ln t (max x y) : Int)]
  | [], x, y => rfl
  | [a], x, y => rfl
  | a :: b :: r, x, y => by
    show (ln t (max a b) : Int) :: legs t ((b :: r) ++ [x] ++ [y]) = (ln t (max a b) : Int) :: legs t ((b :: r) ++ [x]) ++ [_]
    rw [legs_snoc t (b :: r) x y]
    rfl
theorem legs_sum (t : Tr) (i j : Nat) : (legs t (lway t i j)).sum = dist t i j := by
  rcases Nat.lt_trichotomy i j with h | h | h
  · have h1 := par_lt t (show 0 < j by omega)
    have ih := legs_sum t i (par t j)
    obtain ⟨r, e⟩ := lway_last t i (par t j)
    rw [lway_lt t h, dist_lt t h, ← ih, e, legs_snoc, List.sum_append, show max (par t j) j = j by omega]
    simp
  · subst h; rw [lway_self, dist_self]; rfl
  · have h1 := par_lt t (show 0 < i by omega)
    have ih := legs_sum t (par t i) j
    obtain ⟨r, e⟩ := lway_head t (par t i) j
    rw [lway_gt t h, dist_gt t h, ← ih, e]
    show ((ln t (max i (par t i)) : Int) :: legs t (par t i :: r)).sum = _
    rw [List.sum_cons, show max i (par t i) = i by omega]
termination_by i + j
/-- neighbours on a list differ -/
def Ok2 : List Nat → Prop
  | x :: y :: r => x ≠ y ∧ Ok2 (y :: r)
  | _ => True
theorem Ok2_snoc : ∀ (r : List Nat) (x y : Nat), Ok2 (r ++ [x]) → x ≠ y → Ok2 (r ++ [x] ++ [y])
  | [], x, y, _, h => ⟨h, trivial⟩
  | [a], x, y, h1, h => ⟨h1.1, h, trivial⟩
  | a :: b :: r, x, y, h1, h => ⟨h1.1, Ok2_snoc (b :: r) x y h1.2 h⟩
theorem Ok2_get : ∀ {w : List Nat} {i x y : Nat}, Ok2 w → w[i]? = some x → w[i + 1]? = some y → x ≠ y
  | [], _, _, _, _, h, _ => by simp at h
  | [a], _, _, _, _, _, h => by simp at h
  | a :: b :: r, 0, x, y, h, h1, h2 => by
    simp at h1 h2
    rw [← h1, ← h2]
    exact h.1
  | a :: b :: r, i + 1, x, y, h, h1, h2 => Ok2_get (w := b :: r) (i := i) h.2 (by simpa using h1) (by simpa using h2)
theorem lway_ok2 (t : Tr) (i j : Nat) : Ok2 (lway t i j) := by
  rcases Nat.lt_trichotomy i j with h | h | h
  · have h1 := par_lt t (show 0 < j by omega)
    have ih := lway_ok2 t i (par t j)
    obtain ⟨r, e⟩ := lway_last t i (par t j)
    rw [lway_lt t h, e]
    rw [e] at ih
    exact Ok2_snoc r _ _ ih (by omega)
  · subst h; rw [lway_self]; trivial
  · have h1 := par_lt t (show 0 < i by omega)
    have ih := lway_ok2 t (par t i) j
    obtain ⟨r, e⟩ := lway_head t (par t i) j
    rw [lway_gt t h, e]
    rw [e] at ih
    exact ⟨by omega, ih⟩
termination_by i + j
theorem strip_stop {A B : List Nat} (h : ∀ a x y b z u, A = a ++ [x] ++ [y] → B = b ++ [z] ++ [u] → x ≠ z) : join (strip A.reverse B.reverse) = A ++ B.dropLast.reverse := by
  have key : strip A.reverse B.reverse = (A.reverse, B.reverse) := by
    match ea : A.reverse, eb : B.reverse with
    | [], b => cases b <;> simp [strip]
    | [c], b => cases b with
      | nil => simp [strip]
      | cons d ys => cases ys <;> simp [strip]
    | c :: x :: xs, [] => simp [strip]
    | c :: x :: xs, [d] => simp [strip]
    | c :: x :: xs, d :: y :: ys =>
      have e1 : A = xs.reverse ++ [x] ++ [c] := by rw [← List.reverse_reverse A, ea]; simp
      have e2 : B = ys.reverse ++ [y] ++ [d] := by rw [← List.reverse_reverse B, eb]; simp
      have := h _ _ _ _ _ _ e1 e2
      rw [strip, if_neg this]
  unfold join
  rw [key, List.reverse_reverse, List.tail_reverse]
theorem strip_step (a : List Nat) (x y : Nat) (b : List Nat) (u : Nat) : join (strip (a ++ [x] ++ [y]).reverse (b ++ [x] ++ [u]).reverse) = join (strip (a ++ [x]).reverse (b ++ [x]).reverse) := by
  have e1 : (a ++ [x] ++ [y]).reverse = y :: x :: a.reverse := by simp
  have e2 : (b ++ [x] ++ [u]).reverse = u :: x :: b.reverse := by simp
  have e3 : (a ++ [x]).reverse = x :: a.reverse := by simp
  have e4 : (b ++ [x]).reverse = x :: b.reverse := by simp
  rw [e1, e2, e3, e4, strip, if_pos rfl]
end MT
namespace MT
def steps (t : Tr) (i j : Nat) : Nat := (lway t i j).length - 1
theorem steps_self (t : Tr) (i : Nat) : steps t i i = 0 := by unfold steps; rw [lway_self]; rfl
/-- along a row the distance changes by its length -/
theorem dist_edge (t : Tr) (i v : Nat) (hv : 0 < v) : dist t i v = dist t i (par t v) + ln t v ∨ dist t i (par t v) = dist t i v + ln t v := by
  induction i using Nat.strongRecOn with
  | _ i ih =>
    by_cases h1 : i < v
    · exact .inl (dist_lt t h1)
    · by_cases h2 : i = v
      · subst h2
        have hp := par_lt t hv
        right
        rw [dist_self, dist_gt t hp, dist_self]
        omega
      · have hp := par_lt t (show 0 < i by omega)
        have hpv := par_lt t hv
        have := ih _ hp
        rw [dist_gt t (show v < i by omega), dist_gt t (show par t v < i by omega)]
        omega
/-- the last row of a way -/
theorem last_edge (t : Tr) (i v : Nat) (h : i ≠ v) : ∃ q, lway t i v = lway t i q ++ [v] ∧ ((0 < v ∧ q = par t v ∧ dist t i v = dist t i q + ln t v) ∨ (0 < q ∧ q ≤ max i v ∧ v = par t q ∧ dist t i v = dist t i q + ln t q)) := by
  induction i using Nat.strongRecOn with
  | _ i ih =>
    by_cases h1 : i < v
    · exact ⟨par t v, lway_lt t h1, .inl ⟨by omega, rfl, dist_lt t h1⟩⟩
    · have hi : v < i := by omega
      have hp := par_lt t (show 0 < i by omega)
      by_cases h2 : par t i = v
      · refine ⟨i, ?_, .inr ⟨by omega, by omega, h2.symm, ?_⟩⟩
        · rw [lway_gt t hi, h2, lway_self, lway_self]
          rfl
        · rw [dist_gt t hi, h2, dist_self, dist_self]
          omega
      · obtain ⟨q, e, hq⟩ := ih _ hp h2
        have hqm : q ∈ lway t (par t i) v := by
          rw [e]
          obtain ⟨r, er⟩ := lway_last t (par t i) q
          rw [er]
          simp
        have hql := lway_mem t _ _ q hqm
        have hqi : q < i := by omega
        refine ⟨q, ?_, ?_⟩
        · rw [lway_gt t hi, e, lway_gt t hqi]
          rfl
        · rw [dist_gt t hi, dist_gt t hqi]
          rcases hq with ⟨a, b, c⟩ | ⟨a, b, c, d⟩
          · exact .inl ⟨a, b, by omega⟩
          · exact .inr ⟨a, by omega, c, by omega⟩
theorem lway_pos (t : Tr) (i j : Nat) : 0 < (lway t i j).length := by
  obtain ⟨r, e⟩ := lway_head t i j
  rw [e]; simp
theorem steps_last {t : Tr} {i v q : Nat} (e : lway t i v = lway t i q ++ [v]) : steps t i v = steps t i q + 1 := by
  unfold steps
  have := lway_pos t i q
  rw [e, List.length_append, List.length_singleton]
  omega
theorem dist_tri (t : Tr) (i k j : Nat) : dist t i j ≤ dist t i k + dist t k j := by
  induction h : steps t k j generalizing j with
  | zero =>
    by_cases hk : k = j
    · subst hk; rw [dist_self]; omega
    · obtain ⟨q, e, _⟩ := last_edge t k j hk
      have := steps_last e
      omega
  | succ n ih =>
    by_cases hk : k = j
    · subst hk; rw [dist_self]; omega
    · obtain ⟨q, e, hq⟩ := last_edge t k j hk
      have h1 := steps_last e
      have h2 := ih q (by omega)
      rcases hq with ⟨a, b, c⟩ | ⟨a, b, c, d⟩
      · subst b
        have := dist_edge t i j a
        omega
      · subst c
        have := dist_edge t i q a
        omega
theorem getD_set (xs : List Int) (i j : Nat) (v : Int) : (xs.set i v).getD j 0 = if i = j ∧ j < xs.length then v else xs.getD j 0 := by
  rw [List.getD_eq_getElem?_getD, List.getD_eq_getElem?_getD]
  by_cases h : i = j
  · subst h
    by_cases hl : i < xs.length
    · rw [List.getElem?_set_self hl, if_pos ⟨rfl, hl⟩]; rfl
    · rw [if_neg (fun z => hl z.2), List.getElem?_eq_none (by rw [List.length_set]; omega), List.getElem?_eq_none (by omega)]
  · rw [List.getElem?_set_ne h, if_neg (fun z => h z.1)]
structure FarInv (t : Tr) (m j k : Nat) (xs : List Int) : Prop where
  len : xs.length = t.length + 1
  low : ∀ v, v ≤ t.length → dist t m v ≤ xs.getD v 0
  top : ∀ v, v ≤ t.length → xs.getD v 0 ≤ 1000000000000
  fit : ∀ v, v ≤ t.length → steps t m v ≤ j → xs.getD v 0 = dist t m v
  row : ∀ k', k' < k → (steps t m (par t (k' + 1)) ≤ j → xs.getD (k' + 1) 0 ≤ dist t m (par t (k' + 1)) + ln t (k' + 1)) ∧ (steps t m (k' + 1) ≤ j → xs.getD (par t (k' + 1)) 0 ≤ dist t m (k' + 1) + ln t (k' + 1))
theorem steps_zero {t : Tr} {m v : Nat} (h : steps t m v = 0) : m = v := by
  by_cases hk : m = v
  · exact hk
  · obtain ⟨q, e, _⟩ := last_edge t m v hk
    have := steps_last e
    omega
theorem FarInv.start {t : Tr} (ht : TreeOk t) {m : Nat} (hm : m ≤ t.length) : FarInv t m 0 0 ((List.replicate (t.length + 1) 1000000000000).set m 0) := by
  have hg : ∀ v, v ≤ t.length → ((List.replicate (t.length + 1) (1000000000000 : Int)).set m 0).getD v 0 = if m = v then 0 else 1000000000000 := by
    intro v hv
    rw [getD_set]
    by_cases h : m = v
    · rw [if_pos ⟨h, by rw [List.length_replicate]; omega⟩, if_pos h]
    · rw [if_neg (fun z => h z.1), if_neg h, List.getD_eq_getElem?_getD, List.getElem?_replicate, if_pos (by omega)]
      rfl
  have ht1 := ht.1
  refine ⟨by simp, fun v hv => ?_, fun v hv => ?_, fun v hv hs => ?_, fun k' h => by omega⟩
  · rw [hg v hv]
    split
    · next h => subst h; rw [dist_self]; omega
    · have := dist_le ht m v; omega
  · rw [hg v hv]; split <;> omega
  · have h := steps_zero (Nat.le_zero.mp hs)
    rw [hg v hv, if_pos h, ← h, dist_self]
theorem FarInv.next {t : Tr} (ht : TreeOk t) {m j : Nat} (hm : m ≤ t.length) {xs : List Int} (F : FarInv t m j t.length xs) : FarInv t m (j + 1) 0 xs := by
  refine ⟨F.len, F.low, F.top, fun v hv hs => ?_, fun k' h => by omega⟩
  by_cases hk : m = v
  · subst hk
    exact F.fit _ hv (by rw [steps_self]; omega)
  · obtain ⟨q, e, hq⟩ := last_edge t m v hk
    have h1 := steps_last e
    have lo := F.low v hv
    rcases hq with ⟨a, b, c⟩ | ⟨a, b, c, d⟩
    · subst b
      have := (F.row (v - 1) (by omega)).1
      rw [show v - 1 + 1 = v by omega] at this
      have := this (by omega)
      omega
    · have := (F.row (q - 1) (by omega)).2
      rw [show q - 1 + 1 = q by omega, ← c] at this
      have := this (by omega)
      omega
end MT
namespace MT
open DL (minI maxI minI_le minI_mem le_maxI maxI_mem minI_uniq maxI_uniq)
theorem fs_miss {α : Type} {f : Nat → Option α} {n : Nat} (h : ∀ k, k < n → f k = none) : (List.range n).findSome? f = none := List.findSome?_eq_none_iff.mpr fun x hx => h x (List.mem_range.mp hx)
theorem fs_hit {α : Type} {f : Nat → Option α} {i : Nat} {x : α} (h0 : ∀ k, k < i → f k = none) (h1 : f i = some x) : ∀ {n : Nat}, i < n → (List.range n).findSome? f = some x
  | 0, h => by omega
  | n + 1, h => by
    rw [List.range_succ, List.findSome?_append]
    by_cases hi : i < n
    · rw [fs_hit h0 h1 hi]
      rfl
    · have : i = n := by omega
      subst this
      rw [fs_miss h0]
      simp [h1]
abbrev Wn := List (Int × Option Int)
def Win1 (w : Int × Option Int) : Prop := 0 ≤ w.1 ∧ w.1 ≤ 1000000000 ∧ ∀ l, w.2 = some l → w.1 ≤ l ∧ l ≤ 1000000000
def WinOk (t : Tr) (ws : Wn) : Prop := ws.length = t.length + 1 ∧ ∀ w ∈ ws, Win1 w
def apart (t : Tr) (ws : Wn) (i j : Nat) : Bool := match (ws.getD j (0, none)).2 with
  | none => false
  | some l => decide (l + dist t i j < (ws.getD i (0, none)).1)
def pair1 (t : Tr) (ws : Wn) (i : Nat) : Option (Nat × Nat) := (List.range ws.length).findSome? fun j => if apart t ws i j = true then some (i, j) else none
def pairOf (t : Tr) (ws : Wn) : Option (Nat × Nat) := (List.range ws.length).findSome? (pair1 t ws)
theorem win_get {t : Tr} {ws : Wn} (h : WinOk t ws) {i : Nat} (hi : i ≤ t.length) : ∃ w, ws[i]? = some w ∧ ws.getD i (0, none) = w ∧ Win1 w := by
  have hl : i < ws.length := by rw [h.1]; omega
  exact ⟨ws[i], List.getElem?_eq_getElem hl, by rw [List.getD_eq_getElem?_getD, List.getElem?_eq_getElem hl]; rfl, h.2 _ (List.getElem_mem hl)⟩
theorem pair1_none {t : Tr} {ws : Wn} {i : Nat} (h : ∀ j, j < ws.length → apart t ws i j = false) : pair1 t ws i = none := fs_miss fun j hj => by rw [if_neg (by rw [h j hj]; decide)]
theorem pair1_some {t : Tr} {ws : Wn} {i j : Nat} (h : ∀ k, k < j → apart t ws i k = false) (hj : apart t ws i j = true) (hl : j < ws.length) : pair1 t ws i = some (i, j) :=
  fs_hit (i := j) (fun k hk => by rw [if_neg (by rw [h k hk]; decide)]) (by rw [if_pos hj]) hl
theorem pairOf_hit {t : Tr} {ws : Wn} {i j : Nat} (h0 : ∀ k, k < i → pair1 t ws k = none) (hi : i < ws.length) (h : ∀ k, k < j → apart t ws i k = false) (hj : apart t ws i j = true) (hl : j < ws.length) : pairOf t ws = some (i, j) :=
  fs_hit h0 (pair1_some h hj hl) hi
theorem apart_iff {t : Tr} {ws : Wn} {i j : Nat} : apart t ws i j = true ↔ ∃ l, (ws.getD j (0, none)).2 = some l ∧ l + dist t i j < (ws.getD i (0, none)).1 := by
  unfold apart
  cases (ws.getD j (0, none)).2 with
  | none => simp
  | some l => simp
theorem pair_none {t : Tr} {ws : Wn} (h : pairOf t ws = none) {i j : Nat} (hi : i < ws.length) (hj : j < ws.length) : apart t ws i j = false := by
  unfold pairOf at h
  have h1 := List.findSome?_eq_none_iff.mp h i (List.mem_range.mpr hi)
  unfold pair1 at h1
  have h2 := List.findSome?_eq_none_iff.mp h1 j (List.mem_range.mpr hj)
  cases e : apart t ws i j with
  | false => rfl
  | true => rw [if_pos e] at h2; cases h2
theorem pair_no {t : Tr} {ws : Wn} (h : ∀ i j, i < ws.length → j < ws.length → apart t ws i j = false) : pairOf t ws = none := fs_miss fun i hi => pair1_none fun j hj => h i j hi hj
def lowsAt (t : Tr) (ws : Wn) (i : Nat) : List Int := ws.zipIdx.map fun q => q.1.1 - dist t i q.2
def earl (t : Tr) (ws : Wn) (i : Nat) : Int := maxI (lowsAt t ws i)
def earls (t : Tr) (ws : Wn) : List Int := (List.range ws.length).map (earl t ws)
theorem mem_lows {t : Tr} {ws : Wn} {i : Nat} {x : Int} : x ∈ lowsAt t ws i ↔ ∃ k w, ws[k]? = some w ∧ x = w.1 - dist t i k := by
  unfold lowsAt
  rw [List.mem_map]
  constructor
  · rintro ⟨⟨w, k⟩, h, rfl⟩
    exact ⟨k, w, by
      obtain ⟨n, hn, e⟩ := List.getElem_of_mem h
      have h2 : ws.zipIdx[n]? = some (w, k) := by rw [List.getElem?_eq_getElem hn, e]
      rw [List.getElem?_zipIdx] at h2
      cases e3 : ws[n]? with
      | none => rw [e3] at h2; cases h2
      | some v =>
        rw [e3] at h2
        simp at h2
        rw [← h2.2, e3, h2.1], rfl⟩
  · rintro ⟨k, w, h, rfl⟩
    refine ⟨(w, k), ?_, rfl⟩
    have : ws.zipIdx[k]? = some (w, k) := by rw [List.getElem?_zipIdx, h]; simp
    exact List.mem_of_getElem? this
theorem lows_ne {t : Tr} {ws : Wn} {i : Nat} (h : 0 < ws.length) : lowsAt t ws i ≠ [] := by
  intro e
  have := congrArg List.length e
  unfold lowsAt at this
  simp at this
  rw [this] at h
  simp at h
theorem earl_ge {t : Tr} {ws : Wn} {i k : Nat} {w : Int × Option Int} (h : ws[k]? = some w) : w.1 - dist t i k ≤ earl t ws i := le_maxI (mem_lows.mpr ⟨k, w, h, rfl⟩)
theorem earl_le {t : Tr} {ws : Wn} {i : Nat} {b : Int} (hl : 0 < ws.length) (h : ∀ k w, ws[k]? = some w → w.1 - dist t i k ≤ b) : earl t ws i ≤ b := by
  obtain ⟨k, w, e1, e2⟩ := mem_lows.mp (maxI_mem (lows_ne (t := t) (i := i) hl))
  show maxI _ ≤ b
  rw [e2]
  exact h k w e1
theorem earl_lip {t : Tr} {ws : Wn} (hl : 0 < ws.length) (i j : Nat) : earl t ws i ≤ earl t ws j + dist t i j := earl_le hl fun k w h => by
  have h1 := earl_ge (t := t) (i := j) h
  have h2 := dist_tri t j i k
  have h3 := dist_comm t i j
  omega
theorem earl_least {t : Tr} {ws : Wn} {i : Nat} {w : Int × Option Int} (h : ws[i]? = some w) : w.1 ≤ earl t ws i := by
  have := earl_ge (t := t) (i := i) h
  rw [dist_self] at this
  omega
theorem earl_last {t : Tr} {ws : Wn} (hn : pairOf t ws = none) {i : Nat} {w : Int × Option Int} {l : Int} (h : ws[i]? = some w) (hw : w.2 = some l) : earl t ws i ≤ l := by
  have hi := (List.getElem?_eq_some_iff.mp h).1
  refine earl_le (by omega) fun k v hv => ?_
  have hk := (List.getElem?_eq_some_iff.mp hv).1
  have ha := pair_none hn hk hi
  have hb : ¬ (l + dist t k i < v.1) := fun hlt => by
    rw [apart_iff.mpr ⟨l, by rw [List.getD_eq_getElem?_getD, h]; exact hw, by rw [List.getD_eq_getElem?_getD, hv]; exact hlt⟩] at ha
    cases ha
  have := dist_comm t i k
  omega
theorem row_dist {t : Tr} (ht : TreeOk t) {k : Nat} {p : Nat × Nat} (h : t[k]? = some p) : dist t (k + 1) p.1 = p.2 := by
  have h1 := par_of ht h
  have h2 := (ht.2 k p h).1
  rw [dist_gt t (by omega), h1.1, h1.2, dist_self]
  omega
def lastsAt (t : Tr) (ws : Wn) (i : Nat) : List Int := ws.zipIdx.filterMap fun q => q.1.2.map fun l => l + dist t i q.2
def late (t : Tr) (ws : Wn) (i : Nat) : Option Int := if lastsAt t ws i = [] then none else some (minI (lastsAt t ws i))
theorem mem_lasts {t : Tr} {ws : Wn} {i : Nat} {x : Int} : x ∈ lastsAt t ws i ↔ ∃ k w l, ws[k]? = some w ∧ w.2 = some l ∧ x = l + dist t i k := by
  unfold lastsAt
  rw [List.mem_filterMap]
  constructor
  · rintro ⟨⟨w, k⟩, h, e⟩
    obtain ⟨n, hn, e1⟩ := List.getElem_of_mem h
    have h2 : ws.zipIdx[n]? = some (w, k) := by rw [List.getElem?_eq_getElem hn, e1]
    rw [List.getElem?_zipIdx] at h2
    cases e3 : ws[n]? with
    | none => rw [e3] at h2; cases h2
    | some v =>
      rw [e3] at h2
      simp at h2
      cases e4 : w.2 with
      | none => dsimp only at e; rw [e4] at e; cases e
      | some l =>
        dsimp only at e
        rw [e4] at e
        cases e
        exact ⟨k, w, l, by rw [← h2.2, e3, h2.1], e4, rfl⟩
  · rintro ⟨k, w, l, h, hl, rfl⟩
    refine ⟨(w, k), ?_, by dsimp only; rw [hl]; rfl⟩
    have : ws.zipIdx[k]? = some (w, k) := by rw [List.getElem?_zipIdx, h]; simp
    exact List.mem_of_getElem? this
structure Fits (t : Tr) (ws : Wn) (xs : List Int) : Prop where
  len : xs.length = ws.length
  low : ∀ (i : Nat) (x : Int) (w : Int × Option Int), xs[i]? = some x → ws[i]? = some w → w.1 ≤ x ∧ x ≤ 2000000000
  high : ∀ (i : Nat) (x l : Int) (w : Int × Option Int), xs[i]? = some x → ws[i]? = some w → w.2 = some l → x ≤ l
  row : ∀ (k : Nat) (p : Nat × Nat), t[k]? = some p → xs.getD (k + 1) 0 - xs.getD p.1 0 ≤ p.2 ∧ xs.getD p.1 0 - xs.getD (k + 1) 0 ≤ p.2
theorem earls_len (t : Tr) (ws : Wn) : (earls t ws).length = ws.length := by unfold earls; simp
theorem earls_get {t : Tr} {ws : Wn} {i : Nat} (h : i < ws.length) : (earls t ws)[i]? = some (earl t ws i) := by unfold earls; rw [List.getElem?_map, List.getElem?_range h]; rfl
theorem earl_hi {t : Tr} {ws : Wn} (h : WinOk t ws) (i : Nat) : earl t ws i ≤ 1000000000 := earl_le (by have := h.1; omega) fun k w e => by
  have h1 := (h.2 w (List.mem_of_getElem? e)).2.1
  have h2 := dist_nonneg t i k
  omega
theorem earl_lo {t : Tr} {ws : Wn} (h : WinOk t ws) {i : Nat} (hi : i < ws.length) : 0 ≤ earl t ws i := by
  have e := List.getElem?_eq_getElem hi
  have h1 := (h.2 _ (List.getElem_mem hi)).1
  have h2 := earl_least (t := t) e
  omega
def lasts2 (ws : Wn) : List (Nat × Int) := ws.zipIdx.filterMap fun q => q.1.2.map fun l => (q.2, l)
theorem lastsAt_eq (t : Tr) (ws : Wn) (i : Nat) : lastsAt t ws i = (lasts2 ws).map fun p => p.2 + dist t i p.1 := by
  unfold lastsAt lasts2
  rw [List.map_filterMap]
  congr 1
  funext q
  cases q.1.2 <;> rfl
theorem lasts2_len (ws : Wn) : (lasts2 ws).length ≤ ws.length := by
  unfold lasts2
  exact Nat.le_trans (List.length_filterMap_le _ _) (by rw [List.length_zipIdx]; omega)
theorem mem_lasts2 {ws : Wn} {p : Nat × Int} (h : p ∈ lasts2 ws) : ∃ w, ws[p.1]? = some w ∧ w.2 = some p.2 := by
  unfold lasts2 at h
  obtain ⟨⟨w, k⟩, h1, h2⟩ := List.mem_filterMap.mp h
  obtain ⟨n, hn, e1⟩ := List.getElem_of_mem h1
  have h3 : ws.zipIdx[n]? = some (w, k) := by rw [List.getElem?_eq_getElem hn, e1]
  rw [List.getElem?_zipIdx] at h3
  cases e3 : ws[n]? with
  | none => rw [e3] at h3; cases h3
  | some v =>
    rw [e3] at h3
    simp at h3
    cases e4 : w.2 with
    | none => dsimp only at h2; rw [e4] at h2; cases h2
    | some l =>
      dsimp only at h2
      rw [e4] at h2
      cases h2
      exact ⟨w, by show ws[k]? = _; rw [← h3.2, e3, h3.1], e4⟩
theorem lastsAt_nil {t : Tr} {ws : Wn} {i : Nat} : lastsAt t ws i = [] ↔ lasts2 ws = [] := by rw [lastsAt_eq, List.map_eq_nil_iff]
def latI (t : Tr) (ws : Wn) (i : Nat) : Int := minI (lastsAt t ws i)
theorem late_none {t : Tr} {ws : Wn} (h : lasts2 ws = []) (i : Nat) : late t ws i = none := by unfold late; rw [if_pos (lastsAt_nil.mpr h)]
theorem late_some {t : Tr} {ws : Wn} (h : lasts2 ws ≠ []) (i : Nat) : late t ws i = some (latI t ws i) := by unfold late; rw [if_neg fun e => h (lastsAt_nil.mp e)]; rfl
theorem latI_ge {t : Tr} {ws : Wn} {i : Nat} {b : Int} (hn : lasts2 ws ≠ []) (h : ∀ k w l, ws[k]? = some w → w.2 = some l → b ≤ l + dist t i k) : b ≤ latI t ws i := by
  obtain ⟨k, w, l, e1, e2, e3⟩ := mem_lasts.mp (minI_mem fun e => hn (lastsAt_nil (t := t) (i := i) |>.mp e))
  show b ≤ minI _
  rw [e3]
  exact h k w l e1 e2
end MT
namespace MT
open DL (minI maxI minI_le minI_mem le_maxI maxI_mem minI_uniq maxI_uniq)
theorem tab_lip {t : Tr} (ht : TreeOk t) {xs : List Int} (h : ∀ (k : Nat) (p : Nat × Nat), t[k]? = some p → xs.getD (k + 1) 0 - xs.getD p.1 0 ≤ p.2 ∧ xs.getD p.1 0 - xs.getD (k + 1) 0 ≤ p.2) :
    ∀ (n i j : Nat), i + j ≤ n → i ≤ t.length → j ≤ t.length → xs.getD i 0 ≤ xs.getD j 0 + dist t i j
  | 0, i, j, hn, hi, hj => by
    have h1 : i = 0 := by omega
    have h2 : j = 0 := by omega
    subst h1
    subst h2
    rw [dist_self]
    omega
  | n + 1, i, j, hn, hi, hj => by
    by_cases e : i = j
    · subst e
      rw [dist_self]
      omega
    · by_cases hlt : j < i
      · have hk : i - 1 < t.length := by omega
        have ek := List.getElem?_eq_getElem hk
        have hp := par_of ht ek
        have hq := (ht.2 _ _ ek).1
        rw [show i - 1 + 1 = i by omega] at hp
        have hr := h _ _ ek
        rw [show i - 1 + 1 = i by omega] at hr
        have ih := tab_lip ht h n (par t i) j (by rw [hp.1]; omega) (by rw [hp.1]; omega) hj
        rw [dist_gt t hlt, hp.2]
        rw [hp.1] at ih ⊢
        omega
      · have hlt : i < j := by omega
        have hk : j - 1 < t.length := by omega
        have ek := List.getElem?_eq_getElem hk
        have hp := par_of ht ek
        have hq := (ht.2 _ _ ek).1
        rw [show j - 1 + 1 = j by omega] at hp
        have hr := h _ _ ek
        rw [show j - 1 + 1 = j by omega] at hr
        have ih := tab_lip ht h n i (par t j) (by rw [hp.1]; omega) hi (by rw [hp.1]; omega)
        rw [dist_lt t hlt, hp.2]
        rw [hp.1] at ih ⊢
        omega
theorem Fits.lip {t : Tr} (ht : TreeOk t) {ws : Wn} {xs : List Int} (h : Fits t ws xs) {i j : Nat} (hi : i ≤ t.length) (hj : j ≤ t.length) : xs.getD i 0 ≤ xs.getD j 0 + dist t i j := tab_lip ht h.row (i + j) i j (Nat.le_refl _) hi hj
theorem get_of {xs : List Int} {i : Nat} (h : i < xs.length) : xs[i]? = some (xs.getD i 0) := by rw [List.getD_eq_getElem?_getD, List.getElem?_eq_getElem h]; rfl
theorem Fits.le {t : Tr} (ht : TreeOk t) {ws : Wn} (hw : WinOk t ws) {xs : List Int} (h : Fits t ws xs) (hn : lasts2 ws ≠ []) {i : Nat} (hi : i ≤ t.length) : xs.getD i 0 ≤ latI t ws i := latI_ge hn fun k w l e el => by
  have hk := (List.getElem?_eq_some_iff.mp e).1
  have hwl := hw.1
  have hxl := h.len
  have h1 := h.high k _ l w (get_of (by omega)) e el
  have h2 := h.lip ht (i := i) (j := k) hi (by omega)
  omega
def gd (t : Tr) (ws : Wn) (i j : Nat) : Int := match late t ws i with
  | none => dist t i j
  | some v => if v - earl t ws j < dist t i j then v - earl t ws j else dist t i j
end MT
namespace DL
open PySem PySem.Spec PyProof.Rows L2 MT
@[reducible] def rowD (p : Nat × Nat) : D := .tup [.int p.1, .int p.2]
@[reducible] def treeD (t : Tr) : D := .tup (t.map rowD)
@[reducible] def natD (n : Nat) : D := .int n
theorem tree_at {t : Tr} {i : Int} {k : Nat} (e : i = k) {p : Nat × Nat} (h : t[k]? = some p) : atI (t.map rowD) i = some (rowD p) := atI_of e (by rw [List.getElem?_map, h]; rfl)
theorem tree_get {t : Tr} {m : Nat} (ht : TreeOk t) (h0 : 0 < m) (h1 : m ≤ t.length) : ∃ p, t[m - 1]? = some p ∧ par t m = p.1 ∧ ln t m = p.2 ∧ p.1 < m := by
  have hl : m - 1 < t.length := by omega
  refine ⟨t[m - 1], List.getElem?_eq_getElem hl, ?_⟩
  have := par_of ht (List.getElem?_eq_getElem hl)
  rw [show m - 1 + 1 = m by omega] at this
  have hp := (ht.2 _ _ (List.getElem?_eq_getElem hl)).1
  exact ⟨this.1, this.2, by omega⟩
theorem tree_snoc {t : Tr} (ht : TreeOk t) (hl : t.length ≤ 10) {p l : Nat} (hp : p ≤ t.length) (h1 : 1 ≤ l) (h2 : l ≤ 1000000) : TreeOk (t ++ [(p, l)]) := by
  refine ⟨by rw [List.length_append, List.length_singleton]; omega, fun k q e => ?_⟩
  by_cases hk : k < t.length
  · rw [List.getElem?_append_left hk] at e
    exact ht.2 k q e
  · rw [List.getElem?_append_right (by omega)] at e
    have hk0 : k - t.length = 0 := by
      have := (List.getElem?_eq_some_iff.mp e).1
      rw [List.length_singleton] at this
      omega
    rw [hk0] at e
    cases e
    exact ⟨by show p ≤ k; omega, h1, h2⟩
theorem intsOf_ints (ns : List Int) : intsOf (ns.map D.int) = some ns := by
  induction ns with
  | nil => rfl
  | cons n ns ih => rw [List.map_cons, intsOf, ih]; rfl
theorem bels_int (n : Nat) (xs : List Int) : bels n (xs.map D.int) = true := bels_of fun d hd => by
  obtain ⟨i, _, rfl⟩ := List.mem_map.mp hd
  rfl
theorem See.drop' {n : Nat} {Q : DK} {d : D} (M : Sto) {M' : Sto} (hn : M.length = n) (hd : bel n d = true) (hb : stoBel n M) (h : Q d M) : See n Q d (M ++ M') := by
  subst hn
  exact See.drop hd hb h
theorem get_mid (M : Sto) (c : Cell) (G : Sto) : (M ++ c :: G)[M.length]? = some c := by rw [List.getElem?_append_right (Nat.le_refl _)]; simp
theorem set_mid (M : Sto) (c d : Cell) (G : Sto) : (M ++ c :: G).set M.length d = M ++ d :: G := by rw [List.set_append_right _ _ (Nat.le_refl _)]; simp
theorem rep_flat (k : Nat) (d : D) : (List.replicate k [d]).flatten = List.replicate k d := by
  induction k with
  | zero => rfl
  | succ k ih => rw [List.replicate_succ, List.flatten_cons, ih, List.replicate_succ]; rfl
theorem map_at {α : Type} {f : α → D} {xs : List α} {i : Int} {k : Nat} {x : α} (e : i = k) (h : xs[k]? = some x) : atI (xs.map f) i = some (f x) := atI_of e (by rw [List.getElem?_map, h]; rfl)
@[reducible] def optD : Option Int → D
  | none => .non
  | some i => .int i
@[reducible] def winD (w : Int × Option Int) : D := .tup [.int w.1, optD w.2]
@[reducible] def winsD (ws : Wn) : D := .tup (ws.map winD)
@[reducible] def pairD : Option (Nat × Nat) → D
  | none => .non
  | some p => .tup [natD p.1, natD p.2]
theorem bels_nat (n : Nat) (xs : List Nat) : bels n (xs.map natD) = true := bels_of fun d hd => by
  obtain ⟨i, _, rfl⟩ := List.mem_map.mp hd
  rfl
theorem bel_nat (n : Nat) (xs : List Nat) : bel n (.tup (xs.map natD)) = true := bels_nat n xs
theorem cut_1 {α : Type} (xs : List α) : cut xs (some 1) none = xs.drop 1 := by
  unfold cut
  rw [show HT.sIx xs.length 0 (some 1) = min 1 xs.length from HT.sIx_nat xs.length 0 1, HT.sIx_none]
  cases xs with
  | nil => rfl
  | cons x r =>
    rw [show min 1 (x :: r).length = 1 by rw [List.length_cons]; omega]
    show List.take (r.length + 1 - 1) r = r
    rw [Nat.add_sub_cancel, List.take_length]
def spLaw : DSp := fun args M Q _ => ∃ ns, args = [.scr ns] ∧ M = [] ∧ ns.length ≤ 63 ∧ ∀ M', Q (.bl true) M'
theorem getD_mem {xs : List Int} {j : Nat} (h : j < xs.length) : xs.getD j 0 ∈ xs := by
  rw [List.getD_eq_getElem?_getD, List.getElem?_eq_getElem h]
  exact List.getElem_mem h
theorem tyNm_non (M : Sto) : tyNm .non M = some "NoneType" := rfl
theorem tyNm_bl (b : Bool) (M : Sto) : tyNm (.bl b) M = some "bool" := rfl
theorem tyNm_int (i : Int) (M : Sto) : tyNm (.int i) M = some "int" := rfl
theorem tyNm_str (x : Str) (M : Sto) : tyNm (.str x) M = some "str" := rfl
theorem tyNm_tup (ds : List D) (M : Sto) : tyNm (.tup ds) M = some "tuple" := rfl
theorem tyNm_lst (ds : List D) (M : Sto) : tyNm (.lst ds) M = some "list" := rfl
theorem tyNm_dct (ks : List Key) (ds : List D) (M : Sto) : tyNm (.dct ks ds) M = some "dict" := rfl
theorem tabInt_NoneType : tabInt "NoneType" = false := by decide
theorem tabInt_bool : tabInt "bool" = true := by decide
theorem tabInt_int : tabInt "int" = true := by decide
theorem tabInt_str : tabInt "str" = false := by decide
theorem tabInt_tuple : tabInt "tuple" = false := by decide
theorem tabInt_list : tabInt "list" = false := by decide
theorem tabInt_dict : tabInt "dict" = false := by decide
theorem tabBool_NoneType : tabBool "NoneType" = false := by decide
theorem tabBool_bool : tabBool "bool" = true := by decide
theorem tabBool_int : tabBool "int" = false := by decide
theorem tabBool_str : tabBool "str" = false := by decide
theorem tabBool_tuple : tabBool "tuple" = false := by decide
theorem tabBool_list : tabBool "list" = false := by decide
theorem tabBool_dict : tabBool "dict" = false := by decide
theorem tabTuple_NoneType : tabTuple "NoneType" = false := by decide
theorem tabTuple_bool : tabTuple "bool" = false := by decide
theorem tabTuple_int : tabTuple "int" = false := by decide
theorem tabTuple_str : tabTuple "str" = false := by decide
theorem tabTuple_tuple : tabTuple "tuple" = true := by decide
theorem tabTuple_list : tabTuple "list" = false := by decide
theorem tabTuple_dict : tabTuple "dict" = false := by decide
theorem tabStr_NoneType : tabStr "NoneType" = false := by decide
theorem tabStr_bool : tabStr "bool" = false := by decide
theorem tabStr_int : tabStr "int" = false := by decide
theorem tabStr_str : tabStr "str" = true := by decide
theorem tabStr_tuple : tabStr "tuple" = false := by decide
theorem tabStr_list : tabStr "list" = false := by decide
theorem tabStr_dict : tabStr "dict" = false := by decide
theorem tabList_NoneType : tabList "NoneType" = false := by decide
theorem tabList_bool : tabList "bool" = false := by decide
theorem tabList_int : tabList "int" = false := by decide
theorem tabList_str : tabList "str" = false := by decide
theorem tabList_tuple : tabList "tuple" = false := by decide
theorem tabList_list : tabList "list" = true := by decide
theorem tabList_dict : tabList "dict" = false := by decide
theorem vw_tup (ds : List D) (M : Sto) : vw (.tup ds) M = .tup ds := rfl
theorem vw_lst (ds : List D) (M : Sto) : vw (.lst ds) M = .lst ds := rfl
theorem vw_int (i : Int) (M : Sto) : vw (.int i) M = .int i := rfl
theorem vw_str (x : Str) (M : Sto) : vw (.str x) M = .str x := rfl
theorem vw_bl (b : Bool) (M : Sto) : vw (.bl b) M = .bl b := rfl
theorem vw_non (M : Sto) : vw .non M = .non := rfl
theorem pl_nil : Pl 1 (.lst []) := .lst fun d hd => by simp at hd
theorem get_ga (M G : Sto) (a : Cell) (r : Sto) : (M ++ (G ++ a :: r))[M.length + G.length]? = some a := by
  rw [← List.append_assoc, ← List.length_append]
  exact get_mid (M ++ G) a r
theorem get_gb (M G : Sto) (a b : Cell) (r : Sto) : (M ++ (G ++ a :: b :: r))[M.length + G.length + 1]? = some b := by
  have := get_ga M (G ++ [a]) b r
  rw [List.append_assoc, List.length_append, List.length_singleton] at this
  exact this
theorem set_ga (M G : Sto) (a c : Cell) (r : Sto) : (M ++ (G ++ a :: r)).set (M.length + G.length) c = M ++ (G ++ c :: r) := by
  rw [← List.append_assoc, ← List.length_append, set_mid, List.append_assoc]
theorem set_gb (M G : Sto) (a b c : Cell) (r : Sto) : (M ++ (G ++ a :: b :: r)).set (M.length + G.length + 1) c = M ++ (G ++ a :: c :: r) := by
  have := set_ga M (G ++ [a]) b c r
  rw [List.append_assoc, List.append_assoc, List.length_append, List.length_singleton] at this
  exact this
theorem range_2 : List.range 2 = [0, 1] := rfl
theorem lc_filL {α : Type} {st : Sto → Prop} {step : D → Sto → (Option D → Sto → Prop) → Prop} (g : α → D) (f : α → Option D) {L : List α} {M : Sto} {Q : List D → Sto → Prop} (hst : st M) (hl : L.length ≤ 100000) (hs : ∀ x ∈ L, ∀ k : Option D → Sto → Prop, k (f x) M → step (g x) M k) (q : Q (L.filterMap f) M) : lcI st step (L.map g) M Q := by
  have lf : ∀ n, ((L.take n).filterMap f).length ≤ n := fun n => Nat.le_trans (List.length_filterMap_le _ _) (by rw [List.length_take]; omega)
  refine ⟨fun done todo acc M' => done ++ todo = L.map g ∧ M' = M ∧ acc = (L.take done.length).filterMap f, ⟨rfl, rfl, rfl⟩, fun _ _ _ M' h => by rw [h.2.1]; exact hst, ?_, ?_⟩
  · rintro done d todo acc M' ⟨e, rfl, rfl⟩
    obtain ⟨x, hx, rfl, hlt⟩ := map_mid e
    have hl2 := lf done.length
    refine hs x (List.mem_of_getElem? hx) _ ?_
    have e1 : (L.take (done ++ [g x]).length).filterMap f = (L.take done.length).filterMap f ++ (f x).toList := by
      rw [List.length_append, List.length_singleton, take_more hx, List.filterMap_append]
      cases e2 : f x with
      | none => simp [e2]
      | some y => simp [e2]
    cases e2 : f x with
    | none =>
      rw [e2] at e1
      exact ⟨by rw [List.append_assoc]; exact e, rfl, by rw [e1]; simp⟩
    | some y =>
      rw [e2] at e1
      exact ⟨by omega, by rw [List.append_assoc]; exact e, rfl, by rw [e1]; simp⟩
  · rintro done acc M' ⟨e, rfl, rfl⟩
    rw [map_done e]
    exact q
theorem lc_mapL {α : Type} {st : Sto → Prop} {step : D → Sto → (Option D → Sto → Prop) → Prop} (g : α → D) (f : α → D) {L : List α} {M : Sto} {Q : List D → Sto → Prop} (hst : st M) (hl : L.length ≤ 100000) (hs : ∀ x ∈ L, ∀ k : Option D → Sto → Prop, k (some (f x)) M → step (g x) M k) (q : Q (L.map f) M) : lcI st step (L.map g) M Q :=
  lc_filL g (fun x => some (f x)) hst hl hs (by
    have : L.filterMap (fun x => some (f x)) = L.map f := by induction L with
      | nil => rfl
      | cons a l ih => simp
    rw [this]
    exact q)
theorem rng_at {n : Nat} {done todo : List D} {d : D} (e : done ++ d :: todo = rng 0 n) : d = natD done.length ∧ done.length < n := by
  obtain ⟨h1, h2⟩ := rng_mid e
  exact ⟨by rw [h1, Int.zero_add], h2⟩
theorem rng_end {n : Nat} {done : List D} (e : done ++ [] = rng 0 n) : done.length = n := by
  have := congrArg List.length e
  rw [List.append_nil, rng_length] at this
  exact this
end DL
set_option maxHeartbeats 2000000
namespace L2
open PySem PySem.Spec PyProof.Rows
end L2
namespace DL
open PySem PySem.Spec PyProof.Rows L2
theorem cut_from {α : Type} (xs : List α) (k : Nat) : cut xs (some (k : Int)) none = xs.drop k := by
  unfold cut
  rw [HT.sIx_none, HT.sIx_nat]
  by_cases h : k ≤ xs.length
  · rw [Nat.min_eq_left h, List.take_of_length_le (by rw [List.length_drop]; omega)]
  · rw [Nat.min_eq_right (by omega), List.drop_of_length_le (by omega), List.drop_of_length_le (by omega), List.take_nil]
end DL
set_option maxHeartbeats 1000000
namespace PySem
end PySem
set_option maxHeartbeats 1000000
namespace PySem
/-- a list (false) or a tuple (true) that zip walks -/
structure Zq where
  t : Bool
  l : Addr
  xs : Array Value
def Zq.At (q : Zq) (h : Heap) : Prop := if q.t = true then h.IsTuple q.l q.xs else h.IsList q.l q.xs
def Zq.It (q : Zq) (it : Addr) (i : Nat) (h : Heap) : Prop := if q.t = true then h.IsTupleIter it q.l i else h.IsListIter it q.l i
section
variable {prog : Program} {w : World} {A : Around} {E : Value → Shared → Prop} {s : Shared}
theorem Zq.iter {q : Zq} {Q : Value → Shared → Prop} (a : q.At s.heap) (h : ∀ h', q.It s.heap.objs.size 0 h' → h'.objs.size = s.heap.objs.size + 1 → (∀ c o, s.heap.get? c = some o → h'.get? c = some o) → Q (.ref s.heap.objs.size) { s with heap := h' }) : wpAny (model prog w) A (pyIter (.ref q.l)) Q E s := by
  unfold Zq.At at a
  split at a
  · next e => exact wpAny_pyIter_tuple a (h _ (by unfold Zq.It; rw [if_pos e]; exact ⟨_, Heap.get?_push_size _ rfl, rfl, rfl⟩) (Heap.size_push ..) fun c o x => Heap.get?_push_of_some _ x)
  · next e => exact wpAny_pyIter_list a (h _ (by unfold Zq.It; rw [if_neg e]; exact ⟨_, Heap.get?_push_size _ rfl, rfl, rfl⟩) (Heap.size_push ..) fun c o x => Heap.get?_push_of_some _ x)
end
end PySem
set_option maxHeartbeats 1000000
namespace PySem
end PySem
namespace L2
open PySem PySem.Spec PyProof.Rows
def SqK (K : PySem.W.Frag) (H : Hp) (a : Bool × Addr) (xs : List V) : Prop := if a.1 = true then SqT K H a.2 xs else SqL K H a.2 xs
theorem SqK.at {X : Cx} {pins : List (Addr × Obj)} {σ : L2.St} {H : Hp} {s : Shared} (I : Inv X pins σ H s) {a : Bool × Addr} {xs : List V} (h : SqK X.K H a xs) : ∃ its : List Value, Vals xs its ∧ (⟨a.1, a.2, its.toArray⟩ : Zq).At s.heap ∧ xs.length ≤ sizeLine := by
  unfold SqK at h
  split at h
  · next e =>
    obtain ⟨its, r, p, z⟩ := I.tuple h
    exact ⟨its, r, by unfold Zq.At; rw [if_pos e]; exact p, z⟩
  · next e =>
    obtain ⟨its, r, p, z⟩ := I.list h
    exact ⟨its, r, by unfold Zq.At; rw [if_neg e]; exact p.isList, z⟩
theorem SqK.inj {X : Cx} {pins : List (Addr × Obj)} {σ : L2.St} {H : Hp} {s : Shared} (I : Inv X pins σ H s) {a : Bool × Addr} {xs ys : List V} (h : SqK X.K H a xs) (h' : SqK X.K H a ys) : xs = ys := by
  unfold SqK at h h'
  split at h
  · next e => rw [if_pos e] at h'; exact I.tuple_inj h h'
  · next e => rw [if_neg e] at h'; exact I.list_inj h h'
end L2
set_option maxHeartbeats 1000000
namespace L2
open PySem PySem.Spec PyProof.Rows
end L2
set_option maxHeartbeats 1000000
namespace DL
open PySem PySem.Spec PyProof.Rows L2
def seqD : D → Option (Bool × List D)
  | .tup xs => some (true, xs)
  | .lst xs => some (false, xs)
  | _ => none
def seqDs : List D → Option (List (Bool × List D))
  | [] => some []
  | d :: ds => match seqD d, seqDs ds with
    | some q, some qs => some (q :: qs)
    | _, _ => none
end DL
set_option maxHeartbeats 1000000
namespace DL
open PySem PySem.Spec PyProof.Rows L2
theorem room65 {k : Nat} {A : Around} (r : Room k A) : A.units + 65 < cLine := by have := r.un; omega
end DL
set_option maxHeartbeats 1000000
namespace DL
open PySem PySem.Spec PyProof.Rows L2
end DL
set_option maxHeartbeats 1000000
namespace DL
open PySem PySem.Spec PyProof.Rows L2 MT
@[reducible] def tabD (xs : List Int) : D := .tup (xs.map D.int)
theorem seqD_tup (ds : List D) : seqD (.tup ds) = some (true, ds) := rfl
theorem seqD_lst (ds : List D) : seqD (.lst ds) = some (false, ds) := rfl
theorem seqDs_lt (a b : List D) : seqDs [.lst a, .tup b] = some [(false, a), (true, b)] := rfl
theorem seqDs_tt (a b : List D) : seqDs [.tup a, .tup b] = some [(true, a), (true, b)] := rfl
theorem seqDs_tl (a b : List D) : seqDs [.tup a, .lst b] = some [(true, a), (false, b)] := rfl
theorem seqDs_ll (a b : List D) : seqDs [.lst a, .lst b] = some [(false, a), (false, b)] := rfl
theorem rng_getD {n : Nat} (f : Nat → Int) {i : Nat} (h : i < n) : ((List.range n).map f).getD i 0 = f i := by rw [List.getD_eq_getElem?_getD, List.getElem?_map, List.getElem?_range h]; rfl
theorem minI_perm {L K : List Int} (h0 : L ≠ []) (h : ∀ x, x ∈ L ↔ x ∈ K) : minI L = minI K := by
  have hk : K ≠ [] := fun z => by
    have := (h _).mp (minI_mem h0)
    rw [z] at this
    cases this
  have a := minI_le ((h _).mpr (minI_mem hk))
  have b := minI_le ((h _).mp (minI_mem h0))
  omega
theorem Pl.same {h : Nat} {d : D} (s : DL.Pl h d) : PyData.eqv (toPy d) (toPy d) = true := PySem.SeqAt.eqv_refl _ s.ok'.2.1
theorem pl_ints (xs : List Int) : Pl 1 (.tup (xs.map D.int)) := .tup fun d hd => by
  obtain ⟨i, _, rfl⟩ := List.mem_map.mp hd
  exact Pl.int i
theorem eqvAll_ints : ∀ xs ys : List Int, PyData.eqvAll (toPys (xs.map D.int)) (toPys (ys.map D.int)) = decide (xs = ys)
  | [], [] => rfl
  | [], _ :: _ => rfl
  | _ :: _, [] => rfl
  | x :: xs, y :: ys => by
    show (x == y && PyData.eqvAll (toPys (xs.map D.int)) (toPys (ys.map D.int))) = _
    rw [eqvAll_ints xs ys]
    by_cases h : x = y <;> by_cases h2 : xs = ys <;> simp [h, h2]
theorem eqv_tabs (xs ys : List Int) : PyData.eqv (toPy (.tup (xs.map D.int))) (toPy (.tup (ys.map D.int))) = decide (xs = ys) := eqvAll_ints xs ys
end DL
set_option maxHeartbeats 1000000
namespace DL
open PySem PySem.Spec PyProof.Rows L2 MT
def dk (cs : List Int) (n : Int) : Sto := [.lst (cs.map D.int), .lst [.ref 0, .int n]]
def Good (b : Nat) (cs : List Int) (n : Int) : Prop := cs.length ≤ 63 ∧ (∀ c ∈ cs, 0 ≤ c) ∧ 0 ≤ n ∧ n + b ≤ 1000000
theorem Good.le {b b' : Nat} {cs : List Int} {n : Int} (g : Good b cs n) (h : b' ≤ b) : Good b' cs n := ⟨g.1, g.2.1, g.2.2.1, by have := g.2.2.2; omega⟩
def spDraw : DSp := fun args M Q _ => ∃ (cs : List Int) (n : Int) (R : Sto) (lim : Int) (b : Nat), args = [.ref 1, .int lim] ∧ M = dk cs n ++ R ∧ Good (b + 1) cs n ∧ 0 < lim ∧ lim < 1073741824 ∧ ∀ r cs' n', 0 ≤ r → r < lim → Good b cs' n' → Q (.int r) (dk cs' n' ++ R)
theorem dr {cs : List Int} {n : Int} {R : Sto} {lim : Int} {b : Nat} {Q : DK} {E : DXK} (g : Good (b + 1) cs n) (h0 : 0 < lim) (h1 : lim < 1073741824) (k : ∀ (r : Nat) (cs' : List Int) (n' : Int), (r : Int) < lim → Good b cs' n' → Q (.int r) (dk cs' n' ++ R)) : spDraw [.ref 1, .int lim] (dk cs n ++ R) Q E :=
  ⟨cs, n, R, lim, b, rfl, rfl, g, h0, h1, fun r cs' n' r0 r1 g' => by
    obtain ⟨r, rfl⟩ := Int.eq_ofNat_of_zero_le r0
    exact k r cs' n' r1 g'⟩
theorem dk_len (cs : List Int) (n : Int) (R : Sto) : (dk cs n ++ R).length = R.length + 2 := by unfold dk; simp
theorem get_dkA (cs : List Int) (n : Int) (R : Sto) (a : Cell) (r : Sto) : (dk cs n ++ (R ++ a :: r))[R.length + 2]? = some a := by
  have := get_mid (dk cs n ++ R) a r
  rw [dk_len, List.append_assoc] at this
  exact this
theorem get_dkB (cs : List Int) (n : Int) (R : Sto) (a b : Cell) (r : Sto) : (dk cs n ++ (R ++ a :: b :: r))[R.length + 3]? = some b := by
  have := get_dkA cs n (R ++ [a]) b r
  rw [List.length_append, List.length_singleton, List.append_assoc] at this
  exact this
theorem get_dkC (cs : List Int) (n : Int) (R : Sto) (a b c : Cell) (r : Sto) : (dk cs n ++ (R ++ a :: b :: c :: r))[R.length + 4]? = some c := by
  have := get_dkB cs n (R ++ [a]) b c r
  rw [List.length_append, List.length_singleton, List.append_assoc] at this
  exact this
theorem set_dkA (cs : List Int) (n : Int) (R : Sto) (a z : Cell) (r : Sto) : (dk cs n ++ (R ++ a :: r)).set (R.length + 2) z = dk cs n ++ (R ++ z :: r) := by
  have := set_mid (dk cs n ++ R) a z r
  rw [dk_len, List.append_assoc, List.append_assoc] at this
  exact this
theorem set_dkB (cs : List Int) (n : Int) (R : Sto) (a b z : Cell) (r : Sto) : (dk cs n ++ (R ++ a :: b :: r)).set (R.length + 3) z = dk cs n ++ (R ++ a :: z :: r) := by
  have := set_dkA cs n (R ++ [a]) b z r
  rw [List.length_append, List.length_singleton, List.append_assoc, List.append_assoc] at this
  exact this
theorem set_dkC (cs : List Int) (n : Int) (R : Sto) (a b c z : Cell) (r : Sto) : (dk cs n ++ (R ++ a :: b :: c :: r)).set (R.length + 4) z = dk cs n ++ (R ++ a :: b :: z :: r) := by
  have := set_dkB cs n (R ++ [a]) b c z r
  rw [List.length_append, List.length_singleton, List.append_assoc, List.append_assoc] at this
  exact this
@[reducible] def pushD (p : Nat × Int) : D := .tup [natD p.1, .int p.2]
def PushOk (t : Tr) (p : Nat × Int) : Prop := p.1 ≤ t.length ∧ 0 ≤ p.2 ∧ p.2 ≤ 1000000000
def PsOk (t : Tr) (ps : List (Nat × Int)) : Prop := ps ≠ [] ∧ ps.length ≤ 20 ∧ ∀ p ∈ ps, PushOk t p
def fallT (t : Tr) (ps : List (Nat × Int)) (m : Nat) : Int := minI (ps.map fun p => p.2 + dist t p.1 m)
def fallsT (t : Tr) (ps : List (Nat × Int)) : List Int := (List.range (t.length + 1)).map (fallT t ps)
theorem fallsT_len (t : Tr) (ps : List (Nat × Int)) : (fallsT t ps).length = t.length + 1 := by unfold fallsT; simp
theorem fallsT_getD (t : Tr) (ps : List (Nat × Int)) {m : Nat} (h : m ≤ t.length) : (fallsT t ps).getD m 0 = fallT t ps m := rng_getD _ (by omega)
theorem fallT_le {t : Tr} {ps : List (Nat × Int)} {p : Nat × Int} (h : p ∈ ps) (m : Nat) : fallT t ps m ≤ p.2 + dist t p.1 m := minI_le (List.mem_map.mpr ⟨p, h, rfl⟩)
theorem fallT_mem {t : Tr} {ps : List (Nat × Int)} (h : ps ≠ []) (m : Nat) : ∃ p ∈ ps, fallT t ps m = p.2 + dist t p.1 m := by
  obtain ⟨p, hp, e⟩ := List.mem_map.mp (minI_mem (ns := ps.map fun p => p.2 + dist t p.1 m) (fun z => h (List.map_eq_nil_iff.mp z)))
  exact ⟨p, hp, e.symm⟩
end DL
set_option maxHeartbeats 1000000
namespace DL
open PySem PySem.Spec PyProof.Rows L2 MT
section
variable {X : Cx} {a : Expr} {fa : DTE} {pos : Pos}
@[reducible] def dRevT (fa : DTE) (st : DTO) : DTE := fun ρ M Q => fa ρ M fun x M1 => st ρ M1 fun k M2 => match x with
  | .tup ds => k = some (-1) ∧ Q (.tup ds.reverse) M2
  | _ => False
end
end DL
set_option maxHeartbeats 1000000
namespace DL
open PySem PySem.Spec PyProof.Rows L2 MT
structure FunK1 (K : PySem.W.Frag) (x qual : Str) (st : Stmt) (kn : Str) (dv : V) (f : Addr) (fd : FuncData) : Prop where
  fn : Fun K x qual st f fd
  fk : FunD K x qual (defArgs st) (defBody st) (defScope st) [] [(kn, dv)] f fd
end DL
set_option maxHeartbeats 1000000
namespace DL
open PySem PySem.Spec PyProof.Rows L2 MT
def belows (t : Tr) (m : Nat) : List (Nat × Nat) := t.zipIdx.filterMap fun q => if q.1.1 = m then some (q.2 + 1, q.1.2) else none
def near (t : Tr) (m : Nat) : List (Nat × Nat) := (if 0 < m then [t.getD (m - 1) (0, 0)] else []) ++ belows t m
theorem near_ok {t : Tr} (ht : TreeOk t) {m : Nat} (hm : m ≤ t.length) : ∀ q ∈ near t m, q.1 ≤ t.length ∧ q.2 ≤ 1000000 := by
  intro q hq
  unfold near at hq
  rcases List.mem_append.mp hq with z | z
  · split at z
    · next h0 =>
      obtain ⟨p, hp, _, _, hlt⟩ := tree_get ht h0 hm
      rw [List.mem_singleton.mp z, List.getD_eq_getElem?_getD, hp]
      have := ht.2 _ _ hp
      exact ⟨by show p.1 ≤ _; omega, this.2.2⟩
    · cases z
  · unfold belows at z
    obtain ⟨r, hr, e⟩ := List.mem_filterMap.mp z
    have h1 := idx_mem hr
    have h2 := (List.getElem?_eq_some_iff.mp h1).1
    have h3 := ht.2 _ _ h1
    split at e
    · cases e
      exact ⟨by show r.2 + 1 ≤ _; omega, h3.2.2⟩
    · cases e
theorem near_len {t : Tr} (ht : TreeOk t) (m : Nat) : (near t m).length ≤ 12 := by
  have h1 : (belows t m).length ≤ t.length := by
    unfold belows
    have := List.length_filterMap_le (fun q : (Nat × Nat) × Nat => if q.1.1 = m then some (q.2 + 1, q.1.2) else none) t.zipIdx
    rw [idx_len] at this
    exact this
  have h2 := ht.1
  unfold near
  rw [List.length_append]
  split <;> simp <;> omega
def needB (t : Tr) (xs : List Int) (m : Nat) : Bool := (near t m).all fun q => decide (xs.getD m 0 < xs.getD q.1 0 + q.2)
def needP (t : Tr) (xs : List Int) : List (Nat × Int) := xs.zipIdx.filterMap fun q => if needB t xs q.2 = true then some (q.2, q.1) else none
def Lip (t : Tr) (xs : List Int) : Prop := ∀ i j, i ≤ t.length → j ≤ t.length → xs.getD i 0 ≤ xs.getD j 0 + dist t i j
theorem near_dist {t : Tr} (ht : TreeOk t) {m : Nat} (hm : m ≤ t.length) {q : Nat × Nat} (hq : q ∈ near t m) : dist t m q.1 = q.2 ∧ q.1 ≤ t.length ∧ 1 ≤ q.2 := by
  unfold near at hq
  rcases List.mem_append.mp hq with z | z
  · split at z
    · next h0 =>
      obtain ⟨p, hp, _, _, hlt⟩ := tree_get ht h0 hm
      rw [List.mem_singleton.mp z, List.getD_eq_getElem?_getD, hp]
      have h1 := ht.2 _ _ hp
      have h2 := row_dist ht hp
      rw [show m - 1 + 1 = m by omega] at h2
      exact ⟨h2, by show p.1 ≤ _; omega, h1.2.1⟩
    · cases z
  · unfold belows at z
    obtain ⟨r, hr, e⟩ := List.mem_filterMap.mp z
    have h1 := idx_mem hr
    have h2 := (List.getElem?_eq_some_iff.mp h1).1
    have h3 := ht.2 _ _ h1
    split at e
    · next e1 =>
      cases e
      have h4 := row_dist ht h1
      rw [e1] at h4
      exact ⟨by rw [dist_comm]; exact h4, by show r.2 + 1 ≤ _; omega, h3.2.1⟩
    · cases e
theorem last_near {t : Tr} (ht : TreeOk t) {i m : Nat} (hi : i ≤ t.length) (hm : m ≤ t.length) (h : i ≠ m) : ∃ q ∈ near t m, dist t i m = dist t i q.1 + q.2 := by
  obtain ⟨q, _, c⟩ := last_edge t i m h
  rcases c with ⟨h0, rfl, e⟩ | ⟨h0, hq, e1, e⟩
  · obtain ⟨p, hp, ep, el, hlt⟩ := tree_get ht h0 hm
    refine ⟨p, ?_, by rw [e, ep, el]⟩
    unfold near
    rw [if_pos h0, List.getD_eq_getElem?_getD, hp]
    simp
  · obtain ⟨p, hp, ep, el, hlt⟩ := tree_get ht h0 (show q ≤ t.length by omega)
    refine ⟨(q, p.2), ?_, by rw [e, el]⟩
    unfold near
    refine List.mem_append_right _ ?_
    unfold belows
    refine List.mem_filterMap.mpr ⟨(p, q - 1), List.mem_of_getElem? (i := q - 1) (by rw [List.getElem?_zipIdx, hp]; simp), ?_⟩
    show (if p.1 = m then some (q - 1 + 1, p.2) else none) = _
    rw [if_pos (by omega), show q - 1 + 1 = q by omega]
theorem need_lt {t : Tr} {xs : List Int} {m : Nat} (h : needB t xs m = true) {q : Nat × Nat} (hq : q ∈ near t m) : xs.getD m 0 < xs.getD q.1 0 + q.2 := by
  unfold needB at h
  exact of_decide_eq_true (List.all_eq_true.mp h q hq)
theorem need_far {t : Tr} (ht : TreeOk t) {xs : List Int} (hl : Lip t xs) {i m : Nat} (hi : i ≤ t.length) (hm : m ≤ t.length) (h : i ≠ m) (hn : needB t xs m = true) : xs.getD m 0 < xs.getD i 0 + dist t i m := by
  obtain ⟨q, hq, e⟩ := last_near ht hi hm h
  have h1 := need_lt hn hq
  have h2 := hl q.1 i (near_dist ht hm hq).2.1 hi
  rw [dist_comm t q.1 i] at h2
  omega
theorem need_source {t : Tr} (ht : TreeOk t) {xs : List Int} (hl : Lip t xs) (h0 : ∀ i, i ≤ t.length → 0 ≤ xs.getD i 0) : ∀ (n m : Nat), m ≤ t.length → (xs.getD m 0).toNat ≤ n → ∃ p, p ≤ t.length ∧ needB t xs p = true ∧ xs.getD m 0 = xs.getD p 0 + dist t p m := by
  intro n
  induction n with
  | zero =>
    intro m hm hn
    refine ⟨m, hm, ?_, by rw [dist_self]; omega⟩
    unfold needB
    refine List.all_eq_true.mpr fun q hq => decide_eq_true ?_
    obtain ⟨_, h1, h2⟩ := near_dist ht hm hq
    have := h0 q.1 h1
    have := h0 m hm
    omega
  | succ n ih =>
    intro m hm hn
    by_cases hb : needB t xs m = true
    · exact ⟨m, hm, hb, by rw [dist_self]; omega⟩
    · have : ∃ q ∈ near t m, xs.getD q.1 0 + q.2 ≤ xs.getD m 0 := by
        apply Classical.byContradiction
        intro z
        apply hb
        unfold needB
        refine List.all_eq_true.mpr fun q hq => decide_eq_true ?_
        have : ¬ (xs.getD q.1 0 + q.2 ≤ xs.getD m 0) := fun y => z ⟨q, hq, y⟩
        omega
      obtain ⟨q, hq, hle⟩ := this
      obtain ⟨d1, h1, h2⟩ := near_dist ht hm hq
      have h3 := h0 q.1 h1
      obtain ⟨p, hp, hb2, e⟩ := ih q.1 h1 (by omega)
      refine ⟨p, hp, hb2, ?_⟩
      have h4 := hl m p hm hp
      have h5 := dist_tri t p q.1 m
      rw [dist_comm t q.1 m, d1] at h5
      rw [dist_comm t m p] at h4
      omega
theorem mem_needP {t : Tr} {xs : List Int} {p : Nat × Int} : p ∈ needP t xs ↔ xs[p.1]? = some p.2 ∧ needB t xs p.1 = true := by
  unfold needP
  constructor
  · intro h
    obtain ⟨q, hq, e⟩ := List.mem_filterMap.mp h
    split at e
    · next h1 => cases e; exact ⟨idx_mem hq, h1⟩
    · cases e
  · rintro ⟨h1, h2⟩
    refine List.mem_filterMap.mpr ⟨(p.2, p.1), List.mem_of_getElem? (i := p.1) (by rw [List.getElem?_zipIdx, h1]; simp), ?_⟩
    rw [if_pos h2]
theorem fallsT_lip {t : Tr} {ps : List (Nat × Int)} (hne : ps ≠ []) : Lip t (fallsT t ps) := fun i j hi hj => by
  rw [fallsT_getD t ps hi, fallsT_getD t ps hj]
  obtain ⟨q, hq, e⟩ := fallT_mem (t := t) hne j
  have h1 := fallT_le (t := t) hq i
  have h2 := dist_tri t q.1 j i
  rw [dist_comm t j i] at h2
  omega
theorem needP_nodup (t : Tr) (xs : List Int) : ((needP t xs).map (·.1)).Nodup := by
  have key : ∀ l : List (Int × Nat), ((l.filterMap fun q => if needB t xs q.2 = true then some (q.2, q.1) else none).map (·.1)).Sublist (l.map (·.2)) := by
    intro l
    induction l with
    | nil => exact .slnil
    | cons q l ih =>
      rw [List.filterMap_cons]
      by_cases h : needB t xs q.2 = true
      · rw [if_pos h]
        exact ih.cons₂ _
      · rw [if_neg h]
        exact ih.cons _
  refine (key xs.zipIdx).nodup ?_
  have : xs.zipIdx.map (·.2) = List.range xs.length := by
    apply List.ext_getElem?
    intro i
    rw [List.getElem?_map, List.getElem?_zipIdx]
    by_cases hi : i < xs.length
    · rw [List.getElem?_eq_getElem hi, List.getElem?_range hi]
      simp
    · rw [List.getElem?_eq_none (by omega), List.getElem?_eq_none (by rw [List.length_range]; omega)]
      rfl
  rw [this]
  exact List.nodup_range
theorem pl_push (p : Nat × Int) : Pl 1 (pushD p) := pl_ints [(p.1 : Int), p.2]
end DL
set_option maxHeartbeats 1000000
namespace DL
open PySem PySem.Spec PyProof.Rows L2 MT
end DL
set_option maxHeartbeats 1000000
namespace DL
open PySem PySem.Spec PyProof.Rows L2 MT
def keyPy : Key → PyData
  | .inl i => .int i
  | .inr x => .str x
mutual
def toPyE : D → PyData
  | .non => .none
  | .bl b => .bool b
  | .int i => .int i
  | .str x => .str x
  | .tup ds => .tuple (toPyEs ds)
  | .lst ds => .list (toPyEs ds)
  | .dct ks ds => .dict ((ks.map keyPy).zip (toPyEs ds))
  | .ref _ => .none
  | .scr _ => .none
  | .exo _ _ _ _ _ => .none
  | .clo _ _ _ _ => .none
def toPyEs : List D → List PyData
  | [] => []
  | d :: ds => toPyE d :: toPyEs ds
end
mutual
/-- tuples and dicts, no lists -/
def pe : D → Bool
  | .non | .bl _ | .int _ | .str _ => true
  | .tup ds => pes ds
  | .dct _ ds => pes ds
  | .lst _ | .ref _ | .scr _ | .exo _ _ _ _ _ | .clo _ _ _ _ => false
def pes : List D → Bool
  | [] => true
  | d :: ds => pe d && pes ds
end
end DL
set_option maxHeartbeats 1000000
namespace DL
open PySem PySem.Spec PyProof.Rows L2 MT
structure ShEOk (n h : Nat) (d : D) : Prop where
  pe : DL.pe d = true
  showable : (toPyE d).showable = true
  depth : (toPyE d).depth ≤ h
  len : (toPyE d).shown.length ≤ n
inductive ShE : Nat → Nat → D → Prop
  | non : ShE 4 0 .non
  | bl (b : Bool) : ShE 5 0 (.bl b)
  | int {i : Int} {n : Nat} (h : Sh n 0 (.int i)) : ShE n 0 (.int i)
  | str {x : Str} {n : Nat} (h : (reprText x).length ≤ n) : ShE n 0 (.str x)
  | dct {n h : Nat} {ks : List Key} {ds : List D} (ok : ShEOk n h (.dct ks ds)) : ShE n h (.dct ks ds)
  | tup {n h m : Nat} {ds : List D} (hd : ∀ d ∈ ds, ShE n h d) (hl : ds.length ≤ m) : ShE (m * (n + 2) + 3) (h + 1) (.tup ds)
  | up {n h n' h' : Nat} {d : D} (s : ShE n h d) (hn : n ≤ n') (hh : h ≤ h') : ShE n' h' d
theorem shEAll {n h : Nat} : ∀ {ds : List D}, (∀ d ∈ ds, ShEOk n h d) → DL.pes ds = true ∧ PyData.showableAll (toPyEs ds) = true ∧ PyData.depthAll (toPyEs ds) ≤ h ∧ ((PyData.shownAll (toPyEs ds)).map (·.length)).sum ≤ ds.length * n ∧ (PyData.shownAll (toPyEs ds)).length = ds.length
  | [], _ => ⟨rfl, rfl, Nat.zero_le _, Nat.zero_le _, rfl⟩
  | d :: ds, hd => by
    obtain ⟨a1, a2, a3, a4⟩ := hd d List.mem_cons_self
    obtain ⟨b1, b2, b3, b4, b5⟩ := shEAll (ds := ds) fun x hx => hd x (List.mem_cons_of_mem _ hx)
    refine ⟨?_, ?_, ?_, ?_, ?_⟩
    · show (DL.pe d && DL.pes ds) = true
      rw [a1, b1]; rfl
    · show (PyData.showable (toPyE d) && PyData.showableAll (toPyEs ds)) = true
      rw [a2, b2]; rfl
    · show max (PyData.depth (toPyE d)) (PyData.depthAll (toPyEs ds)) ≤ h
      exact Nat.max_le.mpr ⟨a3, b3⟩
    · show (PyData.shown (toPyE d)).length + ((PyData.shownAll (toPyEs ds)).map (·.length)).sum ≤ (ds.length + 1) * n
      rw [Nat.add_mul]
      omega
    · show (PyData.shownAll (toPyEs ds)).length + 1 = ds.length + 1
      rw [b5]
theorem ShE.ok' {n h : Nat} {d : D} (s : ShE n h d) : ShEOk n h d := by
  induction s with
  | non => exact ⟨rfl, rfl, Nat.le_refl _, by decide +kernel⟩
  | bl b => exact ⟨rfl, rfl, Nat.zero_le _, by cases b <;> decide +kernel⟩
  | int h => exact ⟨rfl, h.ok'.showable, Nat.zero_le _, h.ok'.len⟩
  | str h => exact ⟨rfl, rfl, Nat.zero_le _, h⟩
  | dct h => exact h
  | @tup n h m ds hd hl ih =>
    obtain ⟨b1, b2, b3, b4, b5⟩ := shEAll ih
    refine ⟨b1, b2, Nat.succ_le_succ b3, ?_⟩
    show (tupleText (PyData.shownAll (toPyEs ds))).length ≤ _
    refine Nat.le_trans (tupleText_len_le _) ?_
    rw [b5, Nat.mul_add]
    have := Nat.mul_le_mul_right n hl
    omega
  | up s hn hh ih => exact ⟨ih.pe, ih.showable, Nat.le_trans ih.depth hh, Nat.le_trans ih.len hn⟩
/-- one way or the other -/
def One (n h : Nat) (d : D) : Prop := Sh n h d ∨ ShE n h d
def Both (n h : Nat) (d : D) : Prop := Sh n h d ∧ ShE n h d
theorem Both.tup {n h m : Nat} {ds : List D} (hd : ∀ d ∈ ds, Both n h d) (hl : ds.length ≤ m) : Both (m * (n + 2) + 3) (h + 1) (.tup ds) := ⟨.tup (fun d h => (hd d h).1) hl, .tup (fun d h => (hd d h).2) hl⟩
/-- a tuple of which one item may be odd -/
theorem One.tup {n h m : Nat} {as bs : List D} {d : D} (h1 : ∀ x ∈ as, Both n h x) (h2 : One n h d) (h3 : ∀ x ∈ bs, Both n h x) (hl : (as ++ d :: bs).length ≤ m) : One (m * (n + 2) + 3) (h + 1) (.tup (as ++ d :: bs)) := by
  rcases h2 with h2 | h2
  · refine .inl (.tup (fun x hx => ?_) hl)
    rcases List.mem_append.mp hx with z | z
    · exact (h1 x z).1
    · rcases List.mem_cons.mp z with rfl | z
      · exact h2
      · exact (h3 x z).1
  · refine .inr (.tup (fun x hx => ?_) hl)
    rcases List.mem_append.mp hx with z | z
    · exact (h1 x z).2
    · rcases List.mem_cons.mp z with rfl | z
      · exact h2
      · exact (h3 x z).2
theorem Both.int {i : Int} {n : Nat} (h : Sh n 0 (.int i)) : Both n 0 (.int i) := ⟨h, .int h⟩
mutual
/-- no place of the store, no script, no exception within -/
def od : D → Bool
  | .non | .bl _ | .int _ | .str _ => true
  | .tup ds => ods ds
  | .lst _ => true
  | .dct _ _ => true
  | .ref _ | .scr _ | .exo _ _ _ _ _ | .clo _ _ _ _ => false
def ods : List D → Bool
  | [] => true
  | d :: ds => od d && ods ds
end
end DL
set_option maxHeartbeats 1000000
namespace DL
open PySem PySem.Spec PyProof.Rows L2 MT
end DL
set_option maxHeartbeats 1000000
namespace DL
open PySem PySem.Spec PyProof.Rows L2 MT
end DL
set_option maxHeartbeats 1000000
namespace DL
open PySem PySem.Spec PyProof.Rows L2 MT
/-- a class whose instances isinstance asks rightly -/
structure InC (K : PySem.W.Frag) (C : Addr) : Prop where
  cl : Cls K C
  ha : PySem.W.findIn K (.ref C) "__class__" = some (some (.builtin "object.__class__"))
  hn : PySem.W.specialIn K (.builtin "object.__class__") "__get__" = some (some (.builtin "getset_descriptor.__get__"))
  htk : PySem.W.takesIn K (.builtin "object.__class__") = some true
  hm : PySem.W.mroIn K C (.type "object") = some true
structure DfM (K : PySem.W.Frag) (C : Addr) (m qual : Str) (st : Stmt) : Prop where
  ex : ∃ (f : Addr) (fd : FuncData), Fun K m qual st f fd ∧ Meth K C m f
end DL
set_option maxHeartbeats 1000000
namespace DL
open PySem PySem.Spec PyProof.Rows L2 MT
theorem ShOk.vw {n h : Nat} {d : D} (s : ShOk n h d) (M : Sto) : DL.vw d M = d := by
  have := s.pu
  cases d <;> first | rfl | (cases this)
end DL
set_option maxHeartbeats 1000000
namespace DL
open PySem PySem.Spec PyProof.Rows L2 MT
structure PM (X : Cx) (cs : List MatchCase) (t : V → TS) : Prop where
  run : ∀ (first : Bool) (pins : List (Addr × Obj)) (s : Shared) (σ : L2.St) (H : Hp) (v : V) (u : Value) (D : Ends), L2.Inv X pins σ H s → RelV v u → t v D σ H → wpAny (model X.prog X.w) X.A (matchCases cs X.env u first) (SP X pins D) X.xe s
section
variable {X : Cx} {e : Expr} {body : List Stmt} {rest : List MatchCase} {pos q : Pos}
theorem PM.of {cs : List MatchCase} {t t' : V → TS} (h : PM X cs t) (w : ∀ v E σ H, t' v E σ H → t v E σ H) : PM X cs t' := ⟨fun first pins s σ H v u D I r q => h.run first pins s σ H v u D I r (w v D σ H q)⟩
end
end DL
set_option maxHeartbeats 1000000
namespace DL
open PySem PySem.Spec PyProof.Rows L2 MT
section
variable {X : Cx} {CX : CXT} {o e v : Expr} {es : List Expr} {kws : List Keyword} {ta : TE} {t tk : TA} {fo fv : DTE} {fr : DTA} {pos apos p kpos : Pos} {m kn : Str} {k n : Nat} {C f : Addr} {fd : FuncData} {ps ks : List Str} {sp : Sp} {dvs : List V} {dds : List Value} {g : List Value → List Value → List Value} {gV : List V → List V → List V}
/-- a method with one keyword-only parameter that has a default -/
structure ClMeK (P : Program) (w : World) (K : PySem.W.Frag) (mg : Str → Option Value) (base : Heap) (C : Addr) (m : Str) (k : Nat) (ps : List Str) (n : Nat) (ks : List Str) (dd : List D) (ds : DSp) : Prop where
  ex : ∃ (f : Addr) (fd : FuncData), Cls K C ∧ Meth K C m f ∧ FnG P w K mg base (CXd P w) k f fd ps (spOf K ds) ∧ (∃ dvs dds, Vals dvs dds ∧ (∀ F al, Rps K F al dvs dd) ∧ Binds K fd ps dds) ∧ ∃ g, KBn K fd ps n ks g (fun vs zs => vs ++ zs)
  mono : MonoSp ds
end
structure DfMK (K : PySem.W.Frag) (C : Addr) (m qual : Str) (st : Stmt) (kn : Str) (dv : V) : Prop where
  ex : ∃ (f : Addr) (fd : FuncData), FunK1 K m qual st kn dv f fd ∧ Meth K C m f
end DL
set_option maxHeartbeats 1000000
namespace DL
open PySem PySem.Spec PyProof.Rows L2 MT
abbrev Ps := List (Nat × Int)
abbrev FS := Tr × Ps
inductive Ed where
  | push (m : Nat) (v : Int) | pull (i : Nat) | stretch (m l : Nat)
@[reducible] def edD : Ed → D
  | .push m v => .tup [.str "push", natD m, .int v]
  | .pull i => .tup [.str "pull", natD i]
  | .stretch m l => .tup [.str "stretch", natD m, natD l]
structure StOk (s : FS) : Prop where
  tr : TreeOk s.1
  len : s.2.length ≤ 20
  ps : ∀ p ∈ s.2, PushOk s.1 p
@[reducible] def psD (ps : Ps) : D := .tup (ps.map pushD)
@[reducible] def stateD (s : FS) : D := .tup [treeD s.1, psD s.2]
def tableL (s : FS) : List D := if s.2 = [] then List.replicate (s.1.length + 1) .non else (fallsT s.1 s.2).map D.int
@[reducible] def tableD (s : FS) : D := .tup (tableL s)
/-- the five places of a field -/
structure Fp where
  n : Nat
  a : Nat
  b : Nat
  c : Nat
  d : Nat
structure Fp.Ok (p : Fp) : Prop where
  na : p.n ≠ p.a
  nb : p.n ≠ p.b
  nc : p.n ≠ p.c
  nd : p.n ≠ p.d
  ab : p.a ≠ p.b
  ac : p.a ≠ p.c
  ad : p.a ≠ p.d
  bc : p.b ≠ p.c
  bd : p.b ≠ p.d
  cd : p.c ≠ p.d
def fldL (p : Fp) (w : Bool) (more : List (Str × D)) : List (Str × D) := ("states", .ref p.a) :: ("tables", .ref p.b) :: ("notes", .ref p.c) :: ("standing", .ref p.d) :: ("watching", .bl w) :: more
@[reducible] def fldC (C : Addr) (p : Fp) (w : Bool) (more : List (Str × D)) : Cell := .ins C (fldL p w more)
theorem lk_states (p : Fp) (w : Bool) (more : List (Str × D)) : (fldL p w more).lookup ("states" : Str) = some (D.ref p.a) := rfl
theorem lk_tables (p : Fp) (w : Bool) (more : List (Str × D)) : (fldL p w more).lookup ("tables" : Str) = some (D.ref p.b) := rfl
theorem lk_notes (p : Fp) (w : Bool) (more : List (Str × D)) : (fldL p w more).lookup ("notes" : Str) = some (D.ref p.c) := rfl
theorem lk_standing (p : Fp) (w : Bool) (more : List (Str × D)) : (fldL p w more).lookup ("standing" : Str) = some (D.ref p.d) := rfl
theorem lk_watching (p : Fp) (w : Bool) (more : List (Str × D)) : (fldL p w more).lookup ("watching" : Str) = some (D.bl w) := rfl
/-- a field with these states (the present one last), notes and edits -/
structure Fld (C : Addr) (M : Sto) (p : Fp) (w : Bool) (more : List (Str × D)) (hs : List FS) (ns : List D) (es : List Ed) : Prop where
  ok : p.Ok
  ins : M[p.n]? = some (fldC C p w more)
  sts : M[p.a]? = some (.lst (hs.map stateD))
  tbs : M[p.b]? = some (.lst (hs.map tableD))
  nts : M[p.c]? = some (.lst ns)
  eds : M[p.d]? = some (.lst (es.map edD))
/-- the field is there whatever else changes -/
theorem Fld.keep {C : Addr} {M M' : Sto} {p : Fp} {w : Bool} {more : List (Str × D)} {hs : List FS} {ns : List D} {es : List Ed} (F : Fld C M p w more hs ns es) (h : ∀ i, i = p.n ∨ i = p.a ∨ i = p.b ∨ i = p.c ∨ i = p.d → M'[i]? = M[i]?) : Fld C M' p w more hs ns es :=
  ⟨F.ok, (h _ (.inl rfl)).trans F.ins, (h _ (.inr (.inl rfl))).trans F.sts, (h _ (.inr (.inr (.inl rfl)))).trans F.tbs, (h _ (.inr (.inr (.inr (.inl rfl))))).trans F.nts, (h _ (.inr (.inr (.inr (.inr rfl))))).trans F.eds⟩
theorem eqv_unit (ds : List D) : PyData.eqv (toPy (.tup ds)) (toPy (.tup [])) = decide (ds = []) := by
  cases ds with
  | nil => rfl
  | cons d ds => rfl
theorem pl_ps (ps : Ps) : Pl 2 (psD ps) := .tup fun d hd => by
  obtain ⟨p, _, rfl⟩ := List.mem_map.mp hd
  exact pl_push p
theorem pl_unit : Pl 1 (.tup []) := .tup (h := 0) fun d hd => nomatch hd
theorem ps_nil {ps : Ps} : decide (ps.map pushD = []) = decide (ps = []) := by
  cases ps with
  | nil => rfl
  | cons p ps => rfl
@[reducible] def fpAt (n : Nat) : Fp := ⟨n, n + 1, n + 2, n + 3, n + 4⟩
def newF (C : Addr) (n : Nat) (more : List (Str × D)) (t : Tr) : Sto := [fldC C (fpAt n) false more, .lst [stateD (t, [])], .lst [tableD (t, [])], .lst [.non], .lst []]
theorem fVs_nats : ∀ xs : List Nat, fVs (xs.map natD) = some (xs.map fun (i : Nat) => V.int (i : Int))
  | [] => rfl
  | x :: xs => by
    show (match some (V.int (x : Int)), fVs (xs.map natD) with | some v, some vs => some (v :: vs) | _, _ => none) = _
    rw [fVs_nats xs]
    rfl
theorem inV_nats (m : Nat) : ∀ xs : List Nat, inV (V.int (m : Int)) (xs.map fun (i : Nat) => V.int (i : Int)) = decide (m ∈ xs)
  | [] => rfl
  | x :: xs => by
    have ih := inV_nats m xs
    unfold inV at ih ⊢
    rw [List.map_cons, List.any_cons, ih]
    show (((x : Int) == (m : Int)) || decide (m ∈ xs)) = _
    by_cases e : x = m
    · subst e
      simp
    · have h1 : ((x : Int) == (m : Int)) = false := by
        rw [beq_eq_false_iff_ne]
        omega
      rw [h1, Bool.false_or]
      simp [Ne.symm e]
end DL
set_option maxHeartbeats 1000000
namespace DL
open PySem PySem.Spec PyProof.Rows L2 MT
end DL
set_option maxHeartbeats 1000000
namespace DL
open PySem PySem.Spec PyProof.Rows L2 MT
end DL
set_option maxHeartbeats 1000000
namespace DL
open PySem PySem.Spec PyProof.Rows L2
/-- lo, lo - 1, .. (n of them) -/
def rngD (lo : Int) (n : Nat) : List D := (List.range n).map fun (i : Nat) => D.int (lo - i)
section
variable {X : Cx} {pos : Pos} {a b c : Expr} {fr : DTA}
@[reducible] def diR3 (fr : DTA) : DTI := fun ρ M R => fr ρ M fun ds M1 => match ds with
  | [.int i, .int j, .int c] => c = -1 ∧ (-(2 ^ 62) ≤ i ∧ i < 2 ^ 62 ∧ -(2 ^ 62) ≤ j ∧ j < 2 ^ 62) ∧ R (rngD i (i - j).toNat) stYes M1
  | _ => False
end
end DL
set_option maxHeartbeats 2000000
namespace DL
open PySem PySem.Spec PyProof.Rows L2
section
variable {ck : List (PySem.W.Frag → Bool)} {fn : List HDef} {ts : List He.Tab} {w : World} {K : PySem.W.Frag} {h : Heap} {mg : Str → Option Value}
theorem SaysH.fact (c : SaysH ck fn ts w K) (i : Nat) {f : PySem.W.Frag → Bool} (h : ck[i]? = some f) : f K = true := by
  have c1 := (He.ba (show ((ck.all fun f => f K) && fn.all fun d => d.ok K) = true from congrArg (fun z : AlH => z.1) c)).1
  exact List.all_eq_true.mp c1 f (List.mem_of_getElem? h)
theorem SaysH.def_ (c : SaysH ck fn ts w K) (i : Nat) {d : HDef} (h : fn[i]? = some d) (hcl : d.clo = [] := by rfl) : ∃ fd, FunD K d.name d.qual (defArgs d.st) (defBody d.st) (defScope d.st) [] (d.kws K) (d.at_ K) fd := by
  have c2 := (He.ba (show ((ck.all fun f => f K) && fn.all fun d => d.ok K) = true from congrArg (fun z : AlH => z.1) c)).2
  have e : fn.map (fun d => fnH K (d.at_ K)) = fn.map HDef.val := congrArg (fun z : AlH => z.2.1) c
  have e2 : (fn.map fun d => fnH K (d.at_ K))[i]? = (fn.map HDef.val)[i]? := by rw [e]
  rw [List.getElem?_map, List.getElem?_map, h] at e2
  exact HDef.funD hcl (Option.some.inj e2) (List.all_eq_true.mp c2 d (List.mem_of_getElem? h))
theorem SaysH.tab (c : SaysH ck fn ts w K) (i : Nat) {t : He.Tab} (h : ts[i]? = some t) : ∃ es n, KDict K w (t.1 K) es n := by
  have e : ts.map (fun t => He.dicW K (t.1 K)) = ts.map fun t => some (He.keysIn w.params t.2) := congrArg (fun z : AlH => z.2.2) c
  have e2 : (ts.map fun t => He.dicW K (t.1 K))[i]? = (ts.map fun t => some (He.keysIn w.params t.2))[i]? := by rw [e]
  rw [List.getElem?_map, List.getElem?_map, h] at e2
  exact He.dicW_ok (Option.some.inj e2)
theorem SaysH.df (c : SaysH ck fn ts w K) (X : K.In h) (G : h.Ns mainGlobals mg) (i j : Nat) {x : Str} {st : Stmt} (h1 : ck[i]? = some fun K => (He.Fa.glo x).ok K) (h2 : fn[j]? = some ⟨fun K => He.ga K x, x, x, st, [], []⟩) : Df K mg x st := by
  obtain ⟨fd, F⟩ := c.def_ j h2
  exact ⟨_, fd, fun_ofD F, He.glo_ok X G (c.fact i h1)⟩
theorem Eb.facts (b : Eb) : ∃ B initId, ExcBaseFacts B b.new initId b.bm ∧ StoreFacts B b.bm "object.__setattr__" "object" := by
  cases b with
  | value => exact ⟨_, _, PySem.F.excBase_ValueError, PySem.F.store_ValueError⟩
  | lookup => exact ⟨_, _, PySem.F.excBase_LookupError, PySem.F.store_LookupError⟩
theorem excX_of {b : Eb} {C : Addr} (q : excXIn b K C = true) : ∃ nm qn N bs bm sn sub ab col dd k0 k1 k2 k3 k5,
    K.lookup C = some (excClassObj nm qn C N bs bm true sn sub ab col dd k0 k1 k2 k3 k5 b.new) ∧ PySem.W.excTail b.bm bm = true := by
  unfold excXIn at q
  split at q
  · rename_i dd cd sl ho
    split at q
    · rename_i C' bm k0 k1 k2 k3 n k5 hm hs
      simp only [Bool.and_eq_true, beq_iff_eq, Bool.not_eq_true'] at q
      obtain ⟨rfl, rfl, hdel, hhd, ht⟩ := q
      obtain ⟨nm, bs, mro, ns, qn, hd, sn, sub, ab, col, del⟩ := cd
      dsimp only at hm hdel hhd
      subst hm hdel hhd
      have hsl : sl = #[k0, k1, k2, k3, some (.builtin b.new), k5] := by
        obtain ⟨l⟩ := sl
        simp only at hs
        rw [hs]
      subst hsl
      exact ⟨nm, qn, ns, bs, bm, sn, sub, ab, col, dd, k0, k1, k2, k3, k5, ho, ht⟩
    · cases q
  · cases q
structure ExiH (K : PySem.W.Frag) (C : Addr) : Prop where
  i : ExI K C
  kC : PySem.W.keepIn K (.ref C) = true
  tyC : PySem.W.typeIn K (.ref C) = some (.type "type")
theorem exi_ok {C : Str} (g : gsB K = true) (b : exiB C K = true) : ExiH K (He.ga K C) := by
  obtain ⟨b3, b⟩ := He.ba b
  obtain ⟨b4, b⟩ := He.ba b
  obtain ⟨b8, b⟩ := He.ba b
  obtain ⟨b9, b⟩ := He.ba b
  obtain ⟨b10, b⟩ := He.ba b
  obtain ⟨b11, b⟩ := He.ba b
  obtain ⟨b12, b13⟩ := He.ba b
  obtain ⟨g1, g2⟩ := He.ba g
  exact ⟨⟨He.eqO_ok b3, He.eqO_ok b4, of_decide_eq_true b9, b11, He.eqO_ok b12, He.eqO_ok g1, of_decide_eq_true g2, of_decide_eq_true b13⟩, b8, of_decide_eq_true b10⟩
theorem SaysH.exc (c : SaysH ck fn ts w K) (g : gsB K = true) (i0 i j : Nat) {eb : Eb} {C f q : Str} {st : Stmt} (h0 : ck[i0]? = some (exiB C)) (h1 : ck[i]? = some (excB eb C f)) (h2 : fn[j]? = some ⟨fun K => initA K C, "__init__", q, st, [], []⟩) (S : FnScope ["self", f] ["self", f] (defScope st)) (hb : initBody f st)
    (v0 : Vis (defScope st) "self") (v1 : Vis (defScope st) f) (hbind : ∀ (kV doc pm : Value) (an : Option Addr) (cdv ct : Value) (us : List Value), us.length = 2 → bindArgs (PySem.W.fnOf "__init__" q (defArgs st) (defBody st) (defScope st) .none kV doc pm an cdv ct) ⟨us, []⟩ = pure ((["self", f] : List Str).zip us))
    (d1 : (f == ("__debug__" : Str)) = false) (d2 : (f == ("__classdict__" : Str)) = false) : EcF K (He.ga K C) f ∧ ExI K (He.ga K C) := by
  obtain ⟨fd, F⟩ := c.def_ j h2
  have EI := exi_ok g (c.fact i0 h0)
  obtain ⟨b1, b⟩ := He.ba (c.fact i h1)
  obtain ⟨b2, b⟩ := He.ba b
  obtain ⟨b5, b⟩ := He.ba b
  obtain ⟨b6, b7⟩ := He.ba b
  have F1 : Fun K "__init__" q st (initA K C) fd := fun_ofD F
  obtain ⟨B, initId, FB, SB⟩ := eb.facts
  have ox : OexB K (He.ga K C) := ⟨⟨B, eb.new, initId, eb.bm, FB, SB, excX_of b1⟩, He.eqO_ok b2, EI.i.ex, EI.tyC, EI.kC⟩
  exact ⟨⟨ox, He.eqO_ok b5, EI.i.ga, EI.i.gg, EI.i.hd, _, fd, He.eqO_ok b6, of_decide_eq_true b7, F1.binds (ps := ["self", f]) hbind, fun P w mg base => ⟨init_ok F1 S hb v0 v1 ox (He.eqO_ok b5) d1 d2, init_okH F1 S hb v0 v1 ox (He.eqO_ok b5) d1 d2⟩⟩, EI.i⟩
end
theorem walkGE {l : PySem.W.OpenLaw} {n k : Nat} {q : Program} {loose : List Str} {XP : (Str → Option Value) → Heap → Prop} {YP : World → Heap → Prop} {d : DefRec} {sp : PySem.W.Frag → Sp} {x : Str}
    (hn : l.most = some n) (hn2 : n ≤ sizeLine) (hdf : d.params.defaults = []) (hr : Room k callerA)
    (F : ∀ (w : World) (mg : Str → Option Value) (fa : Addr) (h : Heap), YP w h → h.Ns mainGlobals mg → mg d.name = some (.ref fa) →
      ∃ (K : PySem.W.Frag) (fd : FuncData), K.In h ∧ TabsH K h ∧ (∀ (s : Shared) (u : Value), BindsTo s fd ⟨[u], []⟩ [(x, u)]) ∧ ∀ base : Heap, K.In base → base.Ns mainGlobals mg → FnG l.prog w K mg base (CXd l.prog w) k fa fd [x] (sp K))
    (hsp : ∀ (K : PySem.W.Frag) (H : Hp) (a : Addr) (ns : List Int), ns.length ≤ n → (∀ p ∈ Tk K, H p.1 = some (.tbl #[])) → SqL K H a (ns.map V.int) → sp K [.ref a] H (fun v _ => v = .bl true) fun _ _ _ => False) :
    PySem.W.WalkO q loose XP YP l.row.toRowW d [] (fun f vs => PySem.call f vs) := by
  refine Att.attach_call hn hdf fun w s0 s1 mg mb fa o pm cd doc a vs ns G Y ho hd hcd hmg hobj hints hlen hg => ?_
  obtain ⟨K, fd, KX, TH, hb, hF⟩ := F w mg fa _ Y G.T.g hmg
  exact law_callG KX G.T.g G.T.b G.T.builtins G.T.nolimit hg hobj hints (Nat.le_trans hlen hn2) hr TH hF hb (fun H hT hS => hsp _ H a ns hlen hT hS) fun H e s' z => cx_no z
end DL
set_option maxHeartbeats 1000000
namespace DL
open PySem PySem.Spec PyProof.Rows L2 MT
theorem PlOk.vw {h : Nat} {d : D} (s : PlOk h d) (M : Sto) : DL.vw d M = d := by
  have := s.1
  cases d <;> first | rfl | (cases this)
theorem PlOk.eqOk {h : Nat} {d : D} (s : PlOk h d) (hh : h ≤ 60) (M : Sto) : DL.eqOk d M := by
  unfold DL.eqOk
  rw [s.vw M]
  exact s.eq hh
theorem PlOk.same {h : Nat} {d : D} (s : PlOk h d) : PyData.eqv (toPy d) (toPy d) = true := PySem.SeqAt.eqv_refl _ s.2.1
theorem PlOk.tup {h : Nat} {ds : List D} (hd : ∀ d ∈ ds, PlOk h d) : PlOk (h + 1) (.tup ds) := by
  obtain ⟨b1, b2, b3⟩ := plAll hd
  exact ⟨b1, b2, Nat.succ_le_succ b3⟩
theorem PlOk.lst {h : Nat} {ds : List D} (hd : ∀ d ∈ ds, PlOk h d) : PlOk (h + 1) (.lst ds) := by
  obtain ⟨b1, b2, b3⟩ := plAll hd
  exact ⟨b1, b2, Nat.succ_le_succ b3⟩
/-- an edit whose numbers are small -/
def EdSm : Ed → Prop
  | .push m v => m ≤ 100 ∧ 0 ≤ v ∧ v ≤ 1000000000
  | .pull i => i ≤ 100
  | .stretch m l => m ≤ 100 ∧ l ≤ 1000000
/-- a field with its past: all states good, of one number of marks; the first is the bare tree -/
structure FH (C : Addr) (M : Sto) (p : Fp) (w : Bool) (more : List (Str × D)) (t : Tr) (hs : List FS) (s : FS) (ns : List D) (es : List Ed) : Prop where
  F : Fld C M p w more (hs ++ [s]) ns es
  ok : ∀ x ∈ hs ++ [s], StOk x ∧ x.1.length = t.length
  sm : ∀ e ∈ es, EdSm e
  lh : hs.length = es.length
  ln : ns.length = es.length + 1
  hd : (hs ++ [s])[0]? = some (t, [])
section
variable {C : Addr} {M : Sto} {p : Fp} {w : Bool} {more : List (Str × D)} {t : Tr} {hs : List FS} {s : FS} {ns : List D} {es : List Ed} {e : Ed}
theorem FH.hl (H : FH C M p w more t hs s ns es) : s.1.length = t.length := (H.ok s (by simp)).2
theorem FH.of {M' : Sto} (H : FH C M p w more t hs s ns es) (F : Fld C M' p w more (hs ++ [s]) ns es) : FH C M' p w more t hs s ns es := ⟨F, H.ok, H.sm, H.lh, H.ln, H.hd⟩
/-- a state of the past -/
theorem FH.at_ (H : FH C M p w more t hs s ns es) {j : Nat} (hj : j ≤ es.length) : ∃ x, (hs ++ [s])[j]? = some x ∧ StOk x ∧ x.1.length = t.length := by
  have hl : j < (hs ++ [s]).length := by rw [List.length_append, H.lh, List.length_singleton]; omega
  exact ⟨_, List.getElem?_eq_getElem hl, H.ok _ (List.getElem_mem hl)⟩
theorem FH.now (H : FH C M p w more t hs s ns es) : (hs ++ [s])[es.length]? = some s := by rw [← H.lh, List.getElem?_concat_length]
theorem FH.len (H : FH C M p w more t hs s ns es) : (hs ++ [s]).length = es.length + 1 := by rw [List.length_append, H.lh, List.length_singleton]
end
end DL
set_option maxHeartbeats 1000000
namespace DL
open PySem PySem.Spec PyProof.Rows L2 MT
inductive Er where
  | mark (d : D) | tick (d : D) | many | push (d : D) | row (d : D) | length (d : D)
@[reducible] def Er.cls : Er → Str
  | .mark _ => "NoMark" | .tick _ => "BadTick" | .many => "TooManyPushes" | .push _ => "NoPush" | .row _ => "NoRow" | .length _ => "BadLength"
/-- an edit whose values may be of any kind -/
inductive RE where
  | push (m v : D) | pull (i : D) | stretch (m l : D)
@[reducible] def raw : Ed → RE
  | .push m v => .push (natD m) (.int v) | .pull i => .pull (natD i) | .stretch m l => .stretch (natD m) (natD l)
end DL
set_option maxHeartbeats 1000000
namespace DL
open PySem PySem.Spec PyProof.Rows L2 MT
end DL
set_option maxHeartbeats 1000000
namespace DL
open PySem PySem.Spec PyProof.Rows L2 MT
section
variable {X : Cx} {a : Expr} {fr : DTA} {pos : Pos}
@[reducible] def diEnumR (fr : DTA) : DTI := fun ρ M R => fr ρ M fun ds M1 => match ds with
  | [.lst xs] => R (enumD 0 xs) stYes M1
  | [.ref n] => match M1[n]? with
    | some (.lst xs) => R (enumD 0 xs) (fun M' => M'[n]? = some (.lst xs)) M1
    | _ => False
  | _ => False
end
end DL
set_option maxHeartbeats 1000000
namespace DL
open PySem PySem.Spec PyProof.Rows L2 MT
mutual
/-- tuples, lists and dicts -/
def pel : D → Bool
  | .non | .bl _ | .int _ | .str _ => true
  | .tup ds => pels ds
  | .lst ds => pels ds
  | .dct _ ds => pels ds
  | .ref _ | .scr _ | .exo _ _ _ _ _ | .clo _ _ _ _ => false
def pels : List D → Bool
  | [] => true
  | d :: ds => pel d && pels ds
end
structure ShLOk (n h : Nat) (d : D) : Prop where
  pe : DL.pel d = true
  showable : (toPyE d).showable = true
  depth : (toPyE d).depth ≤ h
  len : (toPyE d).shown.length ≤ n
inductive ShL : Nat → Nat → D → Prop
  | non : ShL 4 0 .non
  | bl (b : Bool) : ShL 5 0 (.bl b)
  | int {i : Int} {n : Nat} (h : Sh n 0 (.int i)) : ShL n 0 (.int i)
  | str {x : Str} {n : Nat} (h : (reprText x).length ≤ n) : ShL n 0 (.str x)
  | by_ {n h : Nat} {d : D} (ok : ShLOk n h d) : ShL n h d
  | tup {n h m : Nat} {ds : List D} (hd : ∀ d ∈ ds, ShL n h d) (hl : ds.length ≤ m) : ShL (m * (n + 2) + 3) (h + 1) (.tup ds)
  | lst {n h m : Nat} {ds : List D} (hd : ∀ d ∈ ds, ShL n h d) (hl : ds.length ≤ m) : ShL (m * (n + 2) + 3) (h + 1) (.lst ds)
  | up {n h n' h' : Nat} {d : D} (s : ShL n h d) (hn : n ≤ n') (hh : h ≤ h') : ShL n' h' d
theorem shLAll {n h : Nat} : ∀ {ds : List D}, (∀ d ∈ ds, ShLOk n h d) → DL.pels ds = true ∧ PyData.showableAll (toPyEs ds) = true ∧ PyData.depthAll (toPyEs ds) ≤ h ∧ ((PyData.shownAll (toPyEs ds)).map (·.length)).sum ≤ ds.length * n ∧ (PyData.shownAll (toPyEs ds)).length = ds.length
  | [], _ => ⟨rfl, rfl, Nat.zero_le _, Nat.zero_le _, rfl⟩
  | d :: ds, hd => by
    obtain ⟨a1, a2, a3, a4⟩ := hd d List.mem_cons_self
    obtain ⟨b1, b2, b3, b4, b5⟩ := shLAll (ds := ds) fun x hx => hd x (List.mem_cons_of_mem _ hx)
    refine ⟨?_, ?_, ?_, ?_, ?_⟩
    · show (DL.pel d && DL.pels ds) = true
      rw [a1, b1]; rfl
    · show (PyData.showable (toPyE d) && PyData.showableAll (toPyEs ds)) = true
      rw [a2, b2]; rfl
    · show max (PyData.depth (toPyE d)) (PyData.depthAll (toPyEs ds)) ≤ h
      exact Nat.max_le.mpr ⟨a3, b3⟩
    · show (PyData.shown (toPyE d)).length + ((PyData.shownAll (toPyEs ds)).map (·.length)).sum ≤ (ds.length + 1) * n
      rw [Nat.add_mul]
      omega
    · show (PyData.shownAll (toPyEs ds)).length + 1 = ds.length + 1
      rw [b5]
theorem ShL.ok' {n h : Nat} {d : D} (s : ShL n h d) : ShLOk n h d := by
  induction s with
  | non => exact ⟨rfl, rfl, Nat.le_refl _, by decide +kernel⟩
  | bl b => exact ⟨rfl, rfl, Nat.zero_le _, by cases b <;> decide +kernel⟩
  | int h => exact ⟨rfl, h.ok'.showable, Nat.zero_le _, h.ok'.len⟩
  | str h => exact ⟨rfl, rfl, Nat.zero_le _, h⟩
  | by_ h => exact h
  | @tup n h m ds hd hl ih =>
    obtain ⟨b1, b2, b3, b4, b5⟩ := shLAll ih
    refine ⟨b1, b2, Nat.succ_le_succ b3, ?_⟩
    show (tupleText (PyData.shownAll (toPyEs ds))).length ≤ _
    refine Nat.le_trans (tupleText_len_le _) ?_
    rw [b5, Nat.mul_add]
    have := Nat.mul_le_mul_right n hl
    omega
  | @lst n h m ds hd hl ih =>
    obtain ⟨b1, b2, b3, b4, b5⟩ := shLAll ih
    refine ⟨b1, b2, Nat.succ_le_succ b3, ?_⟩
    show (listText (PyData.shownAll (toPyEs ds))).length ≤ _
    refine Nat.le_trans (listText_len_le _) ?_
    rw [b5, Nat.mul_add]
    have := Nat.mul_le_mul_right n hl
    omega
  | up s hn hh ih => exact ⟨ih.pe, ih.showable, Nat.le_trans ih.depth hh, Nat.le_trans ih.len hn⟩
def lstOf (d : D) (M : Sto) : Option (List D) := match d with
  | .lst ds => some ds
  | .ref n => match M[n]? with
    | some (.lst ds) => some ds
    | _ => none
  | _ => none
end DL
set_option maxHeartbeats 1000000
namespace DL
open PySem PySem.Spec PyProof.Rows L2 MT
section
variable {X : Cx} {o e : Expr} {fo fe : DTE} {pos apos : Pos}
/-- a method of a text with a text -/
@[reducible] def dM1 (g : Str → Str → Sto → DK → Prop) (fo fe : DTE) : DTE := fun ρ M Q => fo ρ M fun x M1 => match x with
  | .str a => fe ρ M1 fun y M2 => match y with
    | .str b => g a b M2 Q
    | _ => False
  | _ => False
/-- for over a text: its signs -/
def signsD (x : Str) : List D := x.cps.toList.map fun c => D.str ⟨#[c]⟩
@[reducible] def diStr (fa : DTE) : DTI := fun ρ M R => fa ρ M fun d M1 => match d with
  | .str x => R (signsD x) stYes M1
  | _ => False
end
end DL
set_option maxHeartbeats 1000000
namespace DL
open PySem PySem.Spec PyProof.Rows L2 MT
section
variable {X : Cx} {e : Expr}
/-- an expression that is never reached -/
@[reducible] def dNeverE : DTE := fun _ _ _ => False
end
section
variable {X : Cx} {pins : List (Addr × Obj)} {σ : L2.St} {H : Hp} {s : Shared}
@[reducible] def dgStar1L (g : DTGs) : DTG := fun d ρ M Q => match d with
  | .lst (x :: xs) => xs.length ≤ 1000 ∧ g [x, .lst xs] ρ M Q
  | _ => False
end
section
variable {X : Cx} {a : Expr} {fa : DTE} {pos : Pos}
/-- instances of class C are (or are not) instances of class C' -/
def KC (K : PySem.W.Frag) (C C' : Addr) (b : Bool) : Prop := PySem.W.kitOne K (.ref C) (.ref C') = some b
@[reducible] def dIsiC (K : PySem.W.Frag) (C' : Addr) (fa : DTE) : DTE := fun ρ M Q => fa ρ M fun d M1 => match d with
  | .ref n => match M1[n]? with
    | some (.ins C _) => InC K C ∧ ∃ b, KC K C C' b ∧ Q (.bl b) M1
    | _ => False
  | _ => False
end
section
variable {X : Cx} {C f : Addr} {fd : FuncData} {ps : List Str} {k : Nat} {ds : DSp}
@[reducible] def gEqI (C : Addr) (ds : DSp) : G2 := fun x y M Q => match x with
  | .ref n => match y with
    | .ref m => match M[n]? with
      | some (.ins C' fs) => match M[m]? with
        | some (.ins C'' gs) => C' = C ∧ C'' = C ∧ ds [.ref n, .ref m] M (fun v M2 => ∃ b : Bool, v = .bl b ∧ Q (.bl b) M2) fun _ _ _ => False
        | _ => False
      | _ => False
    | _ => False
  | _ => False
end
section
variable {X : Cx} {a b : Expr} {fa fb : DTE} {rest : List Expr} {pos : Pos}
@[reducible] def dOrT (fa fb : DTE) : DTE := fun ρ M Q => fa ρ M fun d M1 => gTru d M1 fun b M2 => if b = true then Q d M2 else fb ρ M2 Q
end
end DL
set_option maxHeartbeats 1000000
namespace DL
open PySem PySem.Spec PyProof.Rows L2 MT
theorem c1 : Str.length (":" : Str) = 1 := by decide +kernel
theorem c2 : Str.length ("@" : Str) = 1 := by decide +kernel
theorem c3 : Str.length (" " : Str) = 1 := by decide +kernel
end DL
set_option maxHeartbeats 1000000
namespace DL
open PySem PySem.Spec PyProof.Rows L2 MT
end DL
set_option maxHeartbeats 1000000
namespace DL
open PySem PySem.Spec PyProof.Rows L2 MT
theorem fn_getIn {K : PySem.W.Frag} {g : Addr} (h : PySem.W.isFn K (.ref g) = true) : PySem.W.specialIn K (.ref g) "__get__" = some (some (.builtin "function.__get__")) ∧ PySem.W.takesIn K (.ref g) = some false := by
  have e := beq_iff_eq.mp h
  refine ⟨?_, ?_⟩
  · unfold PySem.W.specialIn
    rw [e, Option.bind_some]
    kernel_rfl
  · unfold PySem.W.takesIn PySem.W.specialIn
    rw [e, Option.bind_some, Option.bind_some]
    kernel_rfl
theorem DfM.bm {K : PySem.W.Frag} {C : Addr} {m q : Str} {st : Stmt} (d : DfM K C m q st) (cp : PySem.W.copiedNames.contains m = false) : ∀ f, Meth K C m f → BMeth K C m f := fun f M => by
  obtain ⟨g, fd, F, M2⟩ := d.ex
  have e := M.at_
  rw [M2.at_] at e
  cases e
  obtain ⟨h1, h2⟩ := fn_getIn M.fn
  refine ⟨M, h1, h2, cp, ?_⟩
  obtain ⟨oc, od, kV, doc, pm, an, cdv, ct, osl, rfl, lk, _⟩ := F.ex
  unfold PySem.W.fnIn
  rw [lk]
end DL
set_option maxHeartbeats 1000000
namespace DL
open PySem PySem.Spec PyProof.Rows L2 MT
theorem FnG.imp {P : Program} {w : World} {K : PySem.W.Frag} {mg : Str → Option Value} {base : Heap} {CX : CXT} {k : Nat} {f : Addr} {fd : FuncData} {ps : List Str} {sp sp' : Sp} (F : FnG P w K mg base CX k f fd ps sp) (h : ∀ vs H Q E, sp' vs H Q E → sp vs H Q E) : FnG P w K mg base CX k f fd ps sp' :=
  ⟨fun vs H Q E q => F.len _ _ _ _ (h _ _ _ _ q), fun A outer s H args us vs Q E hg hr e0 hb rv q => F.run A outer s H args us vs Q E hg hr e0 hb rv (h _ _ _ _ q)⟩
end DL
set_option maxHeartbeats 1000000
namespace DL
open PySem PySem.Spec PyProof.Rows L2 MT
section
variable {X : Cx} {CX : CXT} {o e v : Expr} {es : List Expr} {kws : List Keyword} {ta : TE} {t tk : TA} {fo fe fv : DTE} {fr : DTA} {pos apos p kpos : Pos} {m kn : Str} {k n : Nat} {C f : Addr} {Cs : List Addr} {fd : FuncData} {ps ks : List Str} {sp : Sp} {dvs : List V} {dds : List Value} {g : List Value → List Value → List Value} {gV : List V → List V → List V}
structure ClMeKL (P : Program) (w : World) (K : PySem.W.Frag) (mg : Str → Option Value) (base : Heap) (Cs : List Addr) (m : Str) (k : Nat) (ps : List Str) (n : Nat) (ks : List Str) (dd : List D) (ds : DSp) : Prop where
  ex : ∃ (f : Addr) (fd : FuncData), (∀ C ∈ Cs, Cls K C ∧ Meth K C m f) ∧ FnG P w K mg base (CXd P w) k f fd ps (spOf K ds) ∧ (∃ dvs dds, Vals dvs dds ∧ (∀ F al, Rps K F al dvs dd) ∧ Binds K fd ps dds) ∧ ∃ g, KBn K fd ps n ks g (fun vs zs => vs ++ zs)
  mono : MonoSp ds
end
structure DfML (K : PySem.W.Frag) (Cs : List Addr) (m qual : Str) (st : Stmt) : Prop where
  ex : ∃ (f : Addr) (fd : FuncData), Fun K m qual st f fd ∧ ∀ C ∈ Cs, Meth K C m f
structure DfMKL (K : PySem.W.Frag) (Cs : List Addr) (m qual : Str) (st : Stmt) (kn : Str) (dv : V) : Prop where
  ex : ∃ (f : Addr) (fd : FuncData), FunK1 K m qual st kn dv f fd ∧ ∀ C ∈ Cs, Meth K C m f
theorem DfML.bm {K : PySem.W.Frag} {Cs : List Addr} {m q : Str} {st : Stmt} (d : DfML K Cs m q st) (cp : PySem.W.copiedNames.contains m = false) : ∀ f, ∀ C ∈ Cs, Meth K C m f → BMeth K C m f := fun f C hC M => by
  obtain ⟨g, fd, F, M2⟩ := d.ex
  exact DfM.bm ⟨g, fd, F, M2 C hC⟩ cp f M
end DL
set_option maxHeartbeats 1000000
namespace DL
open PySem PySem.Spec PyProof.Rows L2 MT
theorem rg_rps2 {K : PySem.W.Frag} {F : Hp} {al : List Addr} (i j : Int) : Rps K F al (rgV i j) (rng i (j - i).toNat) := by
  unfold rgV rng
  generalize List.range (j - i).toNat = L
  induction L with
  | nil => exact .nil
  | cons x L ih => exact .cons (.int _) ih
end DL
set_option maxHeartbeats 1000000
namespace DL
open PySem PySem.Spec PyProof.Rows L2 MT
structure SubEq (K : PySem.W.Frag) (C C2 : Addr) : Prop where
  up : PySem.W.subIn K (.ref C2) (.ref C) = some true
  dn : PySem.W.subIn K (.ref C) (.ref C2) = some false
  ne : C ≠ C2
end DL
set_option maxHeartbeats 1000000
namespace DL
open PySem PySem.Spec PyProof.Rows L2 MT
end DL
set_option maxHeartbeats 1000000
namespace DL
open PySem PySem.Spec PyProof.Rows L2 MT
/-- the cells and the unused digits -/
abbrev CR := List Int × List Int
def Gd (b : Nat) (cs : CR) (n : Int) : Prop := (1 ≤ cs.1.length ∧ cs.1.length ≤ 63 ∧ cs.2.length = cs.1.length) ∧ ((∀ c ∈ cs.1, 0 ≤ c) ∧ ∀ c ∈ cs.2, 0 ≤ c) ∧ 0 ≤ n ∧ n + b ≤ 1000000
theorem Gd.le {b b' : Nat} {cs : CR} {n : Int} (g : Gd b cs n) (h : b' ≤ b) : Gd b' cs n := ⟨g.1, g.2.1, g.2.2.1, by have := g.2.2.2; omega⟩
end DL
set_option maxHeartbeats 1000000
namespace DL
open PySem PySem.Spec PyProof.Rows L2 MT
/-- the order of pairs -/
def pLe (p q : Int × Int) : Prop := p.1 < q.1 ∨ (p.1 = q.1 ∧ p.2 ≤ q.2)
@[reducible] def pD (p : Int × Int) : D := .tup [.int p.1, .int p.2]
def pP (p : Int × Int) : PyData := .tuple [.int p.1, .int p.2]
theorem lt_pP (p q : Int × Int) : PySem.W.dataLt (pP p) (pP q) = decide (p.1 < q.1 ∨ (p.1 = q.1 ∧ p.2 < q.2)) := by
  unfold pP
  rw [PySem.W.dataLt_tuple]
  simp [PySem.W.keyToks, PySem.W.keyToksAll, PyProof.Rows.lex_cons, PyProof.Rows.lexLt, itemOrd, itemLt]
  by_cases h1 : p.1 < q.1
  · simp [h1]
  · by_cases h2 : p.1 = q.1
    · simp [h2]
    · have h3 : q.1 < p.1 := by omega
      simp [h1, h2, h3]
def minPr (p : Int × Int) (ps : List (Int × Int)) : Int × Int := ps.foldl (fun a y => if y.1 < a.1 ∨ (y.1 = a.1 ∧ y.2 < a.2) then y else a) p
theorem minD_pairs : ∀ (ps : List (Int × Int)) (p : Int × Int), PySem.W.minD (pP p) (ps.map pP) = pP (minPr p ps)
  | [], _ => rfl
  | q :: ps, p => by
    show List.foldl _ (if PySem.W.dataLt (pP q) (pP p) = true then pP q else pP p) (ps.map pP) = pP (ps.foldl _ (if q.1 < p.1 ∨ (q.1 = p.1 ∧ q.2 < p.2) then q else p))
    rw [lt_pP]
    by_cases h : q.1 < p.1 ∨ (q.1 = p.1 ∧ q.2 < p.2)
    · rw [decide_eq_true h, if_pos rfl, if_pos h]
      exact minD_pairs ps q
    · rw [decide_eq_false h, if_neg (by decide), if_neg h]
      exact minD_pairs ps p
theorem pLe_trans {p q r : Int × Int} (h1 : pLe p q) (h2 : pLe q r) : pLe p r := by
  unfold pLe at *
  omega
theorem pLe_refl (p : Int × Int) : pLe p p := .inr ⟨rfl, Int.le_refl _⟩
theorem minPr_spec : ∀ (ps : List (Int × Int)) (p : Int × Int), minPr p ps ∈ p :: ps ∧ ∀ q ∈ p :: ps, pLe (minPr p ps) q
  | [], p => ⟨List.mem_cons_self, fun q hq => by rw [List.mem_singleton.mp hq]; exact pLe_refl p⟩
  | y :: ps, p => by
    have e : minPr p (y :: ps) = minPr (if y.1 < p.1 ∨ (y.1 = p.1 ∧ y.2 < p.2) then y else p) ps := rfl
    rw [e]
    by_cases h : y.1 < p.1 ∨ (y.1 = p.1 ∧ y.2 < p.2)
    · rw [if_pos h]
      obtain ⟨h1, h2⟩ := minPr_spec ps y
      refine ⟨List.mem_cons_of_mem _ h1, fun q hq => ?_⟩
      rcases List.mem_cons.mp hq with rfl | hq
      · exact pLe_trans (h2 y List.mem_cons_self) (by unfold pLe; omega)
      · exact h2 q hq
    · rw [if_neg h]
      obtain ⟨h1, h2⟩ := minPr_spec ps p
      refine ⟨?_, fun q hq => ?_⟩
      · rcases List.mem_cons.mp h1 with h1 | h1
        · rw [h1]; exact List.mem_cons_self
        · exact List.mem_cons_of_mem _ (List.mem_cons_of_mem _ h1)
      · rcases List.mem_cons.mp hq with rfl | hq
        · exact h2 q List.mem_cons_self
        · rcases List.mem_cons.mp hq with rfl | hq
          · exact pLe_trans (h2 p List.mem_cons_self) (by unfold pLe; omega)
          · exact h2 q (List.mem_cons_of_mem _ hq)
theorem pP_inj {p q : Int × Int} (h : pP p = pP q) : p = q := by
  unfold pP at h
  injection h with h
  injection h with h1 h2
  injection h1 with h1
  injection h2 with h2 _
  injection h2 with h2
  exact Prod.ext h1 h2
theorem pP_alike (p q : Int × Int) : PySem.W.alike (pP p) (pP q) = true := rfl
section
variable {X : Cx}
def rMinP (K : PySem.W.Frag) : List V → Hp → VK → Prop := fun vs H Q => ∃ (l : Addr) (xs : List V) (ps : List (Int × Int)), vs = [.ref l] ∧ SqL K H l xs ∧ DpAll K H xs (ps.map pP) ∧ ps ≠ [] ∧ ∀ (i : Nat) (v : V) (m : Int × Int), xs[i]? = some v → ps[i]? = some m → (∀ q ∈ ps, pLe m q) → Q v H
theorem depth_pairs : ∀ ps : List (Int × Int), PyData.depthAll (ps.map pP) ≤ 1
  | [] => Nat.zero_le _
  | p :: ps => by
    show max (PyData.depth (pP p)) (PyData.depthAll (ps.map pP)) ≤ 1
    exact Nat.max_le.mpr ⟨Nat.le_refl 1, depth_pairs ps⟩
theorem cr_minP (hc : X.calm = true) (hu : X.A.units + 64 < cLine) : CallR X (.builtin "min") (rMinP X.K) := by
  intro pins s σ H vs us Q I r h
  obtain ⟨l, xs, ps, rfl, hs, hd, hne, q⟩ := h
  obtain ⟨its, rv, hl, _⟩ := I.list hs
  rw [Vals.ref1 r]
  obtain ⟨as, ra⟩ := Dp.readsAll I _ xs its hd rv
  cases ps with
  | nil => exact absurd rfl hne
  | cons p ps =>
    have ha : PySem.W.AlikeAll ((p :: ps).map pP) := ⟨fun x hx y hy => by
      obtain ⟨a, _, rfl⟩ := List.mem_map.mp hx
      obtain ⟨b, _, rfl⟩ := List.mem_map.mp hy
      exact pP_alike a b, fun x hx => by
      obtain ⟨a, _, rfl⟩ := List.mem_map.mp hx
      exact fun z => by cases z⟩
    have hdp := depth_pairs (p :: ps)
    refine PySem.W.min_list_data (vs := its.toArray) (x := pP p) (xs := ps.map pP) (as := as) (I.ok.hd hc) hl.isList (by rw [List.toList_toArray]; exact ra) ha (by rw [List.map_cons] at hdp; omega) fun i v h' tk bs hv rb hk => ?_
    rw [minD_pairs] at rb
    have hv2 : its[i]? = some v := by simpa using hv
    have hil : i < xs.length := by rw [rv.length]; exact (List.getElem?_eq_some_iff.mp hv2).1
    obtain ⟨v', hv3, rw1⟩ := rv.get (List.getElem?_eq_getElem hil)
    rw [hv2] at hv3
    cases hv3
    obtain ⟨m, bs', hm, rm⟩ : ∃ (m : Int × Int) (bs' : List Addr), (p :: ps)[i]? = some m ∧ Reads s.heap v (pP m) bs' := by
      obtain ⟨bs', r1, r2, _, _⟩ := PySem.W.readsAll_at ra i v hv2
      have hl2 : i < (p :: ps).length := by rw [List.length_map] at r2; exact r2
      refine ⟨(p :: ps)[i], bs', List.getElem?_eq_getElem hl2, ?_⟩
      rw [List.getD_eq_getElem?_getD, List.getElem?_map, List.getElem?_eq_getElem hl2] at r1
      exact r1
    have em : m = minPr p ps := pP_inj (PySem.W.alike_unique _ _ v _ _ (pP_alike _ _) (PySem.W.reads_keeps hk rm) rb)
    exact ⟨_, H, I.kept hk, rw1, q i _ m (List.getElem?_eq_getElem hil) hm (by rw [em]; exact (minPr_spec ps p).2)⟩
end
section
variable {X : Cx}
theorem pus_pairs : ∀ ps : List (Int × Int), pus (ps.map pD) = true ∧ toPys (ps.map pD) = ps.map pP
  | [] => ⟨rfl, rfl⟩
  | p :: ps => by
    obtain ⟨h1, h2⟩ := pus_pairs ps
    refine ⟨?_, ?_⟩
    · show (pu (pD p) && pus (ps.map pD)) = true
      rw [h1]; rfl
    · show toPy (pD p) :: toPys (ps.map pD) = pP p :: ps.map pP
      rw [h2]; rfl
theorem lstOf_rps {K : PySem.W.Frag} {al : List Addr} {F G H : Hp} {M : Sto} {x : V} {d : D} {ds : List D} (W : Wd K al F G H M) (r : Rp K F al x d) (e : lstOf d M = some ds) : ∃ l xs, x = .ref l ∧ SqL K H l xs ∧ Rps K F al xs ds := by
  cases r with
  | lst a b =>
    cases e
    exact ⟨_, _, rfl, SqL.of (W.sm _ _ a), b⟩
  | ref a =>
    unfold lstOf at e
    dsimp only at e
    split at e
    · next ds2 e2 =>
      cases e
      obtain ⟨xs, q, rs⟩ := W.cel _ _ _ e2 a
      exact ⟨_, xs, rfl, SqL.of q, rs⟩
    · cases e
  | _ => cases e
theorem rps_at {K : PySem.W.Frag} {F : Hp} {al : List Addr} : ∀ {xs : List V} {ds : List D}, Rps K F al xs ds → ∀ (i : Nat) (v : V) (d : D), xs[i]? = some v → ds[i]? = some d → Rp K F al v d
  | _, _, .nil, i, v, d, h, _ => by simp at h
  | _, _, .cons a r, 0, v, d, h1, h2 => by cases h1; cases h2; exact a
  | _, _, .cons a r, i + 1, v, d, h1, h2 => rps_at r i v d (by simpa using h1) (by simpa using h2)
def gMinP : G1 := fun x M Q => ∃ ps : List (Int × Int), lstOf x M = some (ps.map pD) ∧ ps ≠ [] ∧ ∀ m ∈ ps, (∀ q ∈ ps, pLe m q) → Q (pD m) M
theorem gMinP_mono : Mono1 gMinP := fun x M Q Q' w q => ⟨q.choose, q.choose_spec.1, q.choose_spec.2.1, fun m h1 h2 => w _ _ (q.choose_spec.2.2 m h1 h2)⟩
theorem o_minP (hc : X.calm = true) (hu : X.A.units + 64 < cLine) : ON X (.builtin "min") (g1 gMinP) := ON.of1 (cr_minP hc hu) gMinP_mono fun al F G H M x d Q W r q => by
  obtain ⟨ps, e, hne, k⟩ := q
  obtain ⟨l, xs, rfl, h1, rs⟩ := lstOf_rps W r e
  obtain ⟨p1, p2⟩ := pus_pairs ps
  refine ⟨l, xs, ps, rfl, h1, by rw [← p2]; exact dps_of W.sm rs p1, hne, fun i v m hv hm hle => ?_⟩
  exact kont.here (k m (List.mem_of_getElem? hm) hle) W (rps_at rs i v _ hv (by rw [List.getElem?_map, hm]; rfl))
end
end DL
set_option maxHeartbeats 1000000
namespace DL
open PySem PySem.Spec PyProof.Rows L2 MT
end DL
set_option maxHeartbeats 1000000
namespace DL
open PySem PySem.Spec PyProof.Rows L2 MT
structure OwnNe (K : PySem.W.Frag) (C : Addr) : Prop where
  ne : PySem.W.findIn K (.ref C) "__ne__" = some (some (.builtin "object.__ne__"))
  ob : PySem.W.subIn K (.ref C) (.type "object") = some true
end DL
set_option maxHeartbeats 1000000
namespace DL
open PySem PySem.Spec PyProof.Rows L2 MT
end DL
set_option maxHeartbeats 1000000
namespace DL
open PySem PySem.Spec PyProof.Rows L2 MT
end DL
set_option maxHeartbeats 2000000
namespace DL
open PySem PySem.Spec PyProof.Rows L2
open L2H (RoomH Hot1 PinOk HotC)
end DL
set_option maxHeartbeats 2000000
namespace DL
open PySem PySem.Spec PyProof.Rows L2
end DL
set_option maxHeartbeats 2000000
namespace DL
open PySem PySem.Spec PyProof.Rows L2
inductive HdC (X : Cx) : List ExceptHandler → List Cla → Prop
  | nil : HdC X [] []
  | cons {t : Expr} {n : Str} {i : Nat} {cs : List Value} {ts : Addr → Value → Option Addr → TS} {b₀ : Stmt} {suite : List Stmt} {pos' : Pos} {hds : List ExceptHandler} {l : List Cla} (T : Tst X t cs) (hi : X.N[i]? = some n) (hln : X.env.kindOf n = some .local)
      (hsu : ∀ (a : Addr) (oe : Obj) (cls : Value) (d : Option Addr) (pn : List (Addr × Obj)), L2.Zc cls d oe → (∃ vs, oe.data = .fields vs) → PSs (X.suite a ((a, oe) :: pn)) (b₀ :: suite) (ts a cls d)) (r : HdC X hds l) :
      HdC X (.ExceptHandler (some t) (some n) (b₀ :: suite) pos' :: hds) ((cs, i, ts) :: l)
end DL
set_option maxHeartbeats 2000000
namespace DL
open PySem PySem.Spec PyProof.Rows L2
theorem FldOk.ext {K : PySem.W.Frag} {F F' : Hp} {al al' : List Addr} {o : Option Addr} {fs : List (Str × D)} (h : FldOk K F al o fs) (e : Ext al F al' F') : FldOk K F' al' o fs := by
  rcases h with h | ⟨q, vs, rfl, h1, h2, h3⟩
  · exact .inl h
  · exact .inr ⟨q, vs, rfl, e.sm _ _ h1, h2, h3.ext e⟩
inductive DHdC (X : Cx) : List ExceptHandler → List Dcl → Prop
  | nil : DHdC X [] []
  | cons {t : Expr} {n : Str} {i : Nat} {cs : List Value} {fs : Addr → Value → Option Addr → DTS} {b₀ : Stmt} {suite : List Stmt} {pos' : Pos} {hds : List ExceptHandler} {l : List Dcl} (T : Tst X t cs) (hi : X.N[i]? = some n) (hln : X.env.kindOf n = some .local)
      (hsu : ∀ (a : Addr) (oe : Obj) (cls : Value) (d : Option Addr) (pn : List (Addr × Obj)), L2.Zc cls d oe → (∃ vs, oe.data = .fields vs) → DSs (X.suite a ((a, oe) :: pn)) (b₀ :: suite) (fs a cls d)) (r : DHdC X hds l) :
      DHdC X (.ExceptHandler (some t) (some n) (b₀ :: suite) pos' :: hds) ((cs, i, fs) :: l)
theorem DHdC.hd {X : Cx} {hds : List ExceptHandler} {l : List Dcl} (h : DHdC X hds l) : HdC X hds (l.map (liftC X.K)) := by
  induction h with
  | nil => exact .nil
  | cons T hi hln hsu r ih => exact .cons T hi hln (fun a oe cls d pn hz hd => PSs.of (hsu a oe cls d pn hz hd).ps fun E σ H h => LiftSN.of h) ih
theorem DHdC.mono {X : Cx} {hds : List ExceptHandler} {l : List Dcl} (h : DHdC X hds l) : ∀ c ∈ l, ∀ a cls d, MonoS (c.2.2 a cls d) := by
  induction h with
  | nil => exact fun c hc => nomatch hc
  | cons T hi hln hsu r ih =>
    intro c hc a cls d
    rcases List.mem_cons.mp hc with rfl | hc
    · exact (hsu a { cls := cls, dict := d, data := .fields #[.none, .none, .none] } cls d [] ⟨rfl, rfl⟩ ⟨_, rfl⟩).mono
    · exact ih c hc a cls d
end DL
set_option maxHeartbeats 1000000
namespace DL
open PySem PySem.Spec PyProof.Rows L2 MT
end DL
set_option maxHeartbeats 1000000
namespace PySem
namespace SeqAt
open Builtin
end SeqAt
end PySem
namespace DL
open PySem PySem.Spec PyProof.Rows L2 MT
end DL
set_option maxHeartbeats 1000000
namespace DL
open PySem PySem.Spec PyProof.Rows L2 MT
end DL
namespace DL
open PySem PySem.Spec PyProof.Rows L2 LamX NdefX
structure LF where
  params : Arguments
  body : Expr
  scope : Scope
  qual : Str
  cl : List (Str × Addr)
  c : Addr
abbrev LF.nf (L : LF) : NF := ⟨"<lambda>", L.qual, L.params, [], L.scope, L.cl, L.c⟩
/-- the captured cells, in the base -/
structure CellsB (base : Heap) (cl : List (Str × Addr)) (fr : List Str) (vs : List V) : Prop where
  len : vs.length = fr.length
  all : ∀ y c, cl.lookup y = some c → ∃ v, base.IsCell c v
  inj : ∀ x y c, cl.lookup x = some c → cl.lookup y = some c → x = y
  has : ∀ (i : Nat) (y : Str), fr[i]? = some y → ∃ c, cl.lookup y = some c ∧ ∀ v, vs[i]? = some v → ∃ u, L2.RelV v u ∧ base.IsCell c (some u)
theorem CellsB.at_ {base : Heap} {cl : List (Str × Addr)} {fr : List Str} {vs : List V} (C : CellsB base cl fr vs) {h : Heap} {H : Hp} (bs : ∀ b o, base.get? b = some o → h.get? b = some o ∧ H b = none) : CellsAt cl fr (vs.map some) h H := by
  have up : ∀ {c v}, base.IsCell c v → h.IsCell c v ∧ H c = none := fun {c v} ⟨o, e, d⟩ => ⟨⟨o, (bs _ _ e).1, d⟩, (bs _ _ e).2⟩
  refine ⟨by rw [List.length_map]; exact C.len, fun y c e => ?_, C.inj, fun i y e => ?_⟩
  · obtain ⟨v, z⟩ := C.all y c e
    exact ⟨(up z).2, v, (up z).1⟩
  · obtain ⟨c, hc, hv⟩ := C.has i y e
    refine ⟨c, hc, fun v ev => ?_⟩
    rw [List.getElem?_map] at ev
    cases q : vs[i]? with
    | none => rw [q] at ev; cases ev
    | some z =>
      rw [q] at ev
      cases ev
      obtain ⟨u, r, y⟩ := hv _ q
      exact ⟨u, r, (up y).1⟩
end DL
namespace DL
open PySem PySem.Spec PyProof.Rows L2 LamX NdefX
/-- what the def that makes the lambda must be: its code object, its table, among the marks -/
structure LamAt (K : PySem.W.Frag) (mg : Str → Option Value) (code : Value) (qual : Str) : Prop where
  ex : ∃ c P : Addr, code = .ref c ∧ (∀ base : Heap, K.In base → TabB base mg c P) ∧ (P, qual ++ "<lambda>") ∈ Tk K ∧ ∀ p ∈ Tk K, p.1 = P → p.2 = qual ++ "<lambda>"
theorem Wd.code {K : PySem.W.Frag} {al : List Addr} {F G H : Hp} {M : Sto} {P d : Addr} {q : Str} {ps : Array Value} {pos : Pos} (W : Wd K al F G H M) (hp : (P, q) ∈ Tk K) (hu : ∀ p ∈ Tk K, p.1 = P → p.2 = q) (hP : H P = some (.tbl ps)) (hd : H d = none) :
    Wd K al (upd F d (CodeO d q)) G (upd (upd H P (.tbl (ps ++ #[rawInt pos.line, rawInt pos.col, .ref d]))) d (CodeO d q)) M ∧ Ext al F al (upd F d (CodeO d q)) := by
  have t := W.tb _ hp
  have nPd : P ≠ d := ne_of_none hP hd
  have eF : Ext al F al (upd F d (CodeO d q)) := ⟨⟨[], by simp⟩, Sm.new (W.sm.free hd)⟩
  have off : ∀ b, b ≠ P → b ≠ d → upd (upd H P (.tbl (ps ++ #[rawInt pos.line, rawInt pos.col, .ref d]))) d (CodeO d q) b = H b := fun b z1 z2 => by rw [upd_ne z2, upd_ne z1]
  have notP : ∀ b, b ∈ al → b ≠ P := fun b hb z => t.na (z ▸ hb)
  refine ⟨⟨fun b o e => ?_, fun b o e => ?_, fun b o e => ⟨?_, (W.fg b o e).2⟩, W.len, W.nd, fun b hb => ?_, fun n c b e1 e2 => ?_, fun p hp2 => ?_⟩, eF⟩
  · by_cases hb : b = d
    · subst hb; rw [upd_same] at e ⊢; exact e
    · rw [upd_ne hb] at e
      rw [off b (fun z => by rw [z, t.nf] at e; cases e) hb]
      exact W.sm b o e
  · rw [off b (fun z => by rw [z, t.ng] at e; cases e) (ne_of_none (W.sg b o e) hd)]
    exact W.sg b o e
  · rw [upd_ne (ne_of_none (W.sg b o e) hd)]
    exact (W.fg b o e).1
  · rw [upd_ne (show b ≠ d from fun z => W.notin hd (z ▸ hb))]
    exact W.out b hb
  · have hb := List.mem_of_getElem? e2
    exact (W.cel n c b e1 e2).ext eF (off b (notP b hb) fun z => W.notin hd (z ▸ hb))
  · have t2 := W.tb p hp2
    obtain ⟨qs, y1, y2, y3⟩ := t2.ok
    have npd : p.1 ≠ d := ne_of_none y1 hd
    refine ⟨?_, (upd_ne npd).trans t2.nf, t2.ng, t2.na⟩
    by_cases hb : p.1 = P
    · have eq : qs = ps := by rw [hb, hP] at y1; cases y1; rfl
      subst eq
      have eL : (qs ++ #[rawInt pos.line, rawInt pos.col, .ref d]).toList = qs.toList ++ [rawInt pos.line, rawInt pos.col, .ref d] := by simp
      refine ⟨_, by rw [hb, upd_ne nPd, upd_same], by rw [eL]; exact PySem.TriplesOk_snoc _ _ _ _ y2, fun pos2 cv z => ?_⟩
      rw [eL] at z
      rcases among_app _ y2 z with z | z
      · obtain ⟨c0, w1, w2⟩ := y3 pos2 cv z
        exact ⟨c0, w1, eF.sm _ _ w2⟩
      · refine ⟨d, z, ?_⟩
        rw [hu p hp2 hb]
        exact upd_same
    · exact ⟨qs, by rw [off p.1 hb npd]; exact y1, y2, fun pos2 cv z => let ⟨c0, w1, w2⟩ := y3 pos2 cv z; ⟨c0, w1, eF.sm _ _ w2⟩⟩
/-- how the lambda's names lie to those of the def that makes it -/
structure LamS (X : Cx) (scope : Scope) (fr : List Str) (js : List Nat) : Prop where
  free : ∀ y ∈ scope.names, y.2 = .free → X.env.scope.names.lookup y.1 = some .cell ∨ X.env.scope.names.lookup y.1 = some .free
  frm : ∀ y ∈ fr, (y, NameKind.free) ∈ scope.names
  js : js.map (fun j => X.N[j]?) = fr.map some
  nofr : ∀ {pins : List (Addr × Obj)} {σ : L2.St} {H : Hp} {s : Shared}, Inv X pins σ H s → ∀ (y : Str) (c : Addr), (y, NameKind.free) ∈ scope.names → X.env.cells.lookup y = some c → c ∉ frs X.stack
/-- of a block: the cells of the def around it are no frames -/
def NoFr (X : Cx) (scope : Scope) (cl : List (Str × Addr)) : Prop := ∀ (y : Str) (c : Addr), scope.names.lookup y = some .free → cl.lookup y = some c → c ∉ frs X.stack
theorem LamS.blk {X : Cx} {s : Shared} {H : Hp} {C : Addr} {cl : List (Str × Addr)} {fp : List Addr} {bsc scope sc : Scope} {fr N : List Str} {js : List Nat} (hcl : NoFr X bsc cl) (hN : X.N = N) (hsc : X.env.scope = sc) (h : ndefB (relS bsc sc) scope fr = true)
    (hb : (scope.names.all fun y => !decide (y.2 = .free) || decide (bsc.names.lookup y.1 = some .free)) = true) (hj : js.map (fun j => N[j]?) = fr.map some) : LamS (X.blk s H bsc (compEnvC bsc cl C X.env) fp) scope fr js := by
  subst hN
  subst hsc
  refine ⟨ndef_free (sc := relS bsc X.env.scope) h, ndef_fr h, hj, fun {pins σ H s} I y c hy e => hcl y c ?_ e⟩
  have z := List.all_eq_true.mp hb _ hy
  rw [Bool.or_eq_true, Bool.not_eq_true', decide_eq_false_iff_not, decide_eq_true_iff] at z
  exact z.resolve_left fun n => n rfl
section
variable {X : Cx} {pins : List (Addr × Obj)} {σ : L2.St} {H : Hp} {s : Shared} {scope : Scope} {fr : List Str} {js : List Nat}
theorem LamS.has (L : LamS X scope fr js) (ok : X.Ok) : ∀ y ∈ scope.names, y.2 = .free → ∃ c, X.env.cells.lookup y.1 = some c := fun y hy e => (L.free y hy e).elim (fun z => ok.has _ (.inl z)) fun z => ok.has _ (.inr z)
end
structure LamD (K : PySem.W.Frag) (mg : Str → Option Value) (x q : Str) : Prop where
  ex : ∀ f : Addr, mg x = some (.ref f) → ∃ c P P' q', tabAt K f = some (c, P', q') ∧ P' = P ∧ (∀ base : Heap, K.In base → TabB base mg c P) ∧ (P, q) ∈ Tk K ∧ ∀ p ∈ Tk K, p.1 = P → p.2 = q
theorem LamD.at_ {K : PySem.W.Frag} {mg : Str → Option Value} {x x2 q qual : Str} {st : Stmt} {f : Addr} {fd : FuncData} {cdv : Value} (L : LamD K mg x q) (hm : mg x = some (.ref f)) (F : Fun K x2 qual st f fd) (hc : fd.code = cdv) {qe : Str} (hq : qe ++ "<lambda>" = q) : LamAt K mg cdv qe := by
  obtain ⟨c, P, P', q', h1, rfl, h3, h4, h5⟩ := L.ex f hm
  obtain ⟨oc, od, kV, doc, pm, an, cd2, ct, osl, rfl, lk, _⟩ := F.ex
  subst hq
  refine ⟨c, P', ?_, h3, h4, h5⟩
  rw [← hc]
  unfold tabAt at h1
  rw [lk] at h1
  dsimp only at h1 ⊢
  split at h1
  · next c2 e2 =>
    split at h1
    · split at h1
      · cases h1
        rfl
      · cases h1
    · cases h1
  · cases h1
end DL
namespace DL
open PySem PySem.Spec PyProof.Rows L2 LamX NdefX
end DL
set_option maxHeartbeats 4000000
namespace DL
open PySem PySem.Spec PyProof.Rows L2 MT
end DL
set_option maxHeartbeats 1000000
namespace DL
open PySem PySem.Spec PyProof.Rows L2
end DL
set_option maxHeartbeats 1000000
namespace DL
open PySem PySem.Spec PyProof.Rows L2
theorem DfMKL.at {K : PySem.W.Frag} {Cs : List Addr} {m q : Str} {st : Stmt} {kn : Str} {dv : V} {C : Addr} (d : DfMKL K Cs m q st kn dv) (h : C ∈ Cs) : DfMK K C m q st kn dv := by
  obtain ⟨f, fd, F, M⟩ := d.ex
  exact ⟨f, fd, F, M C h⟩
theorem ClMeKL.at {P : Program} {w : World} {K : PySem.W.Frag} {mg : Str → Option Value} {base : Heap} {Cs : List Addr} {m : Str} {k : Nat} {ps : List Str} {n : Nat} {ks : List Str} {dd : List D} {ds : DSp} {C : Addr} (c : ClMeKL P w K mg base Cs m k ps n ks dd ds) (h : C ∈ Cs) : ClMeK P w K mg base C m k ps n ks dd ds := by
  obtain ⟨f, fd, a, G, x, y⟩ := c.ex
  exact ⟨⟨f, fd, (a C h).1, (a C h).2, G, x, y⟩, c.mono⟩
end DL
namespace MT
open DL (minI maxI minI_le minI_mem le_maxI maxI_mem minI_uniq maxI_uniq)
theorem above_self (t : Tr) (m : Nat) : m ∈ above t m := by
  by_cases h : m = 0
  · subst h; rw [above_0]; exact List.mem_singleton.mpr rfl
  · rw [above_s t h]; exact List.mem_cons_self
theorem above_up {t : Tr} {c m : Nat} (h : m ≠ 0) (hc : c ∈ above t (par t m)) : c ∈ above t m := by
  rw [above_s t h]; exact List.mem_cons_of_mem _ hc
theorem above_cases {t : Tr} {c m : Nat} (hc : c ∈ above t m) : c = m ∨ (m ≠ 0 ∧ c < m ∧ c ∈ above t (par t m)) := by
  by_cases h : m = 0
  · subst h; rw [above_0] at hc; exact .inl (List.mem_singleton.mp hc)
  · rw [above_s t h] at hc
    rcases List.mem_cons.mp hc with e | hc
    · exact .inl e
    · have h1 := above_le t _ c hc
      have h2 := par_lt t (show 0 < m by omega)
      exact .inr ⟨h, by omega, hc⟩
theorem above_trans {t : Tr} {d c : Nat} (hd : d ∈ above t c) : ∀ {m : Nat}, c ∈ above t m → d ∈ above t m := by
  intro m
  induction m using Nat.strongRecOn with
  | _ m ih =>
    intro hc
    rcases above_cases hc with rfl | ⟨h, _, hc⟩
    · exact hd
    · exact above_up h (ih _ (par_lt t (by omega)) hc)
theorem above_chain {t : Tr} {c d : Nat} : ∀ {m : Nat}, c ∈ above t m → d ∈ above t m → c ∈ above t d ∨ d ∈ above t c := by
  intro m
  induction m using Nat.strongRecOn with
  | _ m ih =>
    intro hc hd
    rcases above_cases hc with rfl | ⟨h, _, hc1⟩
    · exact .inr hd
    rcases above_cases hd with rfl | ⟨_, _, hd1⟩
    · exact .inl hc
    exact ih _ (par_lt t (by omega)) hc1 hd1
/-- the number of rows between mark 0 and a mark -/
def dep (t : Tr) (m : Nat) : Nat := (above t m).length - 1
theorem dep_0 (t : Tr) : dep t 0 = 0 := by unfold dep; rw [above_0]; rfl
theorem dep_s (t : Tr) {m : Nat} (h : m ≠ 0) : dep t m = dep t (par t m) + 1 := by
  unfold dep
  have := List.length_pos_iff.mpr (above_ne t (par t m))
  rw [above_s t h, List.length_cons]
  omega
theorem above_dep {t : Tr} {c : Nat} : ∀ {m : Nat}, c ∈ above t m → c = m ∨ dep t c < dep t m := by
  intro m
  induction m using Nat.strongRecOn with
  | _ m ih =>
    intro hc
    rcases above_cases hc with rfl | ⟨h, _, hc1⟩
    · exact .inl rfl
    · have h1 := dep_s t h
      rcases ih _ (par_lt t (by omega)) hc1 with e | h2
      · rw [← e] at h1; exact .inr (by omega)
      · exact .inr (by omega)
theorem dist_above {t : Tr} {c d : Nat} (hd : d ∈ above t c) : ∀ {m : Nat}, c ∈ above t m → dist t m d = dist t m c + dist t c d := by
  intro m
  induction m using Nat.strongRecOn with
  | _ m ih =>
    intro hc
    rcases above_cases hc with rfl | ⟨h, hlt, hc1⟩
    · rw [dist_self]; omega
    · have h1 := above_le t _ d hd
      have h2 := ih _ (par_lt t (by omega)) hc1
      rw [dist_gt t (show d < m by omega), dist_gt t hlt, h2]
      omega
/-- where two ways up meet -/
theorem meet (t : Tr) (i j : Nat) : ∃ c, c ∈ above t i ∧ c ∈ above t j ∧ dist t i j = dist t i c + dist t c j := by
  rcases Nat.lt_trichotomy i j with h | h | h
  · obtain ⟨c, h1, h2, h3⟩ := meet t i (par t j)
    have hc := above_le t _ c h2
    have hp := par_lt t (show 0 < j by omega)
    refine ⟨c, h1, above_up (by omega) h2, ?_⟩
    rw [dist_lt t h, h3, dist_lt t (show c < j by omega)]
    omega
  · subst h
    exact ⟨i, above_self t i, above_self t i, by rw [dist_self]; omega⟩
  · obtain ⟨c, h1, h2, h3⟩ := meet t (par t i) j
    have hc := above_le t _ c h1
    have hp := par_lt t (show 0 < i by omega)
    refine ⟨c, above_up (by omega) h1, h2, ?_⟩
    rw [dist_gt t h, h3, dist_gt t (show c < i by omega)]
    omega
termination_by i + j
decreasing_by
  · have := par_lt t (show 0 < j by omega); omega
  · have := par_lt t (show 0 < i by omega); omega
def Star (t : Tr) (A : Nat → Prop) (i : Nat) : Prop := (∀ x, A x → x ≤ t.length) ∧ ∀ x z, A x → z ≤ t.length → dist t x i = dist t x z + dist t z i → A z
theorem top_above {t : Tr} {A : Nat → Prop} {i a : Nat} (hA : Star t A i) (ha : A a) (hm : ∀ x, A x → dep t a ≤ dep t x) : a ∈ above t i := by
  obtain ⟨c, h1, h2, h3⟩ := meet t a i
  rcases above_dep h1 with rfl | h
  · exact h2
  · have := hm c (hA.2 a c ha (Nat.le_trans (above_le t _ c h1) (hA.1 a ha)) h3)
    omega
theorem top_all {t : Tr} {A : Nat → Prop} {i a x : Nat} (hA : Star t A i) (ha : A a) (hm : ∀ x, A x → dep t a ≤ dep t x) (hx : A x) : a ∈ above t x := by
  have h0 := top_above hA ha hm
  obtain ⟨c, h1, h2, h3⟩ := meet t x i
  have hc := hA.2 x c hx (Nat.le_trans (above_le t _ c h1) (hA.1 x hx)) h3
  rcases above_chain h2 h0 with h | h
  · rcases above_dep h with rfl | h4
    · exact h1
    · have := hm c hc
      omega
  · exact above_trans h h1
/-- two parts with a mark in common: the deeper top lies in both -/
theorem top_in {t : Tr} {A B : Nat → Prop} {i j a b x : Nat} (hA : Star t A i) (hB : Star t B j) (ha : A a) (hb : B b) (ma : ∀ x, A x → dep t a ≤ dep t x) (mb : ∀ x, B x → dep t b ≤ dep t x) (hd : dep t b ≤ dep t a) (xa : A x) (xb : B x) : B a := by
  have h1 := top_all hA ha ma xa
  have h2 := top_all hB hb mb xb
  have hba : b ∈ above t a := by
    rcases above_chain h1 h2 with h | h
    · rcases above_dep h with rfl | h4
      · exact above_self t _
      · omega
    · exact h
  obtain ⟨c, c1, c2, c3⟩ := meet t x j
  have hax : a ≤ t.length := hA.1 a ha
  have hc := hB.2 x c xb (Nat.le_trans (above_le t _ c c1) (hB.1 x xb)) c3
  rcases above_chain h1 c1 with h | h
  · have e1 := dist_above h c1
    have e2 := dist_above hba h
    have hbj := top_above hB hb mb
    have e3 := dist_above h c2
    refine hB.2 b a hb hax ?_
    have e4 := dist_above (above_trans hba h) c2
    rw [dist_comm t b j, dist_comm t b a, dist_comm t a j, e4, e3, e2]
    omega
  · have e1 := dist_above h h1
    refine hB.2 x a xb hax ?_
    have e2 := dist_tri t x a j
    have e3 := dist_tri t a c j
    omega
structure Swp where
  top : Nat
  mark : Nat
/-- one step: a mark that is not served yet -/
def swStep (part : Nat → Nat → Bool) (st : List Swp) (q : Swp) : List Swp := if st.any (fun p => part q.mark p.top) = true then st else st ++ [q]
structure SwI (t : Tr) (part : Nat → Nat → Bool) (done st : List Swp) : Prop where
  sub : ∀ q ∈ st, q ∈ done
  served : ∀ q ∈ done, ∃ p ∈ st, part q.mark p.top = true
  apart : st.Pairwise fun p q => ∀ x, ¬ (part p.mark x = true ∧ part q.mark x = true)
theorem swI_step {t : Tr} {part : Nat → Nat → Bool} {done st : List Swp} {q : Swp} (I : SwI t part done st)
    (hs : ∀ p ∈ done ++ [q], Star t (fun x => part p.mark x = true) p.mark ∧ part p.mark p.top = true ∧ ∀ x, part p.mark x = true → dep t p.top ≤ dep t x)
    (hd : ∀ p ∈ done, dep t q.top ≤ dep t p.top) : SwI t part (done ++ [q]) (swStep part st q) := by
  unfold swStep
  obtain ⟨q1, q2, q3⟩ := hs q (by simp)
  split
  · next h =>
    refine ⟨fun p hp => List.mem_append_left _ (I.sub p hp), fun p hp => ?_, I.apart⟩
    rcases List.mem_append.mp hp with hp | hp
    · exact I.served p hp
    · rw [List.mem_singleton.mp hp]
      obtain ⟨y, hy, e⟩ := List.any_eq_true.mp h
      exact ⟨y, hy, e⟩
  · next h =>
    refine ⟨fun p hp => ?_, fun p hp => ?_, ?_⟩
    · rcases List.mem_append.mp hp with hp | hp
      · exact List.mem_append_left _ (I.sub p hp)
      · exact List.mem_append_right _ hp
    · rcases List.mem_append.mp hp with hp | hp
      · obtain ⟨y, hy, e⟩ := I.served p hp
        exact ⟨y, List.mem_append_left _ hy, e⟩
      · rw [List.mem_singleton.mp hp]
        exact ⟨q, List.mem_append_right _ (List.mem_singleton.mpr rfl), q2⟩
    · refine List.pairwise_append.mpr ⟨I.apart, List.pairwise_singleton _ _, fun p hp r hr x hx => ?_⟩
      rw [List.mem_singleton.mp hr] at hx
      obtain ⟨p1, p2, p3⟩ := hs p (List.mem_append_left _ (I.sub p hp))
      have := top_in p1 q1 p2 q2 p3 q3 (hd p (I.sub p hp)) hx.1 hx.2
      exact h (List.any_eq_true.mpr ⟨p, hp, this⟩)
theorem sweep_inv {t : Tr} {part : Nat → Nat → Bool} : ∀ (todo done st : List Swp), SwI t part done st →
    (∀ p ∈ done ++ todo, Star t (fun x => part p.mark x = true) p.mark ∧ part p.mark p.top = true ∧ ∀ x, part p.mark x = true → dep t p.top ≤ dep t x) →
    (done ++ todo).Pairwise (fun p q => dep t q.top ≤ dep t p.top) → SwI t part (done ++ todo) (todo.foldl (swStep part) st)
  | [], done, st, I, _, _ => by rw [List.append_nil]; exact I
  | q :: todo, done, st, I, hs, hp => by
    have e : done ++ q :: todo = (done ++ [q]) ++ todo := by simp
    rw [e] at hs hp ⊢
    refine sweep_inv todo (done ++ [q]) (swStep part st q) (swI_step I (fun p h => hs p (List.mem_append_left _ h)) fun p h => ?_) hs hp
    exact (List.pairwise_append.mp (List.pairwise_append.mp hp).1).2.2 p h q (List.mem_singleton.mpr rfl)
def inPart (t : Tr) (ws : Wn) (i x : Nat) : Bool := match (ws.getD i (0, none)).2 with
  | none => true
  | some l => decide (earl t ws x + dist t x i ≤ l)
/-- a part, within the tree -/
def partB (t : Tr) (ws : Wn) (i x : Nat) : Bool := decide (x ≤ t.length) && inPart t ws i x
theorem partB_iff {t : Tr} {ws : Wn} {i x : Nat} : partB t ws i x = true ↔ x ≤ t.length ∧ inPart t ws i x = true := by
  unfold partB
  rw [Bool.and_eq_true, decide_eq_true_iff]
theorem part_star {t : Tr} {ws : Wn} (hl : 0 < ws.length) (i : Nat) : Star t (fun x => partB t ws i x = true) i := by
  refine ⟨fun x hx => (partB_iff.mp hx).1, fun x z hx hzl hz => ?_⟩
  replace hx := (partB_iff.mp hx).2
  refine partB_iff.mpr ⟨hzl, ?_⟩
  unfold inPart at hx ⊢
  split at hx
  · rfl
  · rename_i l e
    show decide (earl t ws z + dist t z i ≤ l) = true
    have h1 := of_decide_eq_true hx
    have h2 := earl_lip (t := t) hl z x
    rw [dist_comm t z x] at h2
    exact decide_eq_true (by omega)
theorem part_self {t : Tr} {ws : Wn} (hn : pairOf t ws = none) {i : Nat} (hi : i < ws.length) : inPart t ws i i = true := by
  unfold inPart
  have e : ws.getD i (0, none) = ws[i] := by rw [List.getD_eq_getElem?_getD, List.getElem?_eq_getElem hi]; rfl
  rw [e]
  split
  · rfl
  · rename_i l h
    rw [dist_self]
    exact decide_eq_true (by have := earl_last hn (List.getElem?_eq_getElem hi) h; omega)
end MT
set_option maxHeartbeats 1000000
namespace DL
open PySem PySem.Spec PyProof.Rows L2 MT
/-- the order of sorted() -/
def leD (a b : D) : Bool := PySem.W.dataLe false toPy a b
theorem each_zip {h : Heap} : ∀ {xs : List V} {us : List Value} {ps : List PyData} {as : List Addr}, Vals xs us → ReadsAll h us ps as → PySem.W.EachIs (fun u (b : V × PyData) => RelV b.1 u) us (xs.zip ps) ∧ PySem.W.EachIs (fun u (b : V × PyData) => ∃ as, Reads h u b.2 as) us (xs.zip ps)
  | _, _, _, _, .nil, r => by
    cases r
    exact ⟨.nil, .nil⟩
  | _, _, _, _, .cons a v, r => by
    cases r with
    | cons h1 h2 =>
      obtain ⟨q1, q2⟩ := each_zip v h2
      exact ⟨.cons a q1, .cons ⟨_, h1⟩ q2⟩
theorem vals_each : ∀ {us : List Value} {zs : List (V × PyData)}, PySem.W.EachIs (fun u (b : V × PyData) => RelV b.1 u) us zs → Vals (zs.map Prod.fst) us
  | _, _, .nil => .nil
  | _, _, .cons a r => .cons a (vals_each r)
section
variable {X : Cx}
def rSortD (K : PySem.W.Frag) : List V → Hp → VK → Prop := fun vs H Q => ∃ (l : Addr) (xs : List V) (ps : List PyData), vs = [.ref l] ∧ SqL K H l xs ∧ DpAll K H xs ps ∧ xs.length = ps.length ∧ PySem.W.AllAlike ps ∧ PySem.W.Sortable ps ∧ (∀ d ∈ ps, d.depth ≤ 20) ∧ xs.length ≤ 1000 ∧
  ∀ p, H p = none → Q (.ref p) (upd H p (.lst (((xs.zip ps).mergeSort (PySem.W.dataLe false Prod.snd)).map Prod.fst)))
theorem cr_sortD (hu : X.A.units + 64 < cLine) : CallR X (.builtin "sorted") (rSortD X.K) := by
  intro pins s σ H vs us Q I r h
  obtain ⟨l, xs, ps, rfl, hs, hd, hlen, hal, hk, hdp, hL, q⟩ := h
  obtain ⟨its, rv, hl, _⟩ := I.list hs
  rw [Vals.ref1 r]
  obtain ⟨as, ra⟩ := Dp.readsAll I _ xs its hd rv
  obtain ⟨e1, e2⟩ := each_zip rv ra
  have em : (xs.zip ps).map Prod.snd = ps := List.map_snd_zip (by omega)
  have ez : (xs.zip ps).length = xs.length := by rw [List.length_zip]; omega
  have z1 : xs.length ≤ sizeLine := by rw [sizeLine_eq]; omega
  refine PySem.W.sorted_data (vs := its) (bs := xs.zip ps) (enc := Prod.snd) (R := fun u b => RelV b.1 u) hl.isList e1 e2 (by rw [em]; exact hal) (by rw [em]; exact hk) (by rw [ez]; exact z1)
    (fun b hb => by have := hdp b.2 (by rw [← em]; exact List.mem_map.mpr ⟨b, hb, rfl⟩); omega) fun out ho hr => ?_
  obtain ⟨ep, he'⟩ := PyProof.Rows.sortedAll_at s.heap its (List.toArray out)
  have hl2 : (((xs.zip ps).mergeSort (PySem.W.dataLe false Prod.snd)).map Prod.fst).length ≤ sizeLine := by rw [List.length_map, List.length_mergeSort, ez]; exact z1
  exact ⟨.ref _, upd H (s.heap.objs.size + 1) (.lst (((xs.zip ps).mergeSort (PySem.W.dataLe false Prod.snd)).map Prod.fst)), I.laid (t' := s.toks) (fun _ _ => PyProof.Rows.sortedAll_old) (Nat.le_succ _) ⟨hl2, out, ep, vals_each hr, he'⟩, rfl, q _ (I.hok.fresh (Nat.le_succ _))⟩
end
theorem rps_len {K : PySem.W.Frag} {F : Hp} {al : List Addr} : ∀ {xs : List V} {ds : List D}, Rps K F al xs ds → xs.length = ds.length
  | _, _, .nil => rfl
  | _, _, .cons _ r => by rw [List.length_cons, List.length_cons, rps_len r]
theorem rps_zip {K : PySem.W.Frag} {F : Hp} {al : List Addr} : ∀ {xs : List V} {ds : List D}, Rps K F al xs ds → ∀ p ∈ xs.zip ds, Rp K F al p.1 p.2
  | _, _, .nil, _, h => by cases h
  | _, _, .cons a r, p, h => by
    rcases List.mem_cons.mp h with rfl | h
    · exact a
    · exact rps_zip r p h
theorem rps_unzip {K : PySem.W.Frag} {F : Hp} {al : List Addr} : ∀ {zs : List (V × D)}, (∀ p ∈ zs, Rp K F al p.1 p.2) → Rps K F al (zs.map Prod.fst) (zs.map Prod.snd)
  | [], _ => .nil
  | z :: zs, h => .cons (h z List.mem_cons_self) (rps_unzip fun p hp => h p (List.mem_cons_of_mem _ hp))
theorem toPys_map : ∀ ds : List D, toPys ds = ds.map toPy
  | [] => rfl
  | d :: ds => by rw [List.map_cons, ← toPys_map ds]; rfl
def gSortD : G1 := fun x M Q => ∃ ds, lstOf x M = some ds ∧ pus ds = true ∧ PySem.W.AllAlike (ds.map toPy) ∧ PySem.W.Sortable (ds.map toPy) ∧ (∀ d ∈ ds, (toPy d).depth ≤ 20) ∧ ds.length ≤ 1000 ∧ Q (.lst (ds.mergeSort leD)) M
theorem gSortD_mono : Mono1 gSortD := fun x M Q Q' w ⟨ds, a, b, c, d, e, f, q⟩ => ⟨ds, a, b, c, d, e, f, w _ _ q⟩
theorem o_sortD {X : Cx} (hu : X.A.units + 64 < cLine) : ON X (.builtin "sorted") (g1 gSortD) := ON.of1 (cr_sortD hu) gSortD_mono fun al F G H M x d Q W r q => by
  obtain ⟨ds, e, hp, hal, hk, hdp, hL, k⟩ := q
  obtain ⟨l, xs, rfl, h1, rs⟩ := lstOf_rps W r e
  have hxl := rps_len rs
  refine ⟨l, xs, ds.map toPy, rfl, h1, by rw [← toPys_map]; exact dps_of W.sm rs hp, by rw [List.length_map]; exact hxl, hal, hk, fun d hd => ?_, by omega, fun p hn => ?_⟩
  · obtain ⟨y, hy, rfl⟩ := List.mem_map.mp hd
    exact hdp y hy
  · have ez : xs.zip (ds.map toPy) = (xs.zip ds).map (fun q => (q.1, toPy q.2)) := by
      rw [List.zip_map_right]
      rfl
    have e1 : (xs.zip (ds.map toPy)).mergeSort (PySem.W.dataLe false Prod.snd) = ((xs.zip ds).mergeSort (fun a b => leD a.2 b.2)).map (fun q => (q.1, toPy q.2)) := by
      rw [ez]
      exact (List.map_mergeSort (r := fun a b : V × D => leD a.2 b.2) (s := PySem.W.dataLe false Prod.snd) (f := fun q : V × D => (q.1, toPy q.2)) (l := xs.zip ds) (fun a _ b _ => rfl)).symm
    have e2 : ds.mergeSort leD = ((xs.zip ds).mergeSort (fun a b => leD a.2 b.2)).map Prod.snd := by
      have e3 : (xs.zip ds).map Prod.snd = ds := List.map_snd_zip (by omega)
      conv => lhs; rw [← e3]
      exact (List.map_mergeSort (r := fun a b : V × D => leD a.2 b.2) (s := leD) (f := Prod.snd) (l := xs.zip ds) (fun a _ b _ => rfl)).symm
    rw [e1, List.map_map]
    rw [e2] at k
    exact kont.lst k W (rps_unzip fun q hq => rps_zip rs q (List.mem_mergeSort.mp hq)) hn
end DL
set_option maxHeartbeats 1000000
namespace DL
open PySem PySem.Spec PyProof.Rows L2 MT
end DL
set_option maxHeartbeats 1000000
namespace DL
open PySem PySem.Spec PyProof.Rows L2 MT
end DL
set_option maxHeartbeats 1000000
namespace DL
open PySem PySem.Spec PyProof.Rows L2 MT
end DL
set_option maxHeartbeats 1000000
namespace DL
open PySem PySem.Spec PyProof.Rows L2 MT
end DL
set_option maxHeartbeats 1000000
namespace HotY
open PySem PySem.Spec PyProof.Rows L2 HotX
end HotY
namespace L2
open PySem PySem.Spec PyProof.Rows HotX HotY L2H
section
variable {X : Cx} {pos : Pos}
/-- a walk whose end is not reached -/
structure TurnH (P : Program) (w : World) (K : PySem.W.Frag) (tg : Expr) (J : It) (fp : List Addr) (it : Addr) (tn : Nat → Heap → Prop) : Prop where
  obj : ∀ i h, tn i h → ∀ b ∈ fp, ∃ o, h.get? b = some o ∧ ∀ v, o.data ≠ .cell v
  keep : ∀ i h h', tn i h → (∀ b ∈ fp, ∀ o, h.get? b = some o → h'.get? b = some o) → tn i h'
  item : ∀ (Y : Cx), Y.prog = P → Y.w = w → Y.K = K → ∀ (i : Nat) (ps : List (Addr × Obj)) (s : Shared) (σ : St) (H : Hp) (E : Value → Shared → Prop), Inv Y ps σ H s → (∀ b ∈ fp, FpOk Y ps H b) → tn i s.heap → J.go i H →
    wpAny (model P w) Y.A (pyNext (.ref it)) (fun r s1 => ∃ u, r = some u ∧ wpAny (model P w) Y.A (letOwnedTupleGo tg (.ref it) u) (fun _ s2 => ∃ x H', Inv Y ps σ H' s2 ∧ RelV x u ∧ J.yld i H x H' ∧ tn (i + 1) s2.heap ∧ ∀ b ∈ fp, H' b = none) E s1) E s
def PIEH (X : Cx) (ps : List (Addr × Obj)) (σ : St) (tg : Expr) (R : It → Hp → Prop) (itv : Value) (s2 : Shared) : Prop :=
  ∃ (it : Addr) (fp : List Addr) (tn : Nat → Heap → Prop) (J : It) (H2 : Hp), itv = .ref it ∧ Inv X ps σ H2 s2 ∧ TurnH X.prog X.w X.K tg J fp it tn ∧ tn 0 s2.heap ∧ (∀ b ∈ fp, FpOk X ps H2 b) ∧ R J H2
structure PIH (X : Cx) (tg iter : Expr) (wi : TI) : Prop where
  run : ∀ (ps : List (Addr × Obj)) (s : Shared) (σ : St) (H : Hp) (R : It → Hp → Prop), Inv X ps σ H s → wi σ H R →
    wpAny (model X.prog X.w) X.A (eval iter X.env) (fun v s1 => wpAny (model X.prog X.w) X.A (pyIter v) (PIEH X ps σ tg R) X.xe s1) X.xe s
theorem PIH.of {tg e : Expr} {t t2 : TI} (h : PIH X tg e t) (w : ∀ σ H Q, t2 σ H Q → t σ H Q) : PIH X tg e t2 := ⟨fun ps s σ H R J q => h.run ps s σ H R J (w σ H R q)⟩
end
end L2
namespace DL
open PySem PySem.Spec PyProof.Rows L2 HotX HotY
open L2H (RoomH Hot1 PinOk cxH HotC inv_startH)
end DL
set_option maxHeartbeats 1000000
namespace DL
open PySem PySem.Spec PyProof.Rows L2
end DL
set_option maxHeartbeats 1000000
namespace PySem
open PySem PySem.Spec
end PySem
namespace L2
open PySem PySem.Spec PyProof.Rows GenW
end L2
set_option maxHeartbeats 1000000
namespace DL
open PySem PySem.Spec PyProof.Rows L2 MT
structure DEndsG where
  nx : List DL.D → Dn → Sto → Prop
  rt : List DL.D → DK
  bk : List DL.D → Dn → Sto → Prop := fun _ _ _ => False
  ct : List DL.D → Dn → Sto → Prop := fun _ _ _ => False
structure DEndsG.Le (D D' : DEndsG) : Prop where
  nx : ∀ ys ρ M, D.nx ys ρ M → D'.nx ys ρ M
  rt : ∀ ys d M, D.rt ys d M → D'.rt ys d M
  bk : ∀ ys ρ M, D.bk ys ρ M → D'.bk ys ρ M
  ct : ∀ ys ρ M, D.ct ys ρ M → D'.ct ys ρ M
@[reducible] def DEndsG.at_ (D : DEndsG) (ys : List DL.D) : DEnds := ⟨D.nx ys, D.rt ys, D.bk ys, D.ct ys⟩
abbrev DTGn := DEndsG → List DL.D → Dn → Sto → Prop
def kG (K : PySem.W.Frag) (al : List Addr) (F G : Hp) (x : DXS) (Q : List V → L2.St → Hp → Prop) : List DL.D → Dn → Sto → Prop := fun ys ρ M' => ∀ al' F' H' σ' vs, Ext al F al' F' → Wd K al' F' G H' M' → Sl K F' al' σ' ρ.v → ρ.x = x → Rps K F' al' vs ys → Q vs σ' H'
def kR (K : PySem.W.Frag) (al : List Addr) (F G : Hp) (Q : List V → VK) : List DL.D → DK := fun ys d M' => ∀ al' F' H' v vs, Ext al F al' F' → Wd K al' F' G H' M' → Rp K F' al' v d → Rps K F' al' vs ys → Q vs v H'
theorem kG.ext {K : PySem.W.Frag} {al al1 : List Addr} {F F1 G : Hp} {x : DXS} {Q : List V → L2.St → Hp → Prop} {ys : List DL.D} {ρ : Dn} {M : Sto} (h : kG K al F G x Q ys ρ M) (e : Ext al F al1 F1) : kG K al1 F1 G x Q ys ρ M :=
  fun al' F' H' σ' vs e' W s q r => h al' F' H' σ' vs (e.trans e') W s q r
theorem kR.ext {K : PySem.W.Frag} {al al1 : List Addr} {F F1 G : Hp} {Q : List V → VK} {ys : List DL.D} {d : D} {M : Sto} (h : kR K al F G Q ys d M) (e : Ext al F al1 F1) : kR K al1 F1 G Q ys d M :=
  fun al' F' H' v vs e' W r rs => h al' F' H' v vs (e.trans e') W r rs
def kontG (K : PySem.W.Frag) (al : List Addr) (F G : Hp) (x : DXS) (E : GEnds) : DEndsG := ⟨kG K al F G x E.nx, kR K al F G E.rt, kG K al F G x E.bk, kG K al F G x E.ct⟩
def LiftGn (X : Cx) (f : DTGn) : TGn := fun E vs σ H => ∃ ρ M al F G ys, Wd X.K al F G H M ∧ Es X F G al σ ρ ∧ Rps X.K F al vs ys ∧ f (kontG X.K al F G ρ.x E) ys ρ M
def MonoGn (f : DTGn) : Prop := ∀ (D D' : DEndsG) ys ρ M, D.Le D' → f D ys ρ M → f D' ys ρ M
structure DGS (X : Cx) (st : Stmt) (f : DTGn) : Prop where
  gs : GS X st (LiftGn X f)
  mono : MonoGn f
theorem GS.of {X : Cx} {st : Stmt} {t t' : TGn} (h : GS X st t) (w : ∀ D ys σ H, t' D ys σ H → t D ys σ H) : GS X st t' :=
  ⟨fun A S ip R n ys s₀ c fs K J gd lv s σ H D g hn k hI ht => h.run A S ip R n ys s₀ c fs K J gd lv s σ H D g hn k hI (w _ _ _ _ ht)⟩
theorem GSs.of {X : Cx} {st : List Stmt} {t t' : TGn} (h : GSs X st t) (w : ∀ D ys σ H, t' D ys σ H → t D ys σ H) : GSs X st t' :=
  ⟨fun A S ip R n ys s₀ c fs K J gd lv s σ H D g hn k hI ht => h.run A S ip R n ys s₀ c fs K J gd lv s σ H D g hn k hI (w _ _ _ _ ht)⟩
section
variable {X : Cx} {st : Stmt} {sts : List Stmt} {pos yp : Pos} {e : Expr}
theorem DGS.weak {f g : DTGn} (h : DGS X st f) (w : ∀ E ys ρ M, g E ys ρ M → f E ys ρ M) (m : MonoGn g) : DGS X st g :=
  ⟨GS.of h.gs fun E vs σ H ⟨ρ, M, al, F, G, ys, W, es, r, q⟩ => ⟨ρ, M, al, F, G, ys, W, es, r, w _ _ _ _ q⟩, m⟩
end
end DL
set_option maxHeartbeats 1000000
namespace DL
open PySem PySem.Spec PyProof.Rows L2 MT
end DL
set_option maxHeartbeats 1000000
namespace DL
open PySem PySem.Spec PyProof.Rows L2 MT
theorem Df.ref {K : PySem.W.Frag} {mg : Str → Option Value} {x : Str} {st : Stmt} (d : Df K mg x st) : mg x = some (.ref (cls mg x)) := by
  obtain ⟨f, fd, F, hm⟩ := d.ex
  rw [cls_of hm]
  exact hm
end DL
set_option maxHeartbeats 1000000
namespace DL
open PySem PySem.Spec PyProof.Rows L2 MT
@[reducible] def tys : List String := ["NoneType", "bool", "int", "str", "tuple", "list", "dict"]
structure EqOwn (K : PySem.W.Frag) (C : Addr) : Prop where
  up : ∀ T ∈ tys, PySem.W.subIn K (.type T) (.ref C) = some false
  dn : ∀ T ∈ tys, PySem.W.subIn K (.ref C) (.type T) = some false
end DL
set_option maxHeartbeats 1000000
namespace DL
open PySem PySem.Spec PyProof.Rows L2 MT Builtin Float
end DL
set_option maxHeartbeats 1000000
namespace DL
open PySem PySem.Spec PyProof.Rows L2 MT
end DL
set_option maxHeartbeats 1000000
namespace DL
open PySem PySem.Spec PyProof.Rows L2
section
variable {X : Cx} {o e f : Expr} {te tf to : TE} {y z : Str} {j k l : Nat} {c0 c1 c2 apos pos p p' : Pos} {es : List Expr} {ta : TA}
def PE1 (X : Cx) (e : Expr) (t : TE) : Prop :=
  ∀ (pins : List (Addr × Obj)) (s : Shared) (σ : L2.St) (H : Hp) (Q : VK), Inv X pins σ H s → t σ H Q → wpAny (model X.prog X.w) X.A (eval e X.env) (fun v s' => 1 ≤ s'.toks ∧ EP X pins σ Q v s') X.xe s
def PA1 (X : Cx) (es : List Expr) (t : TA) : Prop :=
  ∀ (pos : Pos) (pins : List (Addr × Obj)) (s : Shared) (σ : L2.St) (H : Hp) (Q : List V → Hp → Prop), Inv X pins σ H s → t σ H Q → wpAny (model X.prog X.w) X.A (spliced (backTo pos (starEach es X.env))) (fun v s' => 1 ≤ s'.toks ∧ AP X pins σ Q v s') X.xe s
theorem PE1.of {t t' : TE} (h : PE1 X e t) (w : ∀ σ H Q, t' σ H Q → t σ H Q) : PE1 X e t' := fun pins s σ H Q I q => h pins s σ H Q I (w σ H Q q)
theorem PA1.of {t t' : TA} (h : PA1 X es t) (w : ∀ σ H Q, t' σ H Q → t σ H Q) : PA1 X es t' := fun pos pins s σ H Q I q => h pos pins s σ H Q I (w σ H Q q)
end
section
variable {X : Cx} {a b c o e : Expr} {fa fb fc fo fe : DTE} {fr : DTA} {es : List Expr} {pos apos p p' : Pos} {y z : Str} {j k l : Nat} {c0 c1 c2 : Pos}
structure DAT (X : Cx) (es : List Expr) (f : DTA) : Prop where
  pa : PAT X es (LiftA X f)
  mono : ∀ ρ M (Q Q' : List D → Sto → Prop), (∀ d M, Q d M → Q' d M) → f ρ M Q → f ρ M Q'
theorem DAT.seq {e : List Expr} {f : DTA} (h : DAT X e f) {ρ : Dn} {M : Sto} {al : List Addr} {F G H : Hp} {σ : L2.St} {R : List D → Sto → Prop} {P : List V → Hp → Prop} (W : Wd X.K al F G H M) (s : Es X F G al σ ρ) (q : f ρ M R)
    (k : ∀ d M1 al1 F1 H1 v, R d M1 → Ext al F al1 F1 → Wd X.K al1 F1 G H1 M1 → Rps X.K F1 al1 v d → Es X F1 G al1 σ ρ → P v H1) : LiftA X f σ H P :=
  ⟨ρ, M, al, F, G, W, s, h.mono _ _ _ _ (fun d M1 r al1 F1 H1 v e W1 rp => k d M1 al1 F1 H1 v r e W1 rp (s.ext e)) q⟩
end
end DL
set_option maxHeartbeats 1000000
namespace DL
open PySem PySem.Spec PyProof.Rows L2
/-- a tuple object as the machine makes it -/
def PlainT (o : Obj) : Prop := o.cls = .type "tuple" ∧ o.dict = none ∧ ∃ its n, o.data = .seq its n
/-- d is a plain tuple that holds ds -/
def PT (ds : List D) (d : D) : Prop := ∃ (b : Addr) (o : Obj) (xs : List V), d = .clo b [(b, .frz o (.tup xs))] xs ds ∧ PlainT o
/-- d is a tuple of ints that may be a key -/
def KTup (ns : List Int) (d : D) : Prop := ∃ b : Addr, d = .clo b [(b, .tup (ns.map V.int))] (ns.map V.int) (ns.map D.int)
def Marked (d : D) (ds : List D) : Prop := PT ds d ∨ ∃ ns, KTup ns d ∧ ds = ns.map D.int
theorem PT.bel {n : Nat} {ds : List D} {d : D} (h : PT ds d) (hb : bels n ds = true) : bel n d = true := by
  obtain ⟨b, o, xs, rfl, _⟩ := h
  exact hb
theorem KTup.bel {n : Nat} {ns : List Int} {d : D} (h : KTup ns d) : bel n d = true := by
  obtain ⟨b, rfl⟩ := h
  exact bels_of fun d hd => by
    obtain ⟨x, _, rfl⟩ := List.mem_map.mp hd
    rfl
section
variable {K : PySem.W.Frag} {F G H : Hp} {al : List Addr} {M : Sto}
theorem PT.at {ds : List D} {d : D} {v : V} (h : PT ds d) (r : Rp K F al v d) : ∃ (b : Addr) (o : Obj) (xs : List V), v = .ref b ∧ F b = some (.frz o (.tup xs)) ∧ PlainT o ∧ Rps K F al xs ds := by
  obtain ⟨b, o, xs, rfl, ho⟩ := h
  cases r with
  | clo a c => exact ⟨b, o, xs, rfl, a _ List.mem_cons_self, ho, c⟩
theorem KTup.at {ns : List Int} {d : D} {v : V} (h : KTup ns d) (r : Rp K F al v d) : ∃ b : Addr, v = .ref b ∧ F b = some (.tup (ns.map V.int)) := by
  obtain ⟨b, rfl⟩ := h
  cases r with
  | clo a c => exact ⟨b, rfl, a _ List.mem_cons_self⟩
theorem Marked.rp {d : D} {ds : List D} {v : V} (h : Marked d ds) (r : Rp K F al v d) : Rp K F al v (.tup ds) := by
  rcases h with h | ⟨ns, h, rfl⟩
  · obtain ⟨b, o, xs, rfl, hF, _, rs⟩ := h.at r
    exact .tup (.inr ⟨o, hF⟩) rs
  · obtain ⟨b, rfl, hF⟩ := h.at r
    exact .tup (.inl hF) Rps.of_ints
theorem PT.rp {b : Addr} {o : Obj} {xs : List V} {ds : List D} (hF : F b = some (.frz o (.tup xs))) (ho : PlainT o) (rs : Rps K F al xs ds) : ∃ d, PT ds d ∧ Rp K F al (.ref b) d :=
  ⟨_, ⟨b, o, xs, rfl, ho⟩, .clo (fun p hp => by rw [List.mem_singleton.mp hp]; exact hF) rs⟩
theorem KTup.rp {b : Addr} {ns : List Int} (hF : F b = some (.tup (ns.map V.int))) : ∃ d, KTup ns d ∧ Rp K F al (.ref b) d :=
  ⟨_, ⟨b, rfl⟩, .clo (fun p hp => by rw [List.mem_singleton.mp hp]; exact hF) Rps.of_ints⟩
end
section
variable {X : Cx} {a b c e : Expr} {fa fb fc fe : DTE} {pos : Pos}
@[reducible] def dView (fe : DTE) : DTE := fun ρ M Q => fe ρ M fun d M1 => ∃ ds, Marked d ds ∧ Q (.tup ds) M1
theorem d_view (h : DE X e fe) : DE X e (dView fe) := by
  refine ⟨PE.of h.pe fun σ H Q ⟨ρ, M, al, F, G, W, s, q⟩ => ?_, fun ρ M Q Q' w q => h.mono _ _ _ _ (fun d M1 ⟨ds, m, q1⟩ => ⟨ds, m, w _ _ q1⟩) q⟩
  exact ⟨ρ, M, al, F, G, W, s, h.mono _ _ _ _ (fun d M1 ⟨ds, m, q1⟩ al' F' H' v e' W' r' => q1 al' F' H' v e' W' (m.rp r')) q⟩
def kTupP (K : PySem.W.Frag) (x : V) (H : Hp) (Q : VK) : Prop := ∃ p xs, x = .ref p ∧ SqL K H p xs ∧ ∀ q o, H q = none → PlainT o → Q (.ref q) (upd H q (.frz o (.tup xs)))
theorem rl_tupleP (pins : List (Addr × Obj)) (s : Shared) (σ : L2.St) (H : Hp) (x : V) (v : Value) (Q : VK) (I : Inv X pins σ H s) (r : RelV x v) (h : kTupP X.K x H Q) :
    wpAny (model X.prog X.w) X.A (call (.type "tuple") [v]) (EP X pins σ Q) X.xe s := by
  obtain ⟨p, xs, rfl, hs, q⟩ := h
  obtain rfl : v = .ref p := r
  obtain ⟨its, rv, pl, hz⟩ := I.list hs
  refine call_tuple_list pl.isList (fun h' hk => ?_) (by rw [List.size_toArray, ← rv.length]; exact hz)
  have I1 : Inv X pins σ H { s with heap := h' } := I.kept (t' := s.toks) hk
  have I2 : Inv X pins σ (upd H h'.objs.size (.frz { cls := .type "tuple", data := .seq its.toArray } (.tup xs))) { s with heap := h'.push { cls := .type "tuple", data := .seq its.toArray } } :=
    I1.laid (t' := s.toks) (fun b o e => Heap.get?_push_of_some _ e) (Nat.le_refl _) (show ObjOk X.prog X.w _ _ _ (.frz _ (.tup xs)) from ⟨Heap.get?_push_size _ rfl, hz, its, rv, IsTup.new _ _⟩)
  exact ⟨.ref h'.objs.size, _, I2, rfl, q _ _ (I1.hok.fresh (Nat.le_refl _)) ⟨rfl, rfl, _, _, rfl⟩⟩
theorem pe_tupleP {ta : TE} {p pos : Pos} (hg : Gl X "tuple") (hm : X.mg "tuple" = none) (ha : PE X a ta) (na : starEach [a] X.env = (false, eval a X.env) :: starEach [] X.env := by rfl) :
    PE X (.Call (.Name "tuple" p) [a] [] pos) (tThen ta (kTupP X.K)) := by
  refine ⟨fun pins s σ H Q I h => ?_⟩
  exact Call_ (ld_blt I hg hm boot_tuple (PyProof.Rows.callWith_type1 (one_arg ha I h (fun v s2 x H2 I2 r q => rl_tupleP pins s2 σ H2 x v Q I2 r q) na) na))
/-- tuple(e) of a list, a plain tuple -/
@[reducible] def dTupP (fe : DTE) : DTE := fun ρ M Q => fe ρ M fun d M1 => match seqOf d M1 with
  | some ds => ∀ d', PT ds d' → Q d' M1
  | none => False
theorem d_tupP {p : Pos} (hg : Gl X "tuple") (hm : X.mg "tuple" = none) (h : DE X e fe) (na : starEach [e] X.env = (false, eval e X.env) :: starEach [] X.env := by rfl) : DE X (.Call (.Name "tuple" p) [e] [] pos) (dTupP fe) := by
  refine ⟨PE.of (pe_tupleP hg hm h.pe na) fun σ H Q ⟨ρ, M, al, F, G, W, s, q⟩ => ?_, fun ρ M Q Q' w q => h.mono _ _ _ _ (fun d M1 q1 => ?_) q⟩
  · refine h.seq W s q fun d M1 al1 F1 H1 v q1 e1 W1 r1 s1 => ?_
    split at q1
    · next ds hs =>
      obtain ⟨p, xs, rfl, h1, rs⟩ := seqOf_ok W1 r1 hs
      refine ⟨p, xs, rfl, SqL.of h1, fun z o hz ho => ?_⟩
      obtain ⟨W2, e2⟩ := W1.newF (o := .frz o (.tup xs)) hz
      obtain ⟨d', hd, rd⟩ := PT.rp (K := X.K) (F := upd F1 z (.frz o (.tup xs))) (al := al1) upd_same ho (rs.ext e2)
      exact q1 d' hd al1 _ _ _ (e1.trans e2) W2 rd
    · exact q1.elim
  · try dsimp only at q1 ⊢
    split at q1
    · exact fun d' hd => w _ _ (q1 d' hd)
    · exact q1.elim
theorem pairs_of2 {pins : List (Addr × Obj)} {σ : L2.St} {H : Hp} {s : Shared} (I : Inv X pins σ H s) : ∀ {ps : List Addr} {kvs : List (Key × V)}, Paired (fun p kv => SqT X.K H p [kV kv.1, kv.2]) ps kvs →
    ∃ (prs : List (Key × Value)) (us : List (Value × Value)), KV kvs prs ∧ prs.length = ps.length ∧ us.length = ps.length ∧ ∀ (j : Nat) (k v : Value), us[j]? = some (k, v) → ∃ (b : Addr) (q : Key), ps[j]? = some b ∧ IsTup s.heap b #[k, v] ∧ prs[j]? = some (q, v) ∧ (mixKind X.prog X.w).is q k = true
  | _, _, .nil => ⟨[], [], .nil, rfl, rfl, fun j k v e => by simp at e⟩
  | _, _, .cons (a := p) (b := kv) h t => by
    obtain ⟨prs, us, r, hl, hl2, hp⟩ := pairs_of2 I t
    obtain ⟨its, rv, ht, _⟩ := I.tuple h
    obtain ⟨u, y, ei, ru, ry⟩ := vals2 rv
    subst ei
    refine ⟨(kv.1, y) :: prs, (u, y) :: us, .cons ⟨rfl, ry⟩ r, by rw [List.length_cons, List.length_cons, hl], by rw [List.length_cons, List.length_cons, hl2], fun j k v e => ?_⟩
    cases j with
    | zero =>
      have e' : (u, y) = (k, v) := Option.some.inj e
      cases e'
      exact ⟨p, kv.1, rfl, ht, rfl, kV_is ru⟩
    | succ j =>
      obtain ⟨b, q, e1, e2, e3, e4⟩ := hp j k v (by simpa using e)
      exact ⟨b, q, by simpa using e1, e2, by simpa using e3, e4⟩
theorem call_dictPT (hcalm : X.calm = true) : CallR X (.type "dict") (fun xs H Q => ∃ (a : Addr) (o : Obj) (ps : List Addr) (kvs : List (Key × V)), xs = [.ref a] ∧ H a = some (.frz o (.tup (ps.map V.ref))) ∧ PlainT o ∧ Paired (fun p kv => SqT X.K H p [kV kv.1, kv.2]) ps kvs ∧
    ∀ p, H p = none → Q (.ref p) (upd H p (.dK (mergeK [] kvs)))) := by
  intro pins s σ H xs us Q I r q
  obtain ⟨a, o, ps, kvs, ex, hq, ⟨oc, od, its', n, odat⟩, hp, q⟩ := q
  subst ex
  obtain ⟨u, eu, rx⟩ := vals1 r
  subst eu
  cases rx
  obtain ⟨hget, hz, its, rv, o2, hget2, _, n2, hd2⟩ := (show ObjOk X.prog X.w H s.heap a (.frz o (.tup (ps.map V.ref))) from I.hok a _ hq)
  rw [hget] at hget2
  cases hget2
  rw [odat] at hd2
  cases hd2
  have ei := refs_at rv
  rw [List.length_map] at hz
  obtain ⟨prs, us2, rel, hl, hl2, hpr⟩ := pairs_of2 I hp
  have hit : its.toArray.size = us2.length := by rw [ei, List.size_toArray, List.length_map, hl2]
  refine PySem.call_dict_pairs (knd := mixKind X.prog X.w) (kvs := prs) (PySem.PairArg.tuple a its.toArray (fun j => (ps[j]?).getD 0) us2) (I.ok.hd hcalm) ⟨⟨o, n, hget, oc, od, odat⟩, hit, fun j k v e => ?_⟩ ⟨by rw [hl, hl2], fun i k v e => ?_⟩ (by rw [hl2]; exact hz) fun h' tk hd' k => ?_
  · obtain ⟨b, q, e1, e2, e3, e4⟩ := hpr j k v e
    refine ⟨by rw [ei]; simp [e1], .inl ?_⟩
    show s.heap.IsTuple ((ps[j]?).getD 0) _
    rw [e1]
    exact e2
  · obtain ⟨b, q, e1, e2, e3, e4⟩ := hpr i k v e
    exact ⟨q, e3, e4⟩
  · have hm : (s.heap.objs.size == sysModules) = false := beq_eq_false_iff_ne.mpr (Nat.ne_of_gt I.big)
    have hlen : (mergeK [] kvs).length ≤ sizeLine := by
      refine Nat.le_trans (length_mergeK kvs []) ?_
      rw [List.length_nil, Nat.zero_add, rel.length, hl]
      exact hz
    exact ⟨.ref s.heap.objs.size, upd H s.heap.objs.size (.dK (mergeK [] kvs)), I.laid (t' := tk) (fun b o e => k b o (by simp) e) (Nat.le_refl _) (show ObjOk X.prog X.w _ _ _ (.dK (mergeK [] kvs)) from ⟨hlen, hm, merged [] prs, KV.merge rel .nil, hd'⟩), rfl, q _ (I.hok.fresh (Nat.le_refl _))⟩
/-- rows of pairs of ints -/
def pairsOf : List D → Option (List (Int × Int))
  | [] => some []
  | .tup [.int i, .int j] :: r => match pairsOf r with
    | some ps => some ((i, j) :: ps)
    | none => none
  | _ => none
theorem pairsOf_eq : ∀ {ds : List D} {ps : List (Int × Int)}, pairsOf ds = some ps → ds = ps.map fun p => D.tup [.int p.1, .int p.2]
  | [], _, h => by cases h; rfl
  | d :: r, ps, h => by
    unfold pairsOf at h
    split at h
    · next z => cases z
    · next i j r' he =>
      cases he
      split at h
      · next ps' e' => cases h; rw [pairsOf_eq e']; rfl
      · cases h
    · cases h
theorem pairsOf_map : ∀ ps : List (Int × Int), pairsOf (ps.map fun p => D.tup [.int p.1, .int p.2]) = some ps
  | [] => rfl
  | p :: ps => by
    rw [List.map_cons]
    unfold pairsOf
    rw [pairsOf_map ps]
theorem merge_nodup : ∀ (more acc : List (Key × V)), ((acc ++ more).map (·.1)).Nodup → mergeK acc more = acc ++ more
  | [], acc, _ => by rw [List.append_nil]; rfl
  | p :: more, acc, h => by
    have hn : valV acc p.1 = none := by
      cases hv : valV acc p.1 with
      | none => rfl
      | some x =>
        have hm := valV_in hv
        rw [List.map_append, List.nodup_append] at h
        exact (h.2.2 _ hm _ (by simp) rfl).elim
    show mergeK (putK acc p.1 p.2) more = _
    rw [putK_new p.2 hn, merge_nodup more (acc ++ [(p.1, p.2)]) (by rw [List.append_assoc]; exact h), List.append_assoc]
    rfl
@[reducible] def dDictP (fe : DTE) : DTE := fun ρ M Q => fe ρ M fun d M1 => ∃ ds ps, PT ds d ∧ pairsOf ds = some ps ∧ (ps.map (·.1)).Nodup ∧ Q (.dct (ps.map fun p => .inl p.1) (ps.map fun p => .int p.2)) M1
theorem rps_pairs {K : PySem.W.Frag} {F : Hp} {al : List Addr} : ∀ {ps : List (Int × Int)} {xs : List V}, Rps K F al xs (ps.map fun p => D.tup [.int p.1, .int p.2]) → ∃ as : List Addr, xs = as.map V.ref ∧ ∀ H, Sm F H → Paired (fun (p : Addr) (kv : Key × V) => SqT K H p [kV kv.1, kv.2]) as (ps.map fun p => ((.inl p.1 : Key), V.int p.2))
  | [], _, .nil => ⟨[], rfl, fun _ _ => .nil⟩
  | p :: ps, _, .cons r rs => by
    obtain ⟨as, e, h⟩ := rps_pairs rs
    cases r with
    | tup a b =>
      cases b with
      | cons b1 b2 =>
        cases b1
        cases b2 with
        | cons b3 b4 =>
          cases b3
          cases b4
          exact ⟨_ :: as, by rw [e]; rfl, fun H hs => .cons (hs.sq a) (h H hs)⟩
theorem rps_snd {K : PySem.W.Frag} {F : Hp} {al : List Addr} : ∀ ps : List (Int × Int), Rps K F al (ps.map fun p => V.int p.2) (ps.map fun p => D.int p.2)
  | [] => .nil
  | _ :: ps => .cons (.int _) (rps_snd ps)
theorem d_dictP {p : Pos} (hg : Gl X "dict") (hm : X.mg "dict" = none) (h : DE X e fe) (hc : X.calm = true := by rfl) (na : starEach [e] X.env = (false, eval e X.env) :: starEach [] X.env := by rfl) : DE X (.Call (.Name "dict" p) [e] [] pos) (dDictP fe) := by
  refine ⟨PE.of (pe_callTy (call_dictPT hc) hg hm (by decide +kernel) (pa_cons h.pe pa_nil na) (by decide) (by decide) na rfl) fun σ H Q ⟨ρ, M, al, F, G, W, s, q⟩ => ?_, fun ρ M Q Q' w q => h.mono _ _ _ _ (fun d M1 ⟨ds, ps, h1, h2, h3, q1⟩ => ⟨ds, ps, h1, h2, h3, w _ _ q1⟩) q⟩
  refine h.seq W s q fun d M1 al1 F1 H1 v q1 e1 W1 r1 s1 => ?_
  obtain ⟨ds, ps, h1, h2, h3, q1⟩ := q1
  obtain ⟨b, o, xs, rfl, hF, ho, rs⟩ := h1.at r1
  rw [pairsOf_eq h2] at rs
  obtain ⟨as, rfl, hpr⟩ := rps_pairs rs
  refine ⟨b, o, as, _, rfl, W1.sm _ _ hF, ho, hpr H1 W1.sm, fun z hz => ?_⟩
  have hk : (ps.map fun p => ((.inl p.1 : Key), V.int p.2)).map (·.1) = (ps.map (·.1)).map Sum.inl := by rw [List.map_map, List.map_map]; rfl
  rw [merge_nodup _ [] (by rw [List.nil_append, hk]; exact List.Pairwise.map _ (fun _ _ n e => n (Sum.inl.inj e)) h3), List.nil_append]
  have hz2 : (ps.map fun p => ((.inl p.1 : Key), V.int p.2)) = (ps.map fun p => (.inl p.1 : Key)).zip (ps.map fun p => V.int p.2) := by
    rw [List.zip_map']
  rw [hz2]
  obtain ⟨W2, e2⟩ := W1.newF (o := .dK ((ps.map fun p => (.inl p.1 : Key)).zip (ps.map fun p => V.int p.2))) hz
  refine q1 al1 _ _ _ (e1.trans e2) W2 (.dct upd_same (by simp) ?_)
  exact rps_snd ps
def lookD (ks : List Key) (ds : List D) (k : Key) : Option D := ((ks.zip ds).find? fun kv => decide (kv.1 = k)).map (·.2)
@[reducible] def dGet2 (fo fe fx : DTE) : DTE := fun ρ M Q => fo ρ M fun d M1 => match d with
  | .dct ks ds => fe ρ M1 fun y M2 => (match y with
    | .int i => fx ρ M2 fun z M3 => Q ((lookD ks ds (.inl i)).getD z) M3
    | _ => False)
  | _ => False
theorem look_rel {K : PySem.W.Frag} {F : Hp} {al : List Addr} (k : Key) : ∀ {ks : List Key} {xs : List V} {ds : List D}, Rps K F al xs ds → (valV (ks.zip xs) k = none ∧ lookD ks ds k = none) ∨ ∃ v d, valV (ks.zip xs) k = some v ∧ lookD ks ds k = some d ∧ Rp K F al v d
  | [], _, _, _ => .inl ⟨rfl, rfl⟩
  | _ :: _, _, _, .nil => .inl ⟨rfl, rfl⟩
  | c :: ks, _, _, .cons (v := v) (d := d) r rs => by
    by_cases h : c = k
    · refine .inr ⟨v, d, ?_, ?_, r⟩
      · rw [List.zip_cons_cons]; exact valV_pos (p := (c, v)) h
      · unfold lookD; rw [List.zip_cons_cons, List.find?_cons]; simp [h]
    · have ih := look_rel k (ks := ks) rs
      have e1 : ∀ v', valV ((c :: ks).zip (v :: v')) k = valV (ks.zip v') k := fun v' => by rw [List.zip_cons_cons]; exact valV_neg (p := (c, v)) h
      have e2 : ∀ d', lookD (c :: ks) (d :: d') k = lookD ks d' k := fun d' => by unfold lookD; rw [List.zip_cons_cons, List.find?_cons]; simp [h]
      rw [e1, e2]
      exact ih
theorem d_get2 {o f : Expr} {fo ff : DTE} {apos : Pos} (hu : X.A.units + 1 < cLine) (ho : DE X o fo) (he : DE X e fe) (hf : DE X f ff) (m : M2 X o "get" apos e f pos := by exact ⟨rfl, rfl, rfl, rfl⟩) : DE X (.Call (.Attribute o "get" apos) [e, f] [] pos) (dGet2 fo fe ff) := by
  refine ⟨PE.of (pe_dget2 hu ho.pe he.pe hf.pe m) fun σ H Q ⟨ρ, M, al, F, G, W, s, q⟩ => ?_, fun ρ M Q Q' w q => ho.mono _ _ _ _ (fun d M1 q1 => ?_) q⟩
  · refine ho.seq W s q fun d M1 al1 F1 H1 v q1 e1 W1 r1 s1 => ?_
    cases r1 <;> first | exact q1.elim | skip
    next a ks xs ds hF hl rs =>
    refine ⟨a, rfl, .inl ⟨_, .inl (W1.sm _ _ hF)⟩, ?_⟩
    refine he.seq W1 s1 q1 fun y M2 al2 F2 H2 u q2 e2 W2 r2 s2 => ?_
    cases r2 <;> first | exact q2.elim | skip
    next i =>
    refine hf.seq W2 s2 q2 fun z M3 al3 F3 H3 u3 q3 e3 W3 r3 s3 => ?_
    have eA := e2.trans e3
    refine ⟨_, DGet.k (k := .inl i) (W3.sm _ _ (eA.sm _ _ hF)), ?_⟩
    rcases look_rel (.inl i) (ks := ks) (rs.ext eA) with ⟨h1, h2⟩ | ⟨v, d, h1, h2, rd⟩
    · rw [h1]
      rw [h2] at q3
      exact q3 al3 F3 H3 _ (e1.trans eA) W3 r3
    · rw [h1]
      rw [h2] at q3
      exact q3 al3 F3 H3 _ (e1.trans eA) W3 rd
  · cases d <;> first | exact q1.elim | skip
    refine he.mono _ _ _ _ (fun y M2 q2 => ?_) q1
    cases y <;> first | exact q2.elim | skip
    exact hf.mono _ _ _ _ (fun z M3 q3 => w _ _ q3) q2
end
end DL
set_option maxHeartbeats 1000000
namespace DL
open PySem PySem.Spec PyProof.Rows L2
/-- a new key goes behind the others -/
theorem units1 {n : Nat} (h : n + 65 < cLine) : n + 1 < cLine := by omega
section
variable {X : Cx} {a b c : Expr} {fa fb fc : DTE} {pos : Pos}
abbrev DTK := Dn → Sto → (List Int → Sto → Prop) → Prop
def kontK (K : PySem.W.Frag) (al : List Addr) (F G : Hp) (Q : VK) : List Int → Sto → Prop := fun ns M' => ∀ al' F' H' b, Ext al F al' F' → Wd K al' F' G H' M' → F' b = some (.tup (ns.map V.int)) → Q (.ref b) H'
def LiftK (X : Cx) (f : DTK) : TE := fun σ H Q => ∃ ρ M al F G, Wd X.K al F G H M ∧ Es X F G al σ ρ ∧ f ρ M (kontK X.K al F G Q)
structure DKx (X : Cx) (e : Expr) (f : DTK) : Prop where
  pe : PE X e (LiftK X f)
  mono : ∀ ρ M (Q Q' : List Int → Sto → Prop), (∀ d M, Q d M → Q' d M) → f ρ M Q → f ρ M Q'
theorem DKx.seq {e : Expr} {f : DTK} (h : DKx X e f) {ρ : Dn} {M : Sto} {al : List Addr} {F G H : Hp} {σ : L2.St} {R : List Int → Sto → Prop} {P : VK} (W : Wd X.K al F G H M) (s : Es X F G al σ ρ) (q : f ρ M R)
    (k : ∀ ns M1 al1 F1 H1 b, R ns M1 → Ext al F al1 F1 → Wd X.K al1 F1 G H1 M1 → F1 b = some (.tup (ns.map V.int)) → Es X F1 G al1 σ ρ → P (.ref b) H1) : LiftK X f σ H P :=
  ⟨ρ, M, al, F, G, W, s, h.mono _ _ _ _ (fun ns M1 r al1 F1 H1 b e W1 hb => k ns M1 al1 F1 H1 b r e W1 hb (s.ext e)) q⟩
end
end DL
set_option maxHeartbeats 2000000
namespace DL
open PySem PySem.Spec PyProof.Rows L2
/-- what is known of the object of an exception -/
def exvP (a C : Addr) (d : Option Addr) (h : Heap) : Prop := ∃ (oe : Obj) (vs : Array Value), h.get? a = some oe ∧ oe.cls = .ref C ∧ oe.dict = d ∧ oe.data = .fields vs
def exv (a C : Addr) (d : Option Addr) : HO := .ext (exvP a C d)
section
variable {X : Cx} {a b c e : Expr} {fa fb fc fe : DTE} {pos : Pos}
/-- an exception without field, with one field -/
def ExV0 (C : Addr) (x : D) : Prop := ∃ a : Addr, x = .clo a [(a, exv a C none)] [] []
def ExV1 (C : Addr) (f : Str) (d x : D) : Prop := ∃ (a q : Addr) (v : V), x = .clo a [(a, exv a C (some q)), (q, .xd [(f, v)])] [v] [d]
def ExA (C : Addr) (x : D) : Prop := ExV0 C x ∨ ∃ f d, ExV1 C f d x
theorem ExV0.bel {n : Nat} {C : Addr} {x : D} (h : ExV0 C x) : bel n x = true := by
  obtain ⟨a, rfl⟩ := h
  exact bels_of fun d hd => nomatch hd
theorem ExV1.bel {n : Nat} {C : Addr} {f : Str} {d x : D} (h : ExV1 C f d x) (hd : bel n d = true) : bel n x = true := by
  obtain ⟨a, q, v, rfl⟩ := h
  exact bels_of fun y hy => by rw [List.mem_singleton.mp hy]; exact hd
theorem ExA.at {F : Hp} {al : List Addr} {C : Addr} {x : D} {v : V} {K : PySem.W.Frag} (h : ExA C x) (r : Rp K F al v x) : ∃ a d, v = .ref a ∧ F a = some (exv a C d) ∧ DictAt F d := by
  rcases h with ⟨a, rfl⟩ | ⟨f, y, a, q, u, rfl⟩
  · cases r with
    | clo h _ => exact ⟨a, none, rfl, h _ List.mem_cons_self, trivial⟩
  · cases r with
    | clo h _ => exact ⟨a, some q, rfl, h _ List.mem_cons_self, _, h _ (List.mem_cons_of_mem _ List.mem_cons_self)⟩
theorem DictAt.sm {F H : Hp} {d : Option Addr} (h : DictAt F d) (s : Sm F H) : DictAt H d := by
  cases d with
  | none => trivial
  | some q =>
    obtain ⟨fs, h⟩ := h
    exact ⟨fs, s _ _ h⟩
end
end DL
set_option maxHeartbeats 1000000
namespace DL
open PySem PySem.Spec PyProof.Rows L2 MT
structure EqL (K : PySem.W.Frag) (C C2 Cm : Addr) : Prop where
  s : SubEq K C C2
  e1 : EqOwn K C
  e2 : EqOwn K C2
  n1 : OwnNe K C
  n2 : OwnNe K C2
  m1 : PySem.W.subIn K (.ref Cm) (.ref C) = some false
  m2 : PySem.W.subIn K (.ref Cm) (.ref C2) = some false
/-- the left one is asked first -/
def LeftFirst (C C2 Cm C' C'' : Addr) : Prop := C'' = C' ∨ (C' = C2 ∧ C'' = C) ∨ C'' = Cm
theorem EqL.nf {K : PySem.W.Frag} {C C2 Cm C' C'' : Addr} (e : EqL K C C2 Cm) (h : C' ∈ [C, C2]) (l : LeftFirst C C2 Cm C' C'') : PySem.W.notFirst K C' (.ref C'') = true := by
  rcases l with rfl | ⟨rfl, rfl⟩ | rfl
  · simp [PySem.W.notFirst]
  · unfold PySem.W.notFirst; rw [e.s.dn]; simp
  · rcases List.mem_cons.mp h with rfl | h
    · unfold PySem.W.notFirst; rw [e.m1]; simp
    · rw [List.mem_singleton.mp h]; unfold PySem.W.notFirst; rw [e.m2]; simp
end DL
set_option maxHeartbeats 1000000
namespace PySem.F
end PySem.F
namespace L2
open PySem PySem.Spec PyProof.Rows
end L2
namespace DL
open PySem PySem.Spec PyProof.Rows L2
end DL
set_option maxHeartbeats 1000000
namespace DL
open PySem PySem.Spec PyProof.Rows L2
section
variable {X : Cx} {es : List Expr} {t : TA} {fr : DTA} {pos : Pos} {k : Nat}
theorem pe_dispP (h : PA X es t) : PE X (.Tuple es k pos) (fun σ H Q => t σ H fun xs H1 => xs.length ≤ sizeLine ∧ ∀ q o, H1 q = none → PlainT o → Q (.ref q) (upd H1 q (.frz o (.tup xs)))) := by
  refine ⟨fun pins s σ H Q I hq => ?_⟩
  refine wpAny_Tuple_spliced (thn (h.run pos pins s σ H _ I hq) fun us s1 ⟨xs, H1, I1, r, z, q⟩ => ⟨by rw [← r.length]; exact z, ?_⟩)
  have hf : H1 s1.heap.objs.size = none := I1.hok.fresh (Nat.le_refl _)
  refine ⟨.ref s1.heap.objs.size, _, I1.laid (t' := s1.toks) (o := .frz { cls := .type "tuple", data := .seq us.toArray } (.tup xs)) (fun b u e => Heap.get?_push_of_some _ e) (Nat.le_refl _) ?_, rfl, q _ _ hf ⟨rfl, rfl, _, _, rfl⟩⟩
  exact ⟨Heap.get?_push_size _ rfl, z, us, r, IsTup.new _ _⟩
@[reducible] def dDispP (fr : DTA) : DTE := fun ρ M Q => fr ρ M fun ds M1 => ds.length ≤ 100000 ∧ ∀ d', PT ds d' → Q d' M1
theorem d_dispP (h : DA X es fr) : DE X (.Tuple es k pos) (dDispP fr) := by
  refine ⟨PE.of (pe_dispP h.pa) fun σ H Q ⟨ρ, M, al, F, G, W, s, q⟩ => ?_, fun ρ M Q Q' w q => h.mono _ _ _ _ (fun ds M1 q1 => ⟨q1.1, fun d' hd => w _ _ (q1.2 d' hd)⟩) q⟩
  refine h.seq W s q fun ds M1 al1 F1 H1 vs q1 e1 W1 r1 s1 => ⟨?_, fun z o hz ho => ?_⟩
  · have := r1.length
    exact Nat.le_trans (by rw [this]; exact q1.1) (show 100000 ≤ sizeLine by decide)
  · obtain ⟨W2, e2⟩ := W1.newF (o := .frz o (.tup vs)) hz
    obtain ⟨d', hd, rd⟩ := PT.rp (K := X.K) (F := upd F1 z (.frz o (.tup vs))) (al := al1) upd_same ho (r1.ext e2)
    exact q1.2 d' hd al1 _ _ _ (e1.trans e2) W2 rd
end
end DL
set_option maxHeartbeats 1000000
namespace PySem.W
open PySem PySem.Calls PyProof.Rows
section
variable {prog : Program} {w : World} {A : Around} {E : Value → Shared → Prop} {s : Shared} {β : Type} {R : Value → β → Prop} {enc : β → PyData} {vs : List Value} {bs : List β}
theorem sorted_data_seq {it : Addr} {T : String} {o : Obj} {n : Nat} {Q : Value → Shared → Prop} (hT : T = "list" ∨ T = "tuple") (ho : s.heap.get? it = some o) (hc : o.cls = .type T) (hd : o.data = .seq vs.toArray n) (e : EachIs R vs bs) (er : EachIs (fun v b => ∃ as, Reads s.heap v (enc b) as) vs bs) (hal : AllAlike (bs.map enc)) (hk : Sortable (bs.map enc)) (hL : bs.length ≤ sizeLine)
    (hu : ∀ b, b ∈ bs → A.units + 2 + (enc b).depth < cLine) (h : ∀ (out : List Value) (h1 h' : Heap) (c : Nat), out.length = bs.length → EachIs R out (bs.mergeSort (dataLe false enc)) → (∀ b ob, s.heap.get? b = some ob → h1.get? b = some ob) → (∀ b ob, h1.get? b = some ob → h'.get? b = some ob) → h'.get? h1.objs.size = some (seqObj "list" (List.toArray out) c) → Q (.ref h1.objs.size) { s with heap := h' }) :
    wpAny (model prog w) A (call (.builtin "sorted") [.ref it]) Q E s := by
  have hL2 : vs.length ≤ sizeLine := by rw [e.length]; exact hL
  refine call_function_entry_kw kind_sorted plain_sorted entry_sorted (args_sorted1 _) ?_
  unfold Builtin.«sorted»
  refine wpAny_bind (m := checkCount "sorted" 1 1 _) (wpAny_pure ?_)
  refine wpAny_bind (wpAny_collect_seq it hT ho hc hd (fun h1 k1 => ?_) (by rw [List.size_toArray]; exact hL2))
  refine wpAny_bind (wpAny_newList ?_ hL2)
  have ha : (h1.push (seqObj "list" vs.toArray 0)).get? h1.objs.size = some (seqObj "list" vs.toArray 0) := Heap.get?_push_size _ rfl
  have k2 : ∀ b ob, s.heap.get? b = some ob → (h1.push (seqObj "list" vs.toArray 0)).get? b = some ob := fun b ob q => Heap.get?_push_of_some _ (k1 b ob q)
  have old : ∀ b ob, s.heap.get? b = some ob → b ≠ h1.objs.size := fun b ob q => Nat.ne_of_lt (Heap.lt_size (k1 b ob q))
  have er' : EachIs (fun v b => ∃ as, Reads (sortingHeap (h1.push (seqObj "list" vs.toArray 0)) h1.objs.size vs) v (enc b) as) vs bs := er.mono fun _ _ ⟨as, r⟩ => ⟨as, PyProof.Rows.Reads.keeps (fun b ob q => sortingHeap_old (old b ob q) (k2 b ob q)) r⟩
  refine wpAny_bind (wpAny_holding (wpAny_call_entry_kw slot_list_sort ⟨_, ha, rfl⟩ entry_list_sort ?body (args_list_sort _)))
  case body =>
    show wpAny (model prog w) A.in1.in1 (Builtin.«list.sort» ⟨[.ref h1.objs.size], []⟩) _ _ _
    refine list_sort_vals (s := { s with heap := h1.push (seqObj "list" vs.toArray 0) }) ha (SortsAt.data (s := { s with heap := sortingHeap (h1.push (seqObj "list" vs.toArray 0)) h1.objs.size vs }) (each_map (R := fun v d => ∃ as, Reads (sortingHeap (h1.push (seqObj "list" vs.toArray 0)) h1.objs.size vs) v d as) enc er') hal hk (bound_map hu)) hL2 ?_
    obtain ⟨c, hat⟩ := sortedHeap_at (out := (sortVals (dataKind (sortingHeap (h1.push (seqObj "list" vs.toArray 0)) h1.objs.size vs) (bs.map enc)) false vs vs).toArray) ha
    refine ⟨_, rfl, wpAny_pure ⟨_, rfl, ?_⟩⟩
    refine h _ h1 _ c (by rw [sortVals_length false rfl]; exact e.length) (sortVals_data false e er' hal) k1 (fun b ob q => ?_) hat
    rw [sortedHeap_old (Nat.ne_of_lt (Heap.lt_size q)) (Heap.lt_size (Heap.get?_push_of_some _ q))]
    exact Heap.get?_push_of_some _ q
end
end PySem.W
namespace DL
open PySem PySem.Spec PyProof.Rows L2 MT
section
variable {X : Cx}
def rSortT (K : PySem.W.Frag) : List V → Hp → VK → Prop := fun vs H Q => ∃ (l : Addr) (xs : List V) (ps : List PyData), vs = [.ref l] ∧ SqT K H l xs ∧ DpAll K H xs ps ∧ xs.length = ps.length ∧ PySem.W.AllAlike ps ∧ PySem.W.Sortable ps ∧ (∀ d ∈ ps, d.depth ≤ 20) ∧ xs.length ≤ 1000 ∧
  ∀ p, H p = none → Q (.ref p) (upd H p (.lst (((xs.zip ps).mergeSort (PySem.W.dataLe false Prod.snd)).map Prod.fst)))
theorem cr_sortT (hu : X.A.units + 64 < cLine) : CallR X (.builtin "sorted") (rSortT X.K) := by
  intro pins s σ H vs us Q I r h
  obtain ⟨l, xs, ps, rfl, hs, hd, hlen, hal, hk, hdp, hL, q⟩ := h
  obtain ⟨its, rv, hl, _⟩ := I.tuple hs
  rw [Vals.ref1 r]
  obtain ⟨as, ra⟩ := Dp.readsAll I _ xs its hd rv
  obtain ⟨e1, e2⟩ := each_zip rv ra
  have em : (xs.zip ps).map Prod.snd = ps := List.map_snd_zip (by omega)
  have ez : (xs.zip ps).length = xs.length := by rw [List.length_zip]; omega
  have z1 : xs.length ≤ sizeLine := by rw [sizeLine_eq]; omega
  obtain ⟨o, ho, hc, n, hdt⟩ := hl
  refine PySem.W.sorted_data_seq (vs := its) (bs := xs.zip ps) (enc := Prod.snd) (R := fun u b => RelV b.1 u) (.inr rfl) ho hc hdt e1 e2 (by rw [em]; exact hal) (by rw [em]; exact hk) (by rw [ez]; exact z1)
    (fun b hb => by have := hdp b.2 (by rw [← em]; exact List.mem_map.mpr ⟨b, hb, rfl⟩); omega) fun out h1 h' c ho hr k1 k2 hat => ?_
  have hl2 : (((xs.zip ps).mergeSort (PySem.W.dataLe false Prod.snd)).map Prod.fst).length ≤ sizeLine := by rw [List.length_map, List.length_mergeSort, ez]; exact z1
  have I1 : Inv X pins σ H { s with heap := h1 } := I.kept (t' := s.toks) k1
  exact ⟨.ref _, upd H h1.objs.size (.lst (((xs.zip ps).mergeSort (PySem.W.dataLe false Prod.snd)).map Prod.fst)), I1.laid (t' := s.toks) k2 (Nat.le_refl _) ⟨hl2, out, c, vals_each hr, hat⟩, rfl, q _ (I1.hok.fresh (Nat.le_refl _))⟩
end
def gSortT : G1 := fun x M Q => ∃ ds, x = .tup ds ∧ pus ds = true ∧ PySem.W.AllAlike (ds.map toPy) ∧ PySem.W.Sortable (ds.map toPy) ∧ (∀ d ∈ ds, (toPy d).depth ≤ 20) ∧ ds.length ≤ 1000 ∧ Q (.lst (ds.mergeSort leD)) M
theorem gSortT_mono : Mono1 gSortT := fun x M Q Q' w ⟨ds, a, b, c, d, e, f, q⟩ => ⟨ds, a, b, c, d, e, f, w _ _ q⟩
theorem o_sortT {X : Cx} (hu : X.A.units + 64 < cLine) : ON X (.builtin "sorted") (g1 gSortT) := ON.of1 (cr_sortT hu) gSortT_mono fun al F G H M x d Q W r q => by
  obtain ⟨ds, e, hp, hal, hk, hdp, hL, k⟩ := q
  subst e
  obtain ⟨l, xs, rfl, h1, rs⟩ : ∃ (l : Addr) (xs : List V), x = .ref l ∧ SqT X.K H l xs ∧ Rps X.K F al xs ds := by
    cases r with
    | tup a rs => exact ⟨_, _, rfl, Or.inl (W.sm.rd a), rs⟩
  have hxl := rps_len rs
  refine ⟨l, xs, ds.map toPy, rfl, h1, by rw [← toPys_map]; exact dps_of W.sm rs hp, by rw [List.length_map]; exact hxl, hal, hk, fun d hd => ?_, by omega, fun p hn => ?_⟩
  · obtain ⟨y, hy, rfl⟩ := List.mem_map.mp hd
    exact hdp y hy
  · have ez : xs.zip (ds.map toPy) = (xs.zip ds).map (fun q => (q.1, toPy q.2)) := by
      rw [List.zip_map_right]
      rfl
    have e1 : (xs.zip (ds.map toPy)).mergeSort (PySem.W.dataLe false Prod.snd) = ((xs.zip ds).mergeSort (fun a b => leD a.2 b.2)).map (fun q => (q.1, toPy q.2)) := by
      rw [ez]
      exact (List.map_mergeSort (r := fun a b : V × D => leD a.2 b.2) (s := PySem.W.dataLe false Prod.snd) (f := fun q : V × D => (q.1, toPy q.2)) (l := xs.zip ds) (fun a _ b _ => rfl)).symm
    have e2 : ds.mergeSort leD = ((xs.zip ds).mergeSort (fun a b => leD a.2 b.2)).map Prod.snd := by
      have e3 : (xs.zip ds).map Prod.snd = ds := List.map_snd_zip (by omega)
      conv => lhs; rw [← e3]
      exact (List.map_mergeSort (r := fun a b : V × D => leD a.2 b.2) (s := leD) (f := Prod.snd) (l := xs.zip ds) (fun a _ b _ => rfl)).symm
    rw [e1, List.map_map]
    rw [e2] at k
    exact kont.lst k W (rps_unzip fun q hq => rps_zip rs q (List.mem_mergeSort.mp hq)) hn
@[reducible] def dLstRgW (fa fb : DTE) : DTE := fun ρ M Q => fa ρ M fun d M1 => fb ρ M1 fun y M2 => match d, y with
  | .int i, .int j => (-1000000000 ≤ i ∧ i ≤ 1000000000 ∧ -1000000000 ≤ j ∧ j ≤ 1000000000 ∧ j - i ≤ 1000000) ∧ Q (.lst (rng i (j - i).toNat)) M2
  | _, _ => False
section
variable {X : Cx} {a b c : Expr} {fa fb : DTE} {fr : DTA} {ta : TA} {pos : Pos}
theorem d_listRgW {p p2 pos2 : Pos} (hg : Gl X "list") (hm : X.mg "list" = none) (hg2 : Gl X "range") (hm2 : X.mg "range" = none) (hc : X.calm = true) (h : DE X a fa) (h2 : DE X b fb) (na : starEach [a, b] X.env = (false, eval a X.env) :: starEach [b] X.env := by rfl) (nb : starEach [b] X.env = (false, eval b X.env) :: starEach [] X.env := by rfl) (hp : (backTo pos2 (starEach [b] X.env)).any (·.1) = false := by rfl)
    (na2 : starEach [.Call (.Name "range" p2) [a, b] [] pos2] X.env = (false, eval (.Call (.Name "range" p2) [a, b] [] pos2) X.env) :: starEach [] X.env := by rfl) : DE X (.Call (.Name "list" p) [.Call (.Name "range" p2) [a, b] [] pos2] [] pos) (dLstRgW fa fb) := by
  refine ⟨PE.of (pe_listRg hc hg hm (prg_2 hg2 hm2 h.pe h2.pe na nb hp) na2) fun σ H Q ⟨ρ, M, al, F, G, W, es, q⟩ => ?_, fun ρ M Q Q' w q => h.mono _ _ _ _ (fun d M1 q1 => h2.mono _ _ _ _ (fun y M2 q2 => ?_) q1) q⟩
  · refine h.seq W es q fun d M1 al1 F1 H1 v q1 e1 W1 r1 s1 => ?_
    refine h2.seq W1 s1 q1 fun y M2 al2 F2 H2 u q2 e2 W2 r2 s2 => ?_
    cases r1 <;> cases r2 <;> first | exact q2.elim | skip
    refine ⟨_, _, rfl, rfl, ⟨by have := q2.1; omega, by have := q2.1; omega, by have := q2.1; omega, by have := q2.1; omega, by have := q2.1; omega⟩, fun p hp => ?_⟩
    exact kont.lst (kont.ext q2.2 (e1.trans e2)) W2 (rg_rps2 _ _) hp
  · cases d <;> cases y <;> first | exact q2.elim | exact ⟨q2.1, w _ _ q2.2⟩
end
end DL
namespace Law
open PySem PySem.Spec PyProof.Rows L2 DL MT
local macro_rules | `(tactic| walk_at "go1") => `(tactic| ((repeat (first | (with_reducible conv => whnf); (simp only [lk_states, lk_tables, lk_notes, lk_standing, lk_watching, seqDs_lt, seqDs_tt, seqDs_tl, seqDs_ll, seqD_tup, seqD_lst, tyNm_non, tyNm_bl, tyNm_int, tyNm_str, tyNm_tup, tyNm_lst, tyNm_dct, tabInt_NoneType, tabInt_bool, tabInt_int, tabInt_str, tabInt_tuple, tabInt_list, tabInt_dict, tabBool_NoneType, tabBool_bool, tabBool_int, tabBool_str, tabBool_tuple, tabBool_list, tabBool_dict, tabTuple_NoneType, tabTuple_bool, tabTuple_int, tabTuple_str, tabTuple_tuple, tabTuple_list, tabTuple_dict, tabStr_NoneType, tabStr_bool, tabStr_int, tabStr_str, tabStr_tuple, tabStr_list, tabStr_dict, tabList_NoneType, tabList_bool, tabList_int, tabList_str, tabList_tuple, tabList_list, tabList_dict, vw_tup, vw_lst, vw_int, vw_str, vw_bl, vw_non, get_ga, get_gb, set_ga, set_gb, range_2, gTru, decide_true, len_snoc, get_newS, set_newS, List.getLast?_concat, rng_two, List.dropLast_concat, List.flatten_cons, List.flatten_nil, Bool.false_eq_true, reduceIte, Bool.not_true, Bool.not_false, get_new, get_new1, set_new, set_new1, atI_back, atI_back2, Int.zero_add, itemsOf_tup, itemsOf_lst, itemsOf_ref, seqOf_lst, seqOf_ref, lenOf_tup, lenOf_lst, lenOf_ref, List.getElem?_cons_zero, List.getElem?_cons_succ, List.set_cons_zero, List.set_cons_succ, List.cons_append, List.nil_append, List.length_cons, List.length_nil, List.length_map, List.length_append, Nat.zero_add, atI_0, atI_1, atI_2, atI_3, ixN_0, ixN_1, Option.bind_some, Option.map_some, Bool.xor_false, Bool.xor_true, startD, DL.isNon, List.map_cons, List.map_nil, List.replicate_succ, List.replicate_zero, List.append_nil, Nat.reduceAdd, Nat.reduceSub, Int.reduceToNat, Int.reducePow, Int.reduceNeg, Int.reduceSub, Int.reduceAdd, Int.reduceMul, wipeD]) | (with_reducible conv => whnf); (with_reducible refine And.intro ?side ?_); (case side => first | (with_reducible assumption) | (with_reducible rfl) | omega | decide | (exact ⟨by omega, by omega, by omega⟩) | (exact ⟨by omega, by omega⟩) | (unfold CMul; omega) | (exact ⟨_, get_new _ _⟩) | (exact ⟨_, get_new1 _ _ _⟩) | (exact ⟨_, get_newS _ _ _⟩) | (exact ⟨_, get_ga _ _ _ _⟩) | (exact ⟨_, get_gb _ _ _ _ _⟩) | (exact ⟨_, rfl⟩)))); (with_reducible conv => whnf)))
local macro_rules | `(tactic| walk_at "go4") => `(tactic| ((repeat (first | (simp only [dSeq, dAsg, dBin, dUn, dVar, dC, dNil, dCons, dApp, dTru, dBl, dAnd, dOr, dNot, dAndV, dOrV, dNotV, dIf, dIfS, dNext, dDrop, dRet, dRetN, dPar, dPar3, dgName, dgNil, dgCons, dgTup, dgSub, dTup, dLst, dLstM, dStar, dSl, dSlS, dNoPart, dPart, dMt, dMt0, stApp, stPop, dExt, diEnum, diEnum2, diEnumR, gMulA, dChain, dCall, dIsi, dYes, diSeq, diStr, dM1, dIsiC, gEqI, dgStar1L, dNeverE, dOrT, diR1, diR2, diR3, diZip, g1, g2I, gI0, gInt, gAdd, gMul, gMulM, gAddM, gNeg, gLen, lenOf, gTuple, gList, gAbs, gIx, gSl, gTru, gIsN, gInt1, gStrI, seqOf, itemsOf, spF, List.map_cons, List.map_nil, List.length_cons, List.length_nil, List.append_nil, List.cons_append, List.nil_append, List.getElem?_cons_zero, List.getElem?_cons_succ, List.set_cons_zero, List.set_cons_succ, Nat.reduceAdd, Nat.reduceSub, Option.bind_some, Option.map_some, Bool.xor_false, Bool.xor_true, dRevT, lk_states, lk_tables, lk_notes, lk_standing, lk_watching, seqDs_lt, seqDs_tt, seqDs_tl, seqDs_ll, seqD_tup, seqD_lst, tyNm_non, tyNm_bl, tyNm_int, tyNm_str, tyNm_tup, tyNm_lst, tyNm_dct, tabInt_NoneType, tabInt_bool, tabInt_int, tabInt_str, tabInt_tuple, tabInt_list, tabInt_dict, tabBool_NoneType, tabBool_bool, tabBool_int, tabBool_str, tabBool_tuple, tabBool_list, tabBool_dict, tabTuple_NoneType, tabTuple_bool, tabTuple_int, tabTuple_str, tabTuple_tuple, tabTuple_list, tabTuple_dict, tabStr_NoneType, tabStr_bool, tabStr_int, tabStr_str, tabStr_tuple, tabStr_list, tabStr_dict, tabList_NoneType, tabList_bool, tabList_int, tabList_str, tabList_tuple, tabList_list, tabList_dict, vw_tup, vw_lst, vw_int, vw_str, vw_bl, vw_non, get_ga, get_gb, set_ga, set_gb, range_2, decide_true, len_snoc, get_newS, set_newS, List.getLast?_concat, rng_two, List.dropLast_concat, Bool.false_eq_true, reduceIte, Bool.not_true, Bool.not_false, get_new, get_new1, set_new, set_new1, atI_back, atI_back2, Int.zero_add, itemsOf_tup, itemsOf_lst, itemsOf_ref, seqOf_lst, seqOf_ref, lenOf_tup, lenOf_lst, lenOf_ref, List.length_map, List.length_append, Nat.zero_add, atI_0, atI_1, atI_2, atI_3, ixN_0, ixN_1, DL.isNon, Int.reduceToNat, Int.reducePow, Int.reduceNeg, Int.reduceSub, Int.reduceAdd, Int.reduceMul]) | (with_reducible refine And.intro ?side ?_); (case side => first | (with_reducible assumption) | (with_reducible rfl) | omega | decide | (exact ⟨by omega, by omega, by omega⟩) | (exact ⟨by omega, by omega⟩) | (unfold CMul; omega) | (exact ⟨_, get_new _ _⟩) | (exact ⟨_, get_new1 _ _ _⟩) | (exact ⟨_, get_newS _ _ _⟩) | (exact ⟨_, get_ga _ _ _ _⟩) | (exact ⟨_, get_gb _ _ _ _ _⟩) | (exact ⟨_, rfl⟩))))))
local macro_rules | `(tactic| walk_at "go3") => `(tactic| ((repeat (first | (with_reducible conv => whnf); (simp only [lk_states, lk_tables, lk_notes, lk_standing, lk_watching, seqDs_lt, seqDs_tt, seqDs_tl, seqDs_ll, seqD_tup, seqD_lst, tyNm_non, tyNm_bl, tyNm_int, tyNm_str, tyNm_tup, tyNm_lst, tyNm_dct, tabInt_NoneType, tabInt_bool, tabInt_int, tabInt_str, tabInt_tuple, tabInt_list, tabInt_dict, tabBool_NoneType, tabBool_bool, tabBool_int, tabBool_str, tabBool_tuple, tabBool_list, tabBool_dict, tabTuple_NoneType, tabTuple_bool, tabTuple_int, tabTuple_str, tabTuple_tuple, tabTuple_list, tabTuple_dict, tabStr_NoneType, tabStr_bool, tabStr_int, tabStr_str, tabStr_tuple, tabStr_list, tabStr_dict, tabList_NoneType, tabList_bool, tabList_int, tabList_str, tabList_tuple, tabList_list, tabList_dict, vw_tup, vw_lst, vw_int, vw_str, vw_bl, vw_non, get_ga, get_gb, set_ga, set_gb, range_2, gTru, decide_true, len_snoc, get_newS, set_newS, List.getLast?_concat, rng_two, List.dropLast_concat, Bool.false_eq_true, reduceIte, Bool.not_true, Bool.not_false, get_new, get_new1, set_new, set_new1, atI_back, atI_back2, Int.zero_add, itemsOf_tup, itemsOf_lst, itemsOf_ref, seqOf_lst, seqOf_ref, lenOf_tup, lenOf_lst, lenOf_ref, List.getElem?_cons_zero, List.getElem?_cons_succ, List.set_cons_zero, List.set_cons_succ, List.cons_append, List.nil_append, List.length_cons, List.length_nil, List.length_map, List.length_append, Nat.zero_add, atI_0, atI_1, atI_2, atI_3, ixN_0, ixN_1, Option.bind_some, Option.map_some, Bool.xor_false, Bool.xor_true, startD, DL.isNon, List.map_cons, List.map_nil, List.append_nil, Nat.reduceAdd, Nat.reduceSub, Int.reduceToNat, Int.reducePow, Int.reduceNeg, Int.reduceSub, Int.reduceAdd, Int.reduceMul, wipeD]) | (with_reducible conv => whnf); (with_reducible refine And.intro ?side ?_); (case side => first | (with_reducible assumption) | (with_reducible rfl) | omega | decide | (exact ⟨by omega, by omega, by omega⟩) | (exact ⟨by omega, by omega⟩) | (unfold CMul; omega) | (exact ⟨_, get_new _ _⟩) | (exact ⟨_, get_new1 _ _ _⟩) | (exact ⟨_, get_newS _ _ _⟩) | (exact ⟨_, get_ga _ _ _ _⟩) | (exact ⟨_, get_gb _ _ _ _ _⟩) | (exact ⟨_, rfl⟩)))); (with_reducible conv => whnf)))
local macro_rules | `(tactic| walk_at "go2") => `(tactic| ((repeat (first | (with_reducible conv => whnf); (simp only [lk_states, lk_tables, lk_notes, lk_standing, lk_watching, seqDs_lt, seqDs_tt, seqDs_tl, seqDs_ll, seqD_tup, seqD_lst, tyNm_non, tyNm_bl, tyNm_int, tyNm_str, tyNm_tup, tyNm_lst, tyNm_dct, tabInt_NoneType, tabInt_bool, tabInt_int, tabInt_str, tabInt_tuple, tabInt_list, tabInt_dict, tabBool_NoneType, tabBool_bool, tabBool_int, tabBool_str, tabBool_tuple, tabBool_list, tabBool_dict, tabTuple_NoneType, tabTuple_bool, tabTuple_int, tabTuple_str, tabTuple_tuple, tabTuple_list, tabTuple_dict, tabStr_NoneType, tabStr_bool, tabStr_int, tabStr_str, tabStr_tuple, tabStr_list, tabStr_dict, tabList_NoneType, tabList_bool, tabList_int, tabList_str, tabList_tuple, tabList_list, tabList_dict, vw_tup, vw_lst, vw_int, vw_str, vw_bl, vw_non, get_ga, get_gb, set_ga, set_gb, range_2, gTru, decide_true, len_snoc, get_newS, set_newS, List.getLast?_concat, rng_two, List.dropLast_concat, List.flatten_cons, List.flatten_nil, Bool.false_eq_true, reduceIte, Bool.not_true, Bool.not_false, get_new, get_new1, set_new, set_new1, atI_back, atI_back2, Int.zero_add, itemsOf_tup, itemsOf_lst, itemsOf_ref, seqOf_lst, seqOf_ref, lenOf_tup, lenOf_lst, lenOf_ref, List.getElem?_cons_zero, List.getElem?_cons_succ, List.set_cons_zero, List.set_cons_succ, List.cons_append, List.nil_append, List.length_cons, List.length_nil, List.length_map, List.length_append, Nat.zero_add, atI_0, atI_1, atI_2, atI_3, ixN_0, ixN_1, Option.bind_some, Option.map_some, Bool.xor_false, Bool.xor_true, startD, DL.isNon, List.map_cons, List.map_nil, List.replicate_succ, List.replicate_zero, List.append_nil, Nat.reduceAdd, Nat.reduceSub, Int.reduceToNat, Int.reducePow, Int.reduceNeg, Int.reduceSub, Int.reduceAdd, Int.reduceMul, wipeD, get_dkA, get_dkB, get_dkC, set_dkA, set_dkB, set_dkC, intsOf_ints, eqv_tabs]) | (with_reducible conv => whnf); (with_reducible refine And.intro ?side ?_); (case side => first | (with_reducible assumption) | (with_reducible rfl) | omega | decide | (exact ⟨by omega, by omega, by omega⟩) | (exact ⟨by omega, by omega⟩) | (unfold CMul; omega) | (exact ⟨_, get_new _ _⟩) | (exact ⟨_, get_new1 _ _ _⟩) | (exact ⟨_, get_newS _ _ _⟩) | (exact ⟨_, get_ga _ _ _ _⟩) | (exact ⟨_, get_gb _ _ _ _ _⟩) | (exact ⟨_, get_dkA _ _ _ _ _⟩) | (exact ⟨_, get_dkB _ _ _ _ _ _⟩) | (exact ⟨_, get_dkC _ _ _ _ _ _ _⟩) | (exact ⟨_, rfl⟩)))); (with_reducible conv => whnf)))
theorem sc_is_number : FnScope ["value", "low", "high"] ["value", "low", "high"] (defScope s_is_number) := ⟨rfl, rfl, rfl, by decide +kernel, rfl, by decide +kernel, by decide +kernel⟩
theorem sc_is_mark : FnScope ["tree", "value"] ["tree", "value"] (defScope s_is_mark) := ⟨rfl, rfl, rfl, by decide +kernel, rfl, by decide +kernel, by decide +kernel⟩
theorem sc_marks_above : FnScope ["tree", "mark", "found"] ["tree", "mark"] (defScope s_marks_above) := ⟨rfl, rfl, rfl, by decide +kernel, rfl, by decide +kernel, by decide +kernel⟩
theorem sc_way_between : FnScope ["tree", "one", "other", "first", "last"] ["tree", "one", "other"] (defScope s_way_between) := ⟨rfl, rfl, rfl, by decide +kernel, rfl, by decide +kernel, by decide +kernel⟩
theorem sc_distance_between : FnScope ["tree", "one", "other", "way", "mark", "after"] ["tree", "one", "other"] (defScope s_distance_between) := ⟨rfl, rfl, rfl, by decide +kernel, rfl, by decide +kernel, by decide +kernel⟩
theorem sc_is_tick : FnScope ["value"] ["value"] (defScope s_is_tick) := ⟨rfl, rfl, rfl, by decide +kernel, rfl, by decide +kernel, by decide +kernel⟩
theorem sc_is_push : FnScope ["tree", "value"] ["tree", "value"] (defScope s_is_push) := ⟨rfl, rfl, rfl, by decide +kernel, rfl, by decide +kernel, by decide +kernel⟩
theorem sc_check_pushes : FnScope ["tree", "value", "index", "push"] ["tree", "value"] (defScope s_check_pushes) := ⟨rfl, rfl, rfl, by decide +kernel, rfl, by decide +kernel, by decide +kernel⟩
theorem sc_fall_at : FnScope ["tree", "pushes", "mark", "own", "tick"] ["tree", "pushes", "mark"] (defScope s_fall_at) := ⟨rfl, rfl, rfl, by decide +kernel, rfl, by decide +kernel, by decide +kernel⟩
theorem sc_falls_by : FnScope ["tree", "pushes", "mark"] ["tree", "pushes"] (defScope s_falls_by) := ⟨rfl, rfl, rfl, by decide +kernel, rfl, by decide +kernel, by decide +kernel⟩
theorem sc_falls_of : FnScope ["tree", "value"] ["tree", "value"] (defScope s_falls_of) := ⟨rfl, rfl, rfl, by decide +kernel, rfl, by decide +kernel, by decide +kernel⟩
theorem sc_neighbours_of : FnScope ["tree", "mark", "found", "below", "parent", "length"] ["tree", "mark"] (defScope s_neighbours_of) := ⟨rfl, rfl, rfl, by decide +kernel, rfl, by decide +kernel, by decide +kernel⟩
theorem sc_is_needed : FnScope ["tree", "table", "mark", "other", "length"] ["tree", "table", "mark"] (defScope s_is_needed) := ⟨rfl, rfl, rfl, by decide +kernel, rfl, by decide +kernel, by decide +kernel⟩
theorem sc_needed_pushes : FnScope ["tree", "table", "mark", "number"] ["tree", "table"] (defScope s_needed_pushes) := ⟨rfl, rfl, rfl, by decide +kernel, rfl, by decide +kernel, by decide +kernel⟩
theorem sc_are_apart : FnScope ["tree", "windows", "one", "other", "last"] ["tree", "windows", "one", "other"] (defScope s_are_apart) := ⟨rfl, rfl, rfl, by decide +kernel, rfl, by decide +kernel, by decide +kernel⟩
theorem sc_find_pair : FnScope ["tree", "windows", "marks", "one", "other"] ["tree", "windows"] (defScope s_find_pair) := ⟨rfl, rfl, rfl, by decide +kernel, rfl, by decide +kernel, by decide +kernel⟩
theorem sc_need_table : FnScope ["tree", "windows", "pair"] ["tree", "windows"] (defScope s_need_table) := ⟨rfl, rfl, rfl, by decide +kernel, rfl, by decide +kernel, by decide +kernel⟩
theorem sc_earliest : FnScope ["tree", "windows", "found", "mark", "own", "least", "last"] ["tree", "windows"] (defScope s_earliest) := ⟨rfl, rfl, rfl, by decide +kernel, rfl, by decide +kernel, by decide +kernel⟩
theorem sc_latest : FnScope ["tree", "windows", "lasts", "marks", "own", "least", "last", "mark"] ["tree", "windows"] (defScope s_latest) := ⟨rfl, rfl, rfl, by decide +kernel, rfl, by decide +kernel, by decide +kernel⟩
theorem sc_marks_of : FnScope ["tree"] ["tree"] (defScope s_marks_of) := ⟨rfl, rfl, rfl, by decide +kernel, rfl, by decide +kernel, by decide +kernel⟩
theorem sc_served_from : FnScope ["tree", "windows", "early", "mark", "last", "one"] ["tree", "windows", "early", "mark"] (defScope s_served_from) := ⟨rfl, rfl, rfl, by decide +kernel, rfl, by decide +kernel, by decide +kernel⟩
theorem sc_depths_of : FnScope ["tree", "found", "parent", "length"] ["tree"] (defScope s_depths_of) := ⟨rfl, rfl, rfl, by decide +kernel, rfl, by decide +kernel, by decide +kernel⟩
theorem sc_sweep_order : FnScope ["tree", "parts", "depths", "pairs", "mark", "part", "depth", "top", "one"] ["tree", "parts"] (defScope s_sweep_order) := ⟨rfl, rfl, rfl, by decide +kernel, rfl, by decide +kernel, by decide +kernel⟩
theorem sc_fewest_pushes : FnScope ["tree", "windows", "early", "parts", "mark", "pushed", "noted", "top", "one"] ["tree", "windows"] (defScope s_fewest_pushes) := ⟨rfl, rfl, rfl, by decide +kernel, rfl, by decide +kernel, by decide +kernel⟩
theorem sc_find_conflict : FnScope ["tree", "seen", "index", "one", "tick", "other", "later"] ["tree", "seen"] (defScope s_find_conflict) := ⟨rfl, rfl, rfl, by decide +kernel, rfl, by decide +kernel, by decide +kernel⟩
theorem sc_require_peace : FnScope ["tree", "seen", "pair"] ["tree", "seen"] (defScope s_require_peace) := ⟨rfl, rfl, rfl, by decide +kernel, rfl, by decide +kernel, by decide +kernel⟩
theorem sc_range_of : FnScope ["tree", "seen", "mark", "gaps", "low", "one", "tick", "gap"] ["tree", "seen", "mark"] (defScope s_range_of) := ⟨rfl, rfl, rfl, by decide +kernel, rfl, by decide +kernel, by decide +kernel⟩
theorem sc_ranges_of : FnScope ["tree", "seen", "mark"] ["tree", "seen"] (defScope s_ranges_of) := ⟨rfl, rfl, rfl, by decide +kernel, rfl, by decide +kernel, by decide +kernel⟩
theorem sc_fewest_behind : FnScope ["tree", "seen", "ticks", "windows", "mark"] ["tree", "seen"] (defScope s_fewest_behind) := ⟨rfl, rfl, rfl, by decide +kernel, rfl, by decide +kernel, by decide +kernel⟩
theorem sc__law_draws : FnScope ["_law_script", "_law_cells", "_law_cell"] ["_law_script"] (defScope s__law_draws) := ⟨rfl, rfl, rfl, by decide +kernel, rfl, by decide +kernel, by decide +kernel⟩
theorem sc__law_next : FnScope ["_law_drawn", "_law_many", "_law_cells", "_law_nth", "_law_rests", "_law_spot", "_law_digit", "_law_mixed", "_law_more"] ["_law_drawn", "_law_many"] (defScope s__law_next) := ⟨rfl, rfl, rfl, by decide +kernel, rfl, by decide +kernel, by decide +kernel⟩
theorem sc__law_tree : FnScope ["_law_drawn", "_law_most", "_law_long", "_law_many", "_law_way", "_law_found", "_law_k", "_law_parent"] ["_law_drawn", "_law_most", "_law_long"] (defScope s__law_tree) := ⟨rfl, rfl, rfl, by decide +kernel, rfl, by decide +kernel, by decide +kernel⟩
theorem sc__law_pushes : FnScope ["_law_drawn", "_law_tree_here", "_law_most", "_law_late", "_law_found", "_law_k"] ["_law_drawn", "_law_tree_here", "_law_most", "_law_late"] (defScope s__law_pushes) := ⟨rfl, rfl, rfl, by decide +kernel, rfl, by decide +kernel, by decide +kernel⟩
theorem sc__law_with : FnScope ["_law_seen", "_law_mark", "_law_tick"] ["_law_seen", "_law_mark", "_law_tick"] (defScope s__law_with) := ⟨rfl, rfl, rfl, by decide +kernel, rfl, by decide +kernel, by decide +kernel⟩
theorem sc__law_inside : FnScope ["_law_some", "_law_others", "_law_k"] ["_law_some", "_law_others"] (defScope s__law_inside) := ⟨rfl, rfl, rfl, by decide +kernel, rfl, by decide +kernel, by decide +kernel⟩
theorem sc__law_one_right : FnScope ["_law_tree_here", "_law_seen", "_law_ranges", "_law_mark", "_law_low", "_law_high", "_law_some", "_law_tick", "_law_more", "_law_found"] ["_law_tree_here", "_law_seen", "_law_ranges", "_law_mark"] (defScope s__law_one_right) := ⟨rfl, rfl, rfl, by decide +kernel, rfl, by decide +kernel, by decide +kernel⟩
theorem sc_law : FnScope ["_law_script", "_law_drawn", "_law_turn", "_law_tree_here", "_law_pushes_here", "_law_falls", "_law_marks", "_law_seen", "_law_mark", "_law_ranges", "_law_known", "_law_tick", "_law_ticks", "_law_windows", "_law_early", "_law_late", "_law_every", "_law_least", "_law_last"] ["_law_script"] (defScope s_law) := ⟨rfl, rfl, rfl, by decide +kernel, rfl, by decide +kernel, by decide +kernel⟩
theorem sci_NoTable : FnScope ["self", "pair"] ["self", "pair"] (defScope si_NoTable) := ⟨rfl, rfl, rfl, by decide +kernel, rfl, by decide +kernel, by decide +kernel⟩
theorem sci_Conflict : FnScope ["self", "pair"] ["self", "pair"] (defScope si_Conflict) := ⟨rfl, rfl, rfl, by decide +kernel, rfl, by decide +kernel, by decide +kernel⟩
structure Tp (K : PySem.W.Frag) (mg : Str → Option Value) : Prop where
  bn : Bn mg
  d_is_number : Df K mg "is_number" s_is_number
  d_is_mark : Df K mg "is_mark" s_is_mark
  d_marks_above : Df K mg "marks_above" s_marks_above
  d_way_between : Df K mg "way_between" s_way_between
  d_distance_between : Df K mg "distance_between" s_distance_between
  d_is_tick : Df K mg "is_tick" s_is_tick
  d_is_push : Df K mg "is_push" s_is_push
  d_check_pushes : Df K mg "check_pushes" s_check_pushes
  d_fall_at : Df K mg "fall_at" s_fall_at
  d_falls_by : Df K mg "falls_by" s_falls_by
  d_falls_of : Df K mg "falls_of" s_falls_of
  d_neighbours_of : Df K mg "neighbours_of" s_neighbours_of
  d_is_needed : Df K mg "is_needed" s_is_needed
  d_needed_pushes : Df K mg "needed_pushes" s_needed_pushes
  d_are_apart : Df K mg "are_apart" s_are_apart
  d_find_pair : Df K mg "find_pair" s_find_pair
  d_need_table : Df K mg "need_table" s_need_table
  d_earliest : Df K mg "earliest" s_earliest
  d_latest : Df K mg "latest" s_latest
  d_marks_of : Df K mg "marks_of" s_marks_of
  d_served_from : Df K mg "served_from" s_served_from
  d_depths_of : Df K mg "depths_of" s_depths_of
  d_sweep_order : Df K mg "sweep_order" s_sweep_order
  d_fewest_pushes : Df K mg "fewest_pushes" s_fewest_pushes
  d_find_conflict : Df K mg "find_conflict" s_find_conflict
  d_require_peace : Df K mg "require_peace" s_require_peace
  d_range_of : Df K mg "range_of" s_range_of
  d_ranges_of : Df K mg "ranges_of" s_ranges_of
  d_fewest_behind : Df K mg "fewest_behind" s_fewest_behind
  d__law_draws : Df K mg "_law_draws" s__law_draws
  d__law_next : Df K mg "_law_next" s__law_next
  d__law_tree : Df K mg "_law_tree" s__law_tree
  d__law_pushes : Df K mg "_law_pushes" s__law_pushes
  d__law_with : Df K mg "_law_with" s__law_with
  d__law_inside : Df K mg "_law_inside" s__law_inside
  d__law_one_right : Df K mg "_law_one_right" s__law_one_right
  d_law : Df K mg "law" s_law
  k_MAX_PUSHES : ∃ t, mg "MAX_PUSHES" = some (.int 20 t)
  k_MAX_TICK : ∃ t, mg "MAX_TICK" = some (.int 1000000000 t)
  g_NoTable : mg "NoTable" = some (.ref (cls mg "NoTable"))
  g_FallError : mg "FallError" = some (.ref (cls mg "FallError"))
  g_Conflict : mg "Conflict" = some (.ref (cls mg "Conflict"))
  f_NoTable : EcF K (cls mg "NoTable") "pair"
  i_NoTable : ExI K (cls mg "NoTable")
  f_Conflict : EcF K (cls mg "Conflict") "pair"
  i_Conflict : ExI K (cls mg "Conflict")
section
variable {P : Program} {w : World} {K : PySem.W.Frag} {mg : Str → Option Value} {base : Heap}
def dkC (cs : List Int) (n : Int) (rs : List Int) : Sto := [.lst (rs.map D.int), .lst [.lst (cs.map D.int), .int n, .ref 0]]
def GoodC (b : Nat) (cs : List Int) (n : Int) (rs : List Int) : Prop := 1 ≤ cs.length ∧ cs.length ≤ 63 ∧ rs.length = cs.length ∧ 0 ≤ n ∧ n + b ≤ 1000000
theorem GoodC.le {b b' : Nat} {cs : List Int} {n : Int} {rs : List Int} (g : GoodC b cs n rs) (h : b' ≤ b) : GoodC b' cs n rs := ⟨g.1, g.2.1, g.2.2.1, g.2.2.2.1, by have := g.2.2.2.2; omega⟩
def spDraws : DSp := fun args M Q _ => ∃ ns : List Int, args = [.scr ns] ∧ M = [] ∧ ns.length ≤ 63 ∧ ∀ cs rs, GoodC 1000000 cs 0 rs → Q (.ref 1) (dkC cs 0 rs)
def restF : D → D
  | .int i => .int (i * (if decide (1000000000000000000 ≤ i) = true then 1 else 0))
  | d => d
theorem rest_eq (cs : List Int) : (cs.map D.int).map restF = (cs.map fun i => i * (if decide (1000000000000000000 ≤ i) = true then 1 else 0)).map D.int := by
  rw [List.map_map, List.map_map]
  rfl
theorem c__law_draws (T : Tp K mg) : Cl P w K mg base "_law_draws" (0 + 1) ["_law_script"] spDraws := by
  obtain ⟨f, fd, F, hm⟩ := T.d__law_draws.ex
  have S := sc__law_draws
  have B := T.bn
  refine ⟨⟨f, fd, fnD F S (fun args M Q E h => by (repeat (obtain ⟨_, h⟩ := h)); subst_vars; rfl) (fun cdv A outer s H E hgd hr => ⟨_, (ds_cons (dss 1 S.nd (d_op o_add (d_callTy o_list (by rfl) B.list b_list (d_cons (d_slice (dv 0) do_none (do_some d_int)) d_nil)) (d_op o_mulA (d_lst (d_cons d_int d_nil)) (d_callTy o_int1 (by rfl) B.int b_int (d_cons (d_cmp (o_eq hr.units) (d_callB o_len (by rfl) B.len b_len (d_cons (dv 0) d_nil)) d_int) d_nil)))))
  (ds_one (ds_ret (d_lstM (d_cons (dv 1) (d_cons d_int (d_cons (d_lcMI (own := [("_law_cell", 2)]) rfl S.nd (di_seq (dv 1)) (blkOk_by (N := ["_law_script", "_law_cells", "_law_cell"]) (sc := defScope s__law_draws) (by decide +kernel)) (by decide) (fun _ _ _ _ _ => (dgn 2 S.nd)) (fun _ _ _ _ _ => dts_nil) (fun _ _ _ _ _ => (d_op o_mulA (dv 2) (d_callTy o_int1 (by rfl) B.int b_int (d_cons (d_cmp o_ge (dv 2) (d_op o_pow d_int d_int)) d_nil))))) d_nil))))))), fun args M Q E' hM hA h => ?_⟩), hm, F.kp, (F.binds (ps := ["_law_script"]) fun _ _ _ _ _ _ us hl => match us, hl with | [_], _ => rfl)⟩, ?_⟩
  rotate_left
  · exact fun args M Q Q' E E' w _ ⟨x0, x1, x2, x3, k⟩ => ⟨x0, x1, x2, x3, fun y0 y1 y2 => w _ _ (k y0 y1 y2)⟩
  · obtain ⟨ns, rfl, rfl, hl, k⟩ := h
    have hcl := cut_len ns none (some 63)
    have main : ∀ cs : List Int, 1 ≤ cs.length → cs.length ≤ 63 → See 0 Q (.ref 1) (dkC cs 0 (cs.map fun i => i * (if decide (1000000000000000000 ≤ i) = true then 1 else 0))) := fun cs h1 h2 => See.keep (k cs _ ⟨h1, h2, by rw [List.length_map], by omega, by omega⟩)
    have step : ∀ i : Int, CMul i (if decide (1000000000000000000 ≤ i) = true then 1 else 0) := fun i => by
      unfold CMul
      split <;> omega
    walk_at "go1"
    rw [show lenOf (D.scr ns) [] = some ns.length from rfl]
    walk_at "go1"
    by_cases h0 : ns = []
    · subst h0
      have e0 : cut (List.map D.int []) none (some 63) = [] := rfl
      rw [e0]
      simp only [List.length_nil, decide_true, if_true, Int.natCast_zero]
      walk_at "go1"
      refine lc_map restF trivial (by simp) (fun d hd kk hk => ?_) ?_
      · have hd : d = .int 0 := by simpa using hd
        subst hd
        walk_at "go1"
        exact hk
      · walk_at "go1"
        exact main [0] (by decide) (by decide)
    · have h1 : ¬ ((ns.length : Nat) : Int) = 0 := fun z => h0 (List.eq_nil_of_length_eq_zero (by omega))
      have h2 : 0 < ns.length := List.length_pos_iff.mpr h0
      rw [decide_eq_false h1]
      simp only [Bool.false_eq_true, if_false]
      walk_at "go1"
      rw [cut_map]
      have e63 : cut ns none (some 63) = ns := by
        unfold cut
        rw [HT.sIx_none, show HT.sIx ns.length ns.length (some 63) = min 63 ns.length from HT.sIx_nat ns.length _ 63, List.drop_zero]
        exact List.take_of_length_le (by omega)
      rw [e63]
      walk_at "go1"
      refine lc_map (ds := ns.map D.int) restF trivial (by rw [List.length_map]; omega) (fun d hd kk hk => ?_) ?_
      · obtain ⟨i, hi, rfl⟩ := List.mem_map.mp hd
        walk_at "go1"
        exact hk
      · walk_at "go1"
        rw [rest_eq]
        exact main ns h2 hl
def spNext : DSp := fun args M Q _ => ∃ (cs : List Int) (n : Int) (rs : List Int) (R : Sto) (lim : Int) (b : Nat), args = [.ref 1, .int lim] ∧ M = dkC cs n rs ++ R ∧ GoodC (b + 1) cs n rs ∧ 0 < lim ∧ lim < 1073741824 ∧ ∀ r n' rs', 0 ≤ r → r < lim → GoodC b cs n' rs' → Q (.int r) (dkC cs n' rs' ++ R)
theorem c__law_next (T : Tp K mg) : Cl P w K mg base "_law_next" (0 + 1) ["_law_drawn", "_law_many"] spNext := by
  obtain ⟨f, fd, F, hm⟩ := T.d__law_next.ex
  have S := sc__law_next
  have B := T.bn
  refine ⟨⟨f, fd, fnD F S (fun args M Q E h => by (repeat (obtain ⟨_, h⟩ := h)); subst_vars; rfl) (fun cdv A outer s H E hgd hr => ⟨_, (ds_cons (ds_asg (dv 0) (dg_tupL (n := 3) rfl (dgs_cons (dgn 2 S.nd) (dgs_cons (dgn 3 S.nd) (dgs_cons (dgn 4 S.nd) dgs_nil)))))
  (ds_cons (dss 5 S.nd (d_op o_mod (dv 3) (d_callB o_len (by rfl) B.len b_len (d_cons (dv 2) d_nil))))
  (ds_cons (ds_asg (d_op o_add (dv 3) d_int) (dg_sub (dv 0) d_int))
  (ds_cons (ds_if (dt_cmp o_gt (d_ix (dv 4) (dv 5) (fun _ _ => rfl)) d_int) (ds_cons (dss 6 S.nd (d_op o_mod (d_ix (dv 4) (dv 5) (fun _ _ => rfl)) (dv 1)))
  (ds_cons (ds_asg (d_op o_fdiv (d_ix (dv 4) (dv 5) (fun _ _ => rfl)) (dv 1)) (dg_sub (dv 4) (dv 5)))
  (ds_one (ds_ret (dv 6))))) ds_nil)
  (ds_cons (dss 7 S.nd (d_op o_mod (d_op o_pow (d_op o_add (d_op o_add (d_op o_mod (d_ix (dv 2) (dv 5) (fun _ _ => rfl)) d_int) (d_op o_mulA d_int (dv 3))) d_int) d_int) d_int))
  (ds_cons (dss 8 S.nd (d_op o_mod (d_op o_pow (d_op o_add (d_op o_add (dv 7) (d_op o_mulA (d_op o_mulA d_int (dv 3)) (dv 3))) d_int) d_int) d_int))
  (ds_one (ds_ret (d_op o_mod (d_op o_mod (d_op o_add (d_op o_mulA (dv 8) d_int) (dv 7)) d_int) (dv 1)))))))))), fun args M Q E' hM hA h => ?_⟩), hm, F.kp, (F.binds (ps := ["_law_drawn", "_law_many"]) fun _ _ _ _ _ _ us hl => match us, hl with | [_, _], _ => rfl)⟩, ?_⟩
  rotate_left
  · exact fun args M Q Q' E E' w _ ⟨x0, x1, x2, x3, x4, x5, x6, x7, x8, x9, x10, k⟩ => ⟨x0, x1, x2, x3, x4, x5, x6, x7, x8, x9, x10, fun y0 y1 y2 y3 y4 y5 => w _ _ (k y0 y1 y2 y3 y4 y5)⟩
  · obtain ⟨cs, n, rs, R, lim, b, rfl, rfl, ⟨g0, g1, g2, g3, g4⟩, l0, l1, k⟩ := h
    have i0 : 0 ≤ n % (cs.length : Int) := Int.emod_nonneg _ (by omega)
    have i1 : n % (cs.length : Int) < cs.length := Int.emod_lt_of_pos _ (by omega)
    have fin : ∀ (c : Int) (rs' : List Int), rs'.length = cs.length → 0 ≤ c → c < lim → See (R.length + 1 + 1) Q (.int c) (Cell.lst (List.map D.int rs') :: Cell.lst [.lst (cs.map D.int), D.int (n + 1), D.ref 0] :: R) := fun c rs' hr h0 h1 => See.keep (k c (n + 1) rs' h0 h1 ⟨g0, g1, hr, by omega, by omega⟩)
    obtain ⟨c, hc, _, ec⟩ := atI_ints (ns := cs) i0 i1
    obtain ⟨r, hr, _, er⟩ := atI_ints (ns := rs) i0 (by omega)
    have hnn : 0 ≤ 6007 * n * n ∧ 6007 * n * n ≤ 6007000000000000 := by
      have h1 : n ≤ 1000000 := by omega
      have h2 : n * n ≤ 1000000 * 1000000 := Int.mul_le_mul h1 h1 g3 (by decide)
      have h3 : 0 ≤ n * n := Int.mul_nonneg g3 g3
      rw [Int.mul_assoc]
      omega
    unfold dkC
    walk_at "go1"
    rw [er]
    walk_at "go1"
    refine ite_dec (fun h2 => ?_) (fun h2 => ?_)
    · walk_at "go1"
      rw [er]
      walk_at "go1"
      rw [er]
      walk_at "go1"
      rw [ixN_of i0 (by omega)]
      walk_at "go1"
      rw [← List.map_set]
      exact fin _ _ (by rw [List.length_set]; exact g2) (Int.emod_nonneg _ (by omega)) (Int.emod_lt_of_pos _ l0)
    · walk_at "go1"
      rw [ec]
      walk_at "go1"
      exact fin _ rs g2 (Int.emod_nonneg _ (by omega)) (Int.emod_lt_of_pos _ l0)
theorem dkC_len (cs : List Int) (n : Int) (rs : List Int) (R : Sto) : (dkC cs n rs ++ R).length = R.length + 2 := by unfold dkC; simp
theorem getCC (cs : List Int) (n : Int) (rs : List Int) (R : Sto) (c : Cell) : (dkC cs n rs ++ (R ++ [c]))[R.length + 2]? = some c := by
  have := get_new (dkC cs n rs ++ R) c
  rw [dkC_len, List.append_assoc] at this
  exact this
theorem setCC (cs : List Int) (n : Int) (rs : List Int) (R : Sto) (c d : Cell) : (dkC cs n rs ++ (R ++ [c])).set (R.length + 2) d = dkC cs n rs ++ (R ++ [d]) := by
  have := set_new (dkC cs n rs ++ R) c d
  rw [dkC_len, List.append_assoc, List.append_assoc] at this
  exact this
theorem dkC_bel {m : Nat} {cs : List Int} {n n' : Int} {rs rs' : List Int} {R : Sto} (h : stoBel m (dkC cs n rs ++ R)) : stoBel m (dkC cs n' rs' ++ R) := fun c hc => by
  rcases List.mem_append.mp hc with z | z
  · have h2 := h _ (List.mem_append_left _ (show Cell.lst [.lst (cs.map D.int), .int n, .ref 0] ∈ dkC cs n rs by unfold dkC; simp))
    unfold dkC at z
    have z : c = .lst (rs'.map D.int) ∨ c = .lst [.lst (cs.map D.int), .int n', .ref 0] := by simpa using z
    rcases z with rfl | rfl
    · exact bels_int _ _
    · exact h2
  · exact h c (List.mem_append_right _ z)
theorem rows_bel (n : Nat) (t : List (Nat × Nat)) : bels n (t.map rowD) = true := bels_of fun d hd => by
  obtain ⟨p, _, rfl⟩ := List.mem_map.mp hd
  rfl
def spTree : DSp := fun args M Q _ => ∃ (cs : List Int) (n : Int) (rs : List Int) (R : Sto) (most long : Nat) (b : Nat), args = [.ref 1, .int most, .int long] ∧ M = dkC cs n rs ++ R ∧ GoodC (b + 60) cs n rs ∧ 1 ≤ most ∧ most ≤ 12 ∧ 1 ≤ long ∧ long ≤ 1000000 ∧ ∀ (t : Tr) n' rs', TreeOk t → (∀ p ∈ t, p.2 ≤ long) → t.length < most → GoodC b cs n' rs' → Q (treeD t) (dkC cs n' rs' ++ R)
def invTree (cs : List Int) (most long : Nat) (m : Nat) (way : Int) (b : Nat) (R : Sto) : List D → List D → Dn → Sto → Prop := fun done todo ρ M => done ++ todo = rng 0 m ∧ ∃ (t : Tr) (n : Int) (rs : List Int) (x6 x7 : Option D), ρ = ⟨[some (.ref 1), some (.int most), some (.int long), some (.int (m : Nat)), some (.int way), some (.ref (R.length + 2)), x6, x7], noX⟩ ∧ M = dkC cs n rs ++ (R ++ [.lst (t.map rowD)]) ∧ TreeOk t ∧ (∀ p ∈ t, p.2 ≤ long) ∧ t.length = done.length ∧ GoodC (b + 4 * todo.length) cs n rs
theorem c__law_tree (T : Tp K mg) : Cl P w K mg base "_law_tree" (1 + 1) ["_law_drawn", "_law_most", "_law_long"] spTree := by
  obtain ⟨f, fd, F, hm⟩ := T.d__law_tree.ex
  have S := sc__law_tree
  have B := T.bn
  have c__law_next := @c__law_next P w K mg base T
  refine ⟨⟨f, fd, fnD F S (fun args M Q E h => by (repeat (obtain ⟨_, h⟩ := h)); subst_vars; rfl) (fun cdv A outer s H E hgd hr => ⟨_, (ds_cons (dsp3 3 4 5 S.nd (d_cons (d_cl c__law_next hgd (hr.mono (by first | decide | omega)) (d_cons (dv 0) (d_cons (dv 1) d_nil))) (d_cons (d_cl c__law_next hgd (hr.mono (by first | decide | omega)) (d_cons (dv 0) (d_cons d_int d_nil))) (d_cons (d_lstM d_nil) d_nil))))
  (ds_cons (ds_forI (passes_of rfl) rfl (di_range1 (by rfl) B.range (d_cons (dv 3) d_nil)) (dgn 6 S.nd) (ds_cons (dss 7 S.nd (d_ix (d_lst (d_cons (d_cl c__law_next hgd (hr.mono (by first | decide | omega)) (d_cons (dv 0) (d_cons (d_op o_add (dv 6) d_int) d_nil))) (d_cons (dv 6) (d_cons d_int (d_cons (d_callB (o_max2 rfl) (by rfl) B.max b_max (d_cons d_int (d_cons (d_op o_sub (d_op o_sub (dv 6) d_int) (d_cl c__law_next hgd (hr.mono (by first | decide | omega)) (d_cons (dv 0) (d_cons d_int d_nil)))) d_nil))) d_nil))))) (dv 4) (fun _ _ => rfl)))
  (ds_one (ds_expr (d_append (dv 5) (d_cons (d_tup (d_cons (dv 7) (d_cons (d_op o_add d_int (d_cl c__law_next hgd (hr.mono (by first | decide | omega)) (d_cons (dv 0) (d_cons (d_ix (d_lst (d_cons (dv 2) (d_cons (d_callB (o_min2 rfl) (by rfl) B.min b_min (d_cons (dv 2) (d_cons d_int d_nil))) d_nil))) (d_cl c__law_next hgd (hr.mono (by first | decide | omega)) (d_cons (dv 0) (d_cons d_int d_nil))) (fun _ _ => rfl)) d_nil)))) d_nil))) d_nil))))))
  (ds_one (ds_ret (d_callTy o_tuple (by rfl) B.tuple b_tuple (d_cons (dv 5) d_nil)))))), fun args M Q E' hM hA h => ?_⟩), hm, F.kp, (F.binds (ps := ["_law_drawn", "_law_most", "_law_long"]) fun _ _ _ _ _ _ us hl => match us, hl with | [_, _, _], _ => rfl)⟩, ?_⟩
  rotate_left
  · exact fun args M Q Q' E E' w _ ⟨x0, x1, x2, x3, x4, x5, x6, x7, x8, x9, x10, x11, x12, x13, k⟩ => ⟨x0, x1, x2, x3, x4, x5, x6, x7, x8, x9, x10, x11, x12, x13, fun y0 y1 y2 y3 y4 y5 y6 => w _ _ (k y0 y1 y2 y3 y4 y5 y6)⟩
  · obtain ⟨cs, n, rs, R, most, long, b, rfl, rfl, g, m1, m2, l1, l2, k⟩ := h
    walk_at "go1"
    refine ⟨cs, n, rs, R, most, b + 59, rfl, rfl, g, by omega, by omega, fun r1 n1 rs1 a0 a1 g1 => ?_⟩
    obtain ⟨r1, rfl⟩ := Int.eq_ofNat_of_zero_le a0
    walk_at "go1"
    refine ⟨cs, n1, rs1, R, 4, b + 58, rfl, rfl, g1, by omega, by omega, fun way n2 rs2 b0 b1 g2 => ?_⟩
    walk_at "go1"
    rw [List.append_assoc]
    refine ⟨invTree cs most long r1 way b R, ⟨?_, [], n2, rs2, none, none, ?_, rfl, ⟨by simp, fun k p e => by simp at e⟩, by simp, rfl, g2.le ?_⟩, fun _ _ _ _ _ => trivial, ?_, ?_⟩
    · rfl
    · simp only [dkC, List.length_cons, List.length_nil, Nat.zero_add, Nat.add_comm]
    · rw [rng_length]
      omega
    · rintro done d todo ρ M ⟨e, t, n3, rs3, x6, x7, rfl, rfl, ht, hlg, hl, hg⟩
      obtain ⟨rfl, hlt⟩ := rng_mid e
      rw [List.length_cons] at hg
      walk_at "go1"
      refine ⟨cs, n3, rs3, _, _, b + 4 * todo.length + 3, rfl, rfl, hg, by omega, by omega, fun r5 n4 rs4 e0 e1 g5 => ?_⟩
      walk_at "go1"
      refine ⟨cs, n4, rs4, _, _, b + 4 * todo.length + 2, rfl, rfl, g5, by omega, by omega, fun r6 n5 rs5 f0 f1 g6 => ?_⟩
      walk_at "go1"
      have hp : ∃ p : Nat, p ≤ done.length ∧ atI [D.int r5, D.int (done.length : Int), D.int 0, D.int (if (done.length : Int) - 1 - r6 > 0 then (done.length : Int) - 1 - r6 else 0)] way = some (.int p) := by
        have : way = 0 ∨ way = 1 ∨ way = 2 ∨ way = 3 := by omega
        rcases this with rfl | rfl | rfl | rfl
        · obtain ⟨r, rfl⟩ := Int.eq_ofNat_of_zero_le e0
          exact ⟨r, by omega, atI_0 _ _⟩
        · exact ⟨done.length, Nat.le_refl _, atI_1 _ _ _⟩
        · exact ⟨0, Nat.zero_le _, atI_2 _ _ _ _⟩
        · refine ⟨((done.length : Int) - 1 - r6).toNat, by omega, ?_⟩
          rw [atI_3]
          congr 2
          split <;> omega
      obtain ⟨p, p1, e2⟩ := hp
      rw [e2]
      walk_at "go1"
      refine ⟨cs, n5, rs5, _, 2, b + 4 * todo.length + 1, rfl, rfl, g6, by omega, by omega, fun r7 n6 rs6 h0 h1 g7 => ?_⟩
      walk_at "go1"
      have hlg2 : ∃ l : Nat, 1 ≤ l ∧ l ≤ long ∧ atI [D.int (long : Int), D.int (if (3 : Int) < (long : Int) then 3 else (long : Int))] r7 = some (.int l) := by
        have : r7 = 0 ∨ r7 = 1 := by omega
        rcases this with rfl | rfl
        · exact ⟨long, l1, Nat.le_refl _, atI_0 _ _⟩
        · refine ⟨min long 3, by omega, by omega, ?_⟩
          rw [atI_1]
          congr 2
          split <;> omega
      obtain ⟨lg, q1, q2, e3⟩ := hlg2
      rw [e3]
      walk_at "go1"
      refine ⟨cs, n6, rs6, _, lg, b + 4 * todo.length, rfl, rfl, g7, by omega, by omega, fun r8 n7 rs7 j0 j1 g8 => ?_⟩
      obtain ⟨r8, rfl⟩ := Int.eq_ofNat_of_zero_le j0
      walk_at "go1"
      rw [getCC]
      walk_at "go1"
      rw [setCC]
      refine ⟨by rw [← e]; simp, t ++ [(p, 1 + r8)], n7, rs7, _, _, rfl, ?_, tree_snoc ht (by omega) (by omega) (by omega) (by omega), fun q hq => by
        rcases List.mem_append.mp hq with z | z
        · exact hlg q z
        · rw [List.mem_singleton.mp z]
          show 1 + r8 ≤ long
          omega, by simp [hl], g8⟩
      simp [rowD]
    · rintro done ρ M ⟨e, t, n3, rs3, x6, x7, rfl, rfl, ht, hlg, hl, hg⟩
      rw [List.append_nil] at e
      have hd := congrArg List.length e
      rw [rng_length] at hd
      walk_at "go1"
      rw [getCC]
      walk_at "go1"
      rw [← List.append_assoc, ← List.length_append]
      exact See.drop' (dkC cs n3 rs3 ++ R) (by rw [dkC_len, dkC_len]) (rows_bel _ _) (dkC_bel hM) (k t n3 rs3 ht hlg (by omega) (hg.le (by omega)))
def PushC (t : Tr) (hi : Int) (p : Nat × Int) : Prop := p.1 ≤ t.length ∧ 0 ≤ p.2 ∧ p.2 ≤ hi
theorem push_bel (n : Nat) (ps : List (Nat × Int)) : bels n (ps.map pushD) = true := bels_of fun d hd => by
  obtain ⟨p, _, rfl⟩ := List.mem_map.mp hd
  rfl
def spPushes : DSp := fun args M Q _ => ∃ (cs : List Int) (n : Int) (rs : List Int) (R : Sto) (t : Tr) (most late b : Nat), args = [.ref 1, treeD t, .int most, .int late] ∧ M = dkC cs n rs ++ R ∧ GoodC (b + 40) cs n rs ∧ TreeOk t ∧ 1 ≤ most ∧ most ≤ 18 ∧ late ≤ 1000000000 ∧ ∀ (ps : List (Nat × Int)) n' rs', ps ≠ [] → ps.length ≤ 18 → (∀ p ∈ ps, PushC t late p) → GoodC b cs n' rs' → Q (.tup (ps.map pushD)) (dkC cs n' rs' ++ R)
def invPushes (cs : List Int) (t : Tr) (most late m b : Nat) (R : Sto) : List D → List D → Dn → Sto → Prop := fun done todo ρ M => done ++ todo = rng 0 m ∧ ∃ (ps : List (Nat × Int)) (n : Int) (rs : List Int) (x5 : Option D), ρ = ⟨[some (.ref 1), some (treeD t), some (.int most), some (.int late), some (.ref (R.length + 2)), x5], noX⟩ ∧ M = dkC cs n rs ++ (R ++ [.lst (ps.map pushD)]) ∧ ps.length = done.length ∧ (∀ p ∈ ps, PushC t late p) ∧ GoodC (b + 2 * todo.length) cs n rs
theorem c__law_pushes (T : Tp K mg) : Cl P w K mg base "_law_pushes" (1 + 1) ["_law_drawn", "_law_tree_here", "_law_most", "_law_late"] spPushes := by
  obtain ⟨f, fd, F, hm⟩ := T.d__law_pushes.ex
  have S := sc__law_pushes
  have B := T.bn
  have c__law_next := @c__law_next P w K mg base T
  refine ⟨⟨f, fd, fnD F S (fun args M Q E h => by (repeat (obtain ⟨_, h⟩ := h)); subst_vars; rfl) (fun cdv A outer s H E hgd hr => ⟨_, (ds_cons (dss 4 S.nd (d_lstM d_nil))
  (ds_cons (ds_forI (passes_of rfl) rfl (di_range1 (by rfl) B.range (d_cons (d_op o_add d_int (d_cl c__law_next hgd (hr.mono (by first | decide | omega)) (d_cons (dv 0) (d_cons (dv 2) d_nil)))) d_nil)) (dgn 5 S.nd) (ds_one (ds_expr (d_append (dv 4) (d_cons (d_tup (d_cons (d_cl c__law_next hgd (hr.mono (by first | decide | omega)) (d_cons (dv 0) (d_cons (d_op o_add (d_callB o_len (by rfl) B.len b_len (d_cons (dv 1) d_nil)) d_int) d_nil))) (d_cons (d_cl c__law_next hgd (hr.mono (by first | decide | omega)) (d_cons (dv 0) (d_cons (d_op o_add (dv 3) d_int) d_nil))) d_nil))) d_nil)))))
  (ds_one (ds_ret (d_callTy o_tuple (by rfl) B.tuple b_tuple (d_cons (dv 4) d_nil)))))), fun args M Q E' hM hA h => ?_⟩), hm, F.kp, (F.binds (ps := ["_law_drawn", "_law_tree_here", "_law_most", "_law_late"]) fun _ _ _ _ _ _ us hl => match us, hl with | [_, _, _, _], _ => rfl)⟩, ?_⟩
  rotate_left
  · exact fun args M Q Q' E E' w _ ⟨x0, x1, x2, x3, x4, x5, x6, x7, x8, x9, x10, x11, x12, x13, x14, k⟩ => ⟨x0, x1, x2, x3, x4, x5, x6, x7, x8, x9, x10, x11, x12, x13, x14, fun y0 y1 y2 y3 y4 y5 y6 => w _ _ (k y0 y1 y2 y3 y4 y5 y6)⟩
  · obtain ⟨cs, n, rs, R, t, most, late, b, rfl, rfl, g, ht, m1, m2, hlate, k⟩ := h
    have ht1 := ht.1
    walk_at "go1"
    rw [List.append_assoc]
    refine ⟨cs, n, rs, _, most, b + 39, rfl, rfl, g, by omega, by omega, fun r1 n1 rs1 a0 a1 g1 => ?_⟩
    obtain ⟨r1, rfl⟩ := Int.eq_ofNat_of_zero_le a0
    walk_at "go1"
    rw [show (1 + (r1 : Int)).toNat = 1 + r1 by omega]
    refine ⟨invPushes cs t most late (1 + r1) b R, ⟨rfl, [], n1, rs1, none, ?_, rfl, rfl, by simp, g1.le ?_⟩, fun _ _ _ _ _ => trivial, ?_, ?_⟩
    · simp only [dkC, List.length_cons, List.length_nil, Nat.zero_add, Nat.add_comm]
    · rw [rng_length]
      omega
    · rintro done d todo ρ M ⟨e, ps, n3, rs3, x5, rfl, rfl, hl, hp, hg⟩
      obtain ⟨rfl, hlt⟩ := rng_mid e
      rw [List.length_cons] at hg
      walk_at "go1"
      refine ⟨cs, n3, rs3, _, _, b + 2 * todo.length + 1, rfl, rfl, hg, by omega, by omega, fun r5 n4 rs4 e0 e1 g5 => ?_⟩
      obtain ⟨r5, rfl⟩ := Int.eq_ofNat_of_zero_le e0
      walk_at "go1"
      refine ⟨cs, n4, rs4, _, _, b + 2 * todo.length, rfl, rfl, g5, by omega, by omega, fun r6 n5 rs5 f0 f1 g6 => ?_⟩
      walk_at "go1"
      rw [getCC]
      walk_at "go1"
      rw [setCC]
      refine ⟨by rw [← e]; simp, ps ++ [(r5, r6)], n5, rs5, _, rfl, by simp, by simp [hl], fun p hp1 => ?_, g6⟩
      rcases List.mem_append.mp hp1 with z | z
      · exact hp p z
      · rw [List.mem_singleton.mp z]
        exact ⟨by show r5 ≤ t.length; omega, f0, by show r6 ≤ _; omega⟩
    · rintro done ρ M ⟨e, ps, n3, rs3, x5, rfl, rfl, hl, hp, hg⟩
      rw [List.append_nil] at e
      have hd := congrArg List.length e
      rw [rng_length] at hd
      walk_at "go1"
      rw [getCC]
      walk_at "go1"
      rw [← List.append_assoc, ← List.length_append]
      refine See.drop' (dkC cs n3 rs3 ++ R) (by rw [dkC_len, dkC_len]) (push_bel _ _) (dkC_bel hM) (k ps n3 rs3 (fun z => ?_) (by omega) hp (hg.le (by omega)))
      rw [z] at hl
      simp at hl
      omega
def spNum : DSp := fun args M Q _ => ∃ (v lo hi : Int), args = [.int v, .int lo, .int hi] ∧ Q (.bl (decide (lo ≤ v ∧ v ≤ hi))) M
theorem c_is_number (T : Tp K mg) : Cl P w K mg base "is_number" (0 + 1) ["value", "low", "high"] spNum := by
  obtain ⟨f, fd, F, hm⟩ := T.d_is_number.ex
  have S := sc_is_number
  have B := T.bn
  refine ⟨⟨f, fd, fnD F S (fun args M Q E h => by (repeat (obtain ⟨_, h⟩ := h)); subst_vars; rfl) (fun cdv A outer s H E hgd hr => ⟨_, (ds_one (ds_ret (d_and (d_isi tab_int (by rfl) B.isinstance (by rfl) B.int b_int (dv 0)) (d_and (d_not (d_isi tab_bool (by rfl) B.isinstance (by rfl) B.bool b_bool (dv 0))) (d_one (d_chain o_le o_le (dv 1) (dv 0) (dv 2) (fun h1 h2 h3 h4 h5 => pe_chain h1 h2 h3 h4 h5))))))), fun args M Q E' hM hA h => ?_⟩), hm, F.kp, (F.binds (ps := ["value", "low", "high"]) fun _ _ _ _ _ _ us hl => match us, hl with | [_, _, _], _ => rfl)⟩, ?_⟩
  rotate_left
  · exact fun args M Q Q' E E' w _ ⟨x0, x1, x2, x3, k⟩ => ⟨x0, x1, x2, x3, w _ _ k⟩
  · obtain ⟨v, lo, hi, rfl, k⟩ := h
    walk_at "go1"
    by_cases h1 : lo ≤ v
    · rw [decide_eq_true h1]
      walk_at "go1"
      rw [show decide (v ≤ hi) = decide (lo ≤ v ∧ v ≤ hi) by simp [h1]]
      exact See.keep k
    · rw [decide_eq_false h1]
      walk_at "go1"
      rw [decide_eq_false (fun z => h1 z.1)] at k
      exact See.keep k
def spAbove : DSp := fun args M Q _ => ∃ t m, args = [treeD t, natD m] ∧ TreeOk t ∧ m ≤ t.length ∧ Q (.ref M.length) (M ++ [.lst ((above t m).map natD)])
def invAbove (t : Tr) (m : Nat) (M : Sto) : Nat → Dn → Sto → Prop := fun mm ρ M' => ∃ xs y, ρ = ⟨[some (treeD t), some (natD m), some (.ref M.length)], noX⟩ ∧ M' = M ++ [.lst ((xs ++ [y]).map natD)] ∧ xs ++ above t y = above t m ∧ y ≤ m ∧ mm = y
theorem c_marks_above (T : Tp K mg) : Cl P w K mg base "marks_above" (0 + 1) ["tree", "mark"] spAbove := by
  obtain ⟨f, fd, F, hm⟩ := T.d_marks_above.ex
  have S := sc_marks_above
  have B := T.bn
  refine ⟨⟨f, fd, fnD F S (fun args M Q E h => by (repeat (obtain ⟨_, h⟩ := h)); subst_vars; rfl) (fun cdv A outer s H E hgd hr => ⟨_, (ds_cons (dss 2 S.nd (d_lstM (d_cons (dv 1) d_nil)))
  (ds_cons (ds_while (passes_of rfl) (dt_cmp o_gt (d_ix (dv 2) (d_un o_neg d_int) (fun _ _ => rfl)) d_int) (ds_one (ds_expr (d_append (dv 2) (d_cons (d_ix (d_ix (dv 0) (d_op o_sub (d_ix (dv 2) (d_un o_neg d_int) (fun _ _ => rfl)) d_int) (fun _ _ => rfl)) d_int (fun _ _ => rfl)) d_nil)))))
  (ds_one (ds_ret (dv 2))))), fun args M Q E' hM hA h => ?_⟩), hm, F.kp, (F.binds (ps := ["tree", "mark"]) fun _ _ _ _ _ _ us hl => match us, hl with | [_, _], _ => rfl)⟩, ?_⟩
  rotate_left
  · exact fun args M Q Q' E E' w _ ⟨x0, x1, x2, x3, x4, k⟩ => ⟨x0, x1, x2, x3, x4, w _ _ k⟩
  · obtain ⟨t, m, rfl, ht, hm, k⟩ := h
    walk_at "go1"
    refine ⟨invAbove t m M, ⟨m, [], m, rfl, rfl, rfl, Nat.le_refl _, rfl⟩, ?_⟩
    rintro mm ρ M' ⟨xs, y, rfl, rfl, e, hy, rfl⟩
    rw [List.map_append, List.map_cons, List.map_nil]
    walk_at "go1"
    refine ite_dec (fun hgt => ?_) (fun hgt => ?_)
    · obtain ⟨p, hp, e1, e2, plt⟩ := tree_get ht (m := mm) (by omega) (by omega)
      walk_at "go1"
      rw [tree_at (k := mm - 1) (by omega) hp]
      walk_at "go1"
      have hl := above_len t m
      have hl2 := congrArg List.length e
      rw [List.length_append] at hl2
      have hl3 := above_ne t mm
      have hl4 := List.length_pos_iff.mpr hl3
      have : t.length ≤ 11 := ht.1
      walk_at "go1"
      refine ⟨p.1, plt, xs ++ [mm], p.1, rfl, ?_, ?_, by omega, rfl⟩
      · simp
      · rw [← e, above_s t (show mm ≠ 0 by omega), e1]; simp
    · have : mm = 0 := by omega
      subst this
      walk_at "go1"
      rw [above_0] at e
      refine See.keep ?_
      rw [← e, List.map_append] at k
      exact k
def spWay : DSp := fun args M Q _ => ∃ t i j, args = [treeD t, natD i, natD j] ∧ TreeOk t ∧ i ≤ t.length ∧ j ≤ t.length ∧ Q (.tup ((lway t i j).map natD)) M
def invWay (t : Tr) (i j : Nat) (M : Sto) : Nat → Dn → Sto → Prop := fun mm ρ M' => ∃ A B, ρ = ⟨[some (treeD t), some (natD i), some (natD j), some (.ref M.length), some (.ref (M.length + 1))], noX⟩ ∧ M' = M ++ [.lst (A.map natD)] ++ [.lst (B.map natD)] ∧ A ≠ [] ∧ B ≠ [] ∧ A.length ≤ 20 ∧ B.length ≤ 20 ∧ join (strip A.reverse B.reverse) = lway t i j ∧ mm = A.length
theorem c_way_between (T : Tp K mg) : Cl P w K mg base "way_between" (1 + 1) ["tree", "one", "other"] spWay := by
  obtain ⟨f, fd, F, hm⟩ := T.d_way_between.ex
  have S := sc_way_between
  have B := T.bn
  have c_marks_above := @c_marks_above P w K mg base T
  refine ⟨⟨f, fd, fnD F S (fun args M Q E h => by (repeat (obtain ⟨_, h⟩ := h)); subst_vars; rfl) (fun cdv A outer s H E hgd hr => ⟨_, (ds_cons (dsp2 3 4 S.nd (d_cons (d_cl c_marks_above hgd (hr.mono (by first | decide | omega)) (d_cons (dv 0) (d_cons (dv 1) d_nil))) (d_cons (d_cl c_marks_above hgd (hr.mono (by first | decide | omega)) (d_cons (dv 0) (d_cons (dv 2) d_nil))) d_nil)))
  (ds_cons (ds_while (passes_of rfl) (DW.dt (dw_and (dt_cmp o_gt (d_callB o_len (by rfl) B.len b_len (d_cons (dv 3) d_nil)) d_int) (dw_and (dt_cmp o_gt (d_callB o_len (by rfl) B.len b_len (d_cons (dv 4) d_nil)) d_int) (dw_and1 (dt_cmp (o_eq hr.units) (d_ix (dv 3) (d_un o_neg d_int) (fun _ _ => rfl)) (d_ix (dv 4) (d_un o_neg d_int) (fun _ _ => rfl))))))) (ds_cons (ds_expr (d_pop (dv 3)))
  (ds_one (ds_expr (d_pop (dv 4))))))
  (ds_one (ds_ret (d_tup (d_star (dv 3) (d_star (d_sliceS (dv 4) (do_some (d_un o_neg d_int)) do_none (do_some (d_un o_neg d_int))) d_nil))))))), fun args M Q E' hM hA h => ?_⟩), hm, F.kp, (F.binds (ps := ["tree", "one", "other"]) fun _ _ _ _ _ _ us hl => match us, hl with | [_, _, _], _ => rfl)⟩, ?_⟩
  rotate_left
  · exact fun args M Q Q' E E' w _ ⟨x0, x1, x2, x3, x4, x5, x6, k⟩ => ⟨x0, x1, x2, x3, x4, x5, x6, w _ _ k⟩
  · obtain ⟨t, i, j, rfl, ht, hi, hj, k⟩ := h
    have hi2 := above_len t i
    have hj2 := above_len t j
    have ht1 := ht.1
    walk_at "go1"
    refine ⟨t, i, rfl, ht, hi, ?_⟩
    walk_at "go1"
    refine ⟨t, j, rfl, ht, hj, ?_⟩
    walk_at "go1"
    refine ⟨invWay t i j M, ⟨_, above t i, above t j, rfl, rfl, above_ne t i, above_ne t j, by omega, by omega, way_eq t i j, rfl⟩, ?_⟩
    rintro mm ρ M' ⟨A, B, rfl, rfl, hA, hB, lA, lB, e, rfl⟩
    have out : (∀ a x y b z u, A = a ++ [x] ++ [y] → B = b ++ [z] ++ [u] → x ≠ z) → See M.length Q (.tup (A.map natD ++ (pick (B.map natD) (some (-2)) none (some (-1))))) (M ++ [.lst (A.map natD)] ++ [.lst (B.map natD)]) := fun hs => by
      rw [pick_back2 _ (by simpa using hB), ← List.map_dropLast, ← List.map_reverse, ← List.map_append]
      rw [strip_stop hs] at e
      rw [e]
      exact See.drop2 (bel_nat _ _) hM k
    have lp : (pick (B.map natD) (some (-2)) none (some (-1))).length ≤ 20 := by
      rw [pick_back2 _ (by simpa using hB), List.length_reverse, List.length_dropLast, List.length_map]; omega
    walk_at "go1"
    refine ite_dec (fun h1 => ?_) (fun h1 => ?_)
    rotate_left
    · walk_at "go1"
      refine out (fun a x y b z u ea eb => absurd (congrArg List.length ea) (by simp; omega))
    walk_at "go1"
    refine ite_dec (fun h2 => ?_) (fun h2 => ?_)
    rotate_left
    · walk_at "go1"
      refine out (fun a x y b z u ea eb => absurd (congrArg List.length eb) (by simp; omega))
    obtain ⟨a, x, y, rfl⟩ := two_back (xs := A) (by omega)
    obtain ⟨b, z, u, rfl⟩ := two_back (xs := B) (by omega)
    simp only [List.map_append, List.map_cons, List.map_nil] at out lp ⊢
    walk_at "go1"
    refine ite_dec (fun h3 => ?_) (fun h3 => ?_)
    · have hxz : x = z := by omega
      subst hxz
      walk_at "go1"
      refine ⟨(a ++ [x]).length, by simp, a ++ [x], b ++ [x], rfl, by simp, by simp, by simp, by simp at lA ⊢; omega, by simp at lB ⊢; omega, ?_, rfl⟩
      rw [strip_step] at e
      exact e
    · walk_at "go1"
      simp only [List.length_append, List.length_cons, List.length_nil] at lA lB
      refine ⟨by omega, out (fun a' x' y' b' z' u' ea eb => ?_)⟩
      have h4 := List.append_inj' ea rfl
      have h5 := List.append_inj' h4.1 rfl
      have h6 := List.append_inj' eb rfl
      have h7 := List.append_inj' h6.1 rfl
      have h8 : x = x' := by simpa using h5.2
      have h9 : z = z' := by simpa using h7.2
      omega
def spDist : DSp := fun args M Q _ => ∃ t i j, args = [treeD t, natD i, natD j] ∧ TreeOk t ∧ i ≤ t.length ∧ j ≤ t.length ∧ Q (.int (dist t i j)) M
@[reducible] def legF (t : Tr) : D → D := fun d => match d with
  | .tup [.int x, .int y] => .int (ln t (max x y).toNat)
  | d => d
theorem legs_zip (t : Tr) : ∀ w : List Nat, (zipD (w.map natD) ((w.map natD).drop 1)).map (legF t) = (legs t w).map D.int
  | [] => rfl
  | [x] => rfl
  | x :: y :: r => by
    have ih := legs_zip t (y :: r)
    show legF t (.tup [natD x, natD y]) :: (zipD ((y :: r).map natD) (((y :: r).map natD).drop 1)).map (legF t) = _
    rw [ih]
    show D.int _ :: _ = D.int _ :: _
    rw [show (max (x : Int) (y : Int)).toNat = max x y by omega]
theorem c_distance_between (T : Tp K mg) : Cl P w K mg base "distance_between" (2 + 1) ["tree", "one", "other"] spDist := by
  obtain ⟨f, fd, F, hm⟩ := T.d_distance_between.ex
  have S := sc_distance_between
  have B := T.bn
  have c_way_between := @c_way_between P w K mg base T
  refine ⟨⟨f, fd, fnD F S (fun args M Q E h => by (repeat (obtain ⟨_, h⟩ := h)); subst_vars; rfl) (fun cdv A outer s H E hgd hr => ⟨_, (ds_cons (dss 3 S.nd (d_cl c_way_between hgd (hr.mono (by first | decide | omega)) (d_cons (dv 0) (d_cons (dv 1) (d_cons (dv 2) d_nil)))))
  (ds_one (ds_ret (d_callB (o_sum rfl) (by rfl) B.sum b_sum (d_cons (d_lcI (own := [("mark", 4), ("after", 5)]) rfl S.nd (di_zip (by rfl) B.zip (d_cons (dv 3) (d_cons (d_slice (dv 3) (do_some d_int) do_none) d_nil))) (blkOk_by (N := ["tree", "one", "other", "way", "mark", "after"]) (sc := defScope s_distance_between) (by decide +kernel)) (by decide) (fun _ _ _ _ _ => (dg_tup (n := 2) rfl (dgs_cons (dgn 4 S.nd) (dgs_cons (dgn 5 S.nd) dgs_nil)))) (fun _ _ _ _ _ => dts_nil) (fun _ _ _ _ _ => (d_ix (d_ix (dv 0) (d_op o_sub (d_callB (o_max2 rfl) (by rfl) B.max b_max (d_cons (dv 4) (d_cons (dv 5) d_nil))) d_int) (fun _ _ => rfl)) d_int (fun _ _ => rfl)))) d_nil))))), fun args M Q E' hM hA h => ?_⟩), hm, F.kp, (F.binds (ps := ["tree", "one", "other"]) fun _ _ _ _ _ _ us hl => match us, hl with | [_, _, _], _ => rfl)⟩, ?_⟩
  rotate_left
  · exact fun args M Q Q' E E' w _ ⟨x0, x1, x2, x3, x4, x5, x6, k⟩ => ⟨x0, x1, x2, x3, x4, x5, x6, w _ _ k⟩
  · obtain ⟨t, i, j, rfl, ht, hi, hj, k⟩ := h
    walk_at "go1"
    refine ⟨t, i, j, rfl, ht, hi, hj, ?_⟩
    walk_at "go1"
    have ll := lway_len t i j
    have ht1 := ht.1
    have lm := lway_mem t i j
    have l2 := lway_ok2 t i j
    rw [cut_1]
    refine lc_map (legF t) trivial ?_ (fun d hd kk hk => ?_) ?_
    · unfold zipD
      rw [List.length_zipWith, List.length_map]
      omega
    · obtain ⟨q, hq, e⟩ := List.getElem_of_mem hd
      obtain ⟨x, y, e1, e2, rfl⟩ := zipD_get (List.getElem?_eq_getElem hq |>.trans (congrArg some e))
      rw [List.getElem?_drop, List.getElem?_map] at e2
      rw [List.getElem?_map] at e1
      cases ex : (lway t i j)[q]? with
      | none => rw [ex] at e1; cases e1
      | some xn =>
        rw [ex] at e1
        cases ey : (lway t i j)[1 + q]? with
        | none => rw [ey] at e2; cases e2
        | some yn =>
          rw [ey] at e2
          cases e1
          cases e2
          have hne := Ok2_get l2 ex (by rw [Nat.add_comm]; exact ey)
          have hx := lm xn (List.mem_of_getElem? ex)
          have hy := lm yn (List.mem_of_getElem? ey)
          obtain ⟨p, hp, p1, p2, p3⟩ := tree_get ht (m := max xn yn) (by omega) (by omega)
          walk_at "go1"
          rw [tree_at (k := max xn yn - 1) (by split <;> omega) hp]
          walk_at "go1"
          have e5 : legF t (.tup [natD xn, natD yn]) = .int p.2 := by
            show D.int (ln t (max (xn : Int) (yn : Int)).toNat) = _
            rw [show (max (xn : Int) (yn : Int)).toNat = max xn yn by omega, p2]
          rw [e5] at hk
          exact hk
    · walk_at "go1"
      rw [legs_zip, intsOf_map]
      walk_at "go1"
      rw [legs_sum]
      exact See.keep k
def spMark : DSp := fun args M Q _ => ∃ (t : Tr) (v : Int), args = [treeD t, .int v] ∧ TreeOk t ∧ Q (.bl (decide (0 ≤ v ∧ v ≤ (t.length : Int)))) M
theorem c_is_mark (T : Tp K mg) : Cl P w K mg base "is_mark" (1 + 1) ["tree", "value"] spMark := by
  obtain ⟨f, fd, F, hm⟩ := T.d_is_mark.ex
  have S := sc_is_mark
  have B := T.bn
  have c_is_number := @c_is_number P w K mg base T
  refine ⟨⟨f, fd, fnD F S (fun args M Q E h => by (repeat (obtain ⟨_, h⟩ := h)); subst_vars; rfl) (fun cdv A outer s H E hgd hr => ⟨_, (ds_one (ds_ret (d_cl c_is_number hgd (hr.mono (by first | decide | omega)) (d_cons (dv 1) (d_cons d_int (d_cons (d_callB o_len (by rfl) B.len b_len (d_cons (dv 0) d_nil)) d_nil)))))), fun args M Q E' hM hA h => ?_⟩), hm, F.kp, (F.binds (ps := ["tree", "value"]) fun _ _ _ _ _ _ us hl => match us, hl with | [_, _], _ => rfl)⟩, ?_⟩
  rotate_left
  · exact fun args M Q Q' E E' w _ ⟨x0, x1, x2, x3, k⟩ => ⟨x0, x1, x2, x3, w _ _ k⟩
  · obtain ⟨t, v, rfl, ht, k⟩ := h
    have ht1 := ht.1
    walk_at "go1"
    exact ⟨v, 0, _, rfl, See.keep k⟩
def spTick : DSp := fun args M Q _ => ∃ (v : Int), args = [.int v] ∧ Q (.bl (decide (0 ≤ v ∧ v ≤ 1000000000))) M
theorem c_is_tick (T : Tp K mg) : Cl P w K mg base "is_tick" (1 + 1) ["value"] spTick := by
  obtain ⟨f, fd, F, hm⟩ := T.d_is_tick.ex
  have S := sc_is_tick
  have B := T.bn
  have c_is_number := @c_is_number P w K mg base T
  obtain ⟨t_MAX_TICK, m_MAX_TICK⟩ := T.k_MAX_TICK
  refine ⟨⟨f, fd, fnD F S (fun args M Q E h => by (repeat (obtain ⟨_, h⟩ := h)); subst_vars; rfl) (fun cdv A outer s H E hgd hr => ⟨_, (ds_one (ds_ret (d_cl c_is_number hgd (hr.mono (by first | decide | omega)) (d_cons (dv 0) (d_cons d_int (d_cons (d_glob (by rfl) m_MAX_TICK) d_nil)))))), fun args M Q E' hM hA h => ?_⟩), hm, F.kp, (F.binds (ps := ["value"]) fun _ _ _ _ _ _ us hl => match us, hl with | [_], _ => rfl)⟩, ?_⟩
  rotate_left
  · exact fun args M Q Q' E E' w _ ⟨x0, x1, k⟩ => ⟨x0, x1, w _ _ k⟩
  · obtain ⟨v, rfl, k⟩ := h
    walk_at "go1"
    exact ⟨v, 0, _, rfl, See.keep k⟩
def spPush : DSp := fun args M Q _ => ∃ (t : Tr) (p : Nat × Int), args = [treeD t, pushD p] ∧ TreeOk t ∧ PushOk t p ∧ Q (.bl true) M
theorem c_is_push (T : Tp K mg) : Cl P w K mg base "is_push" (2 + 1) ["tree", "value"] spPush := by
  obtain ⟨f, fd, F, hm⟩ := T.d_is_push.ex
  have S := sc_is_push
  have B := T.bn
  have c_is_mark := @c_is_mark P w K mg base T
  have c_is_tick := @c_is_tick P w K mg base T
  refine ⟨⟨f, fd, fnD F S (fun args M Q E h => by (repeat (obtain ⟨_, h⟩ := h)); subst_vars; rfl) (fun cdv A outer s H E hgd hr => ⟨_, (ds_one (ds_ret (d_and (d_isi tab_tuple (by rfl) B.isinstance (by rfl) B.tuple b_tuple (dv 1)) (d_and (d_cmp (o_eq hr.units) (d_callB o_len (by rfl) B.len b_len (d_cons (dv 1) d_nil)) d_int) (d_and (d_cl c_is_mark hgd (hr.mono (by first | decide | omega)) (d_cons (dv 0) (d_cons (d_ix (dv 1) d_int (fun _ _ => rfl)) d_nil))) (d_one (d_cl c_is_tick hgd (hr.mono (by first | decide | omega)) (d_cons (d_ix (dv 1) d_int (fun _ _ => rfl)) d_nil)))))))), fun args M Q E' hM hA h => ?_⟩), hm, F.kp, (F.binds (ps := ["tree", "value"]) fun _ _ _ _ _ _ us hl => match us, hl with | [_, _], _ => rfl)⟩, ?_⟩
  rotate_left
  · exact fun args M Q Q' E E' w _ ⟨x0, x1, x2, x3, x4, k⟩ => ⟨x0, x1, x2, x3, x4, w _ _ k⟩
  · obtain ⟨t, ⟨p, z⟩, rfl, ht, hp, k⟩ := h
    obtain ⟨h1, h2, h3⟩ := hp
    dsimp only at h1 h2 h3
    walk_at "go1"
    refine ⟨t, p, rfl, ht, ?_⟩
    rw [decide_eq_true ⟨by omega, by omega⟩]
    walk_at "go1"
    refine ⟨z, rfl, ?_⟩
    rw [decide_eq_true ⟨by omega, by omega⟩]
    walk_at "go1"
    exact See.keep k
theorem push_of {args : List D} {M : Sto} {Q : DK} {E : DXK} (h : spPush args M Q E) : spPush args M Q E := h
def spCheck : DSp := fun args M Q _ => ∃ (t : Tr) (ps : List (Nat × Int)), args = [treeD t, .tup (ps.map pushD)] ∧ TreeOk t ∧ PsOk t ps ∧ Q .non M
def invChk (t : Tr) (ps : List (Nat × Int)) (M0 : Sto) : List D → List D → Dn → Sto → Prop := fun done todo ρ M => done ++ todo = enumD 0 (ps.map pushD) ∧ M = M0 ∧ ∃ (x2 x3 : Option D), ρ = ⟨[some (treeD t), some (.tup (ps.map pushD)), x2, x3], noX⟩
theorem c_check_pushes (T : Tp K mg) : Cl P w K mg base "check_pushes" (3 + 1) ["tree", "value"] spCheck := by
  obtain ⟨f, fd, F, hm⟩ := T.d_check_pushes.ex
  have S := sc_check_pushes
  have B := T.bn
  have c_is_push := @c_is_push P w K mg base T
  obtain ⟨t_MAX_PUSHES, m_MAX_PUSHES⟩ := T.k_MAX_PUSHES
  refine ⟨⟨f, fd, fnD F S (fun args M Q E h => by (repeat (obtain ⟨_, h⟩ := h)); subst_vars; rfl) (fun cdv A outer s H E hgd hr => ⟨_, (ds_cons (ds_if (DW.dt (dw_or (dt_not (dt_val (d_isi tab_tuple (by rfl) B.isinstance (by rfl) B.tuple b_tuple (dv 1)))) (dw_or1 (dt_not (dt_chain o_le o_le d_int (d_callB o_len (by rfl) B.len b_len (d_cons (dv 1) d_nil)) (d_glob (by rfl) m_MAX_PUSHES)))))) (ds_one ds_never) ds_nil)
  (ds_one (ds_forI (passes_of rfl) rfl (di_enum (by rfl) B.enumerate (d_cons (dv 1) d_nil)) (dg_tup (n := 2) rfl (dgs_cons (dgn 2 S.nd) (dgs_cons (dgn 3 S.nd) dgs_nil))) (ds_one (ds_if (dt_not (dt_val (d_cl c_is_push hgd (hr.mono (by first | decide | omega)) (d_cons (dv 0) (d_cons (dv 3) d_nil))))) (ds_one ds_never) ds_nil))))), fun args M Q E' hM hA h => ?_⟩), hm, F.kp, (F.binds (ps := ["tree", "value"]) fun _ _ _ _ _ _ us hl => match us, hl with | [_, _], _ => rfl)⟩, ?_⟩
  rotate_left
  · exact fun args M Q Q' E E' w _ ⟨x0, x1, x2, x3, x4, k⟩ => ⟨x0, x1, x2, x3, x4, w _ _ k⟩
  · obtain ⟨t, ps, rfl, ht, hp, k⟩ := h
    have h0 := List.length_pos_iff.mpr hp.1
    have h1 := hp.2.1
    walk_at "go1"
    rw [show decide ((1 : Int) ≤ (ps.length : Int)) = true from decide_eq_true (by omega)]
    walk_at "go1"
    rw [show decide ((ps.length : Int) ≤ 20) = true from decide_eq_true (by omega)]
    walk_at "go1"
    refine ⟨invChk t ps M, ⟨rfl, rfl, none, none, rfl⟩, fun _ _ _ _ _ => trivial, ?_, ?_⟩
    · rintro done d todo ρ M' ⟨e, rfl, x2, x3, rfl⟩
      have e0 := e
      rw [enum_map] at e
      obtain ⟨q, hq, rfl, hlt⟩ := map_mid e
      have hpq := hp.2.2 q.1 (List.mem_of_getElem? (idx_at hq).2)
      walk_at "go1"
      refine push_of ⟨t, q.1, rfl, ht, hpq, ?_⟩
      walk_at "go1"
      exact ⟨by rw [← e0]; simp, rfl, _, _, rfl⟩
    · rintro done ρ M' ⟨e, rfl, x2, x3, rfl⟩
      walk_at "go1"
      exact See.keep k
def spFallAt : DSp := fun args M Q _ => ∃ (t : Tr) (ps : List (Nat × Int)) (m : Nat), args = [treeD t, .tup (ps.map pushD), natD m] ∧ TreeOk t ∧ ps ≠ [] ∧ ps.length ≤ 1000 ∧ (∀ p ∈ ps, p.1 ≤ t.length) ∧ m ≤ t.length ∧ Q (.int (fallT t ps m)) M
theorem c_fall_at (T : Tp K mg) : Cl P w K mg base "fall_at" (3 + 1) ["tree", "pushes", "mark"] spFallAt := by
  obtain ⟨f, fd, F, hm⟩ := T.d_fall_at.ex
  have S := sc_fall_at
  have B := T.bn
  have c_distance_between := @c_distance_between P w K mg base T
  refine ⟨⟨f, fd, fnD F S (fun args M Q E h => by (repeat (obtain ⟨_, h⟩ := h)); subst_vars; rfl) (fun cdv A outer s H E hgd hr => ⟨_, (ds_one (ds_ret (d_callB (o_minA rfl) (by rfl) B.min b_min (d_cons (d_lcI (own := [("own", 3), ("tick", 4)]) rfl S.nd (di_seq (dv 1)) (blkOk_by (N := ["tree", "pushes", "mark", "own", "tick"]) (sc := defScope s_fall_at) (by decide +kernel)) (by decide) (fun _ _ _ _ _ => (dg_tup (n := 2) rfl (dgs_cons (dgn 3 S.nd) (dgs_cons (dgn 4 S.nd) dgs_nil)))) (fun _ _ _ _ _ => dts_nil) (fun _ _ _ _ _ => (d_op o_add (dv 4) (d_cl c_distance_between hgd (hr.mono (by first | decide | omega)) (d_cons (dv 0) (d_cons (dv 3) (d_cons (dv 2) d_nil))))))) d_nil)))), fun args M Q E' hM hA h => ?_⟩), hm, F.kp, (F.binds (ps := ["tree", "pushes", "mark"]) fun _ _ _ _ _ _ us hl => match us, hl with | [_, _, _], _ => rfl)⟩, ?_⟩
  rotate_left
  · exact fun args M Q Q' E E' w _ ⟨x0, x1, x2, x3, x4, x5, x6, x7, x8, k⟩ => ⟨x0, x1, x2, x3, x4, x5, x6, x7, x8, w _ _ k⟩
  · obtain ⟨t, ps, m, rfl, ht, h0, h1, hp, hm, k⟩ := h
    walk_at "go1"
    refine lc_mapL pushD (fun p => D.int (p.2 + dist t p.1 m)) trivial (by omega) (fun p hx kk hk => ?_) ?_
    · have := hp p hx
      walk_at "go1"
      refine ⟨t, p.1, m, rfl, ht, this, hm, ?_⟩
      walk_at "go1"
      exact hk
    rw [show ps.map (fun p => D.int (p.2 + dist t p.1 m)) = (ps.map fun p => p.2 + dist t p.1 m).map D.int by rw [List.map_map]; rfl]
    walk_at "go2"
    refine ⟨by simpa using h0, ?_⟩
    exact See.keep k
def spFallsBy : DSp := fun args M Q _ => ∃ (t : Tr) (ps : List (Nat × Int)), args = [treeD t, .tup (ps.map pushD)] ∧ TreeOk t ∧ ps ≠ [] ∧ ps.length ≤ 1000 ∧ (∀ p ∈ ps, p.1 ≤ t.length) ∧ Q (tabD (fallsT t ps)) M
theorem c_falls_by (T : Tp K mg) : Cl P w K mg base "falls_by" (4 + 1) ["tree", "pushes"] spFallsBy := by
  obtain ⟨f, fd, F, hm⟩ := T.d_falls_by.ex
  have S := sc_falls_by
  have B := T.bn
  have c_fall_at := @c_fall_at P w K mg base T
  refine ⟨⟨f, fd, fnD F S (fun args M Q E h => by (repeat (obtain ⟨_, h⟩ := h)); subst_vars; rfl) (fun cdv A outer s H E hgd hr => ⟨_, (ds_one (ds_ret (d_callTy o_tuple (by rfl) B.tuple b_tuple (d_cons (d_lcI (own := [("mark", 2)]) rfl S.nd (di_range1 (by rfl) B.range (d_cons (d_op o_add (d_callB o_len (by rfl) B.len b_len (d_cons (dv 0) d_nil)) d_int) d_nil)) (blkOk_by (N := ["tree", "pushes", "mark"]) (sc := defScope s_falls_by) (by decide +kernel)) (by decide) (fun _ _ _ _ _ => (dgn 2 S.nd)) (fun _ _ _ _ _ => dts_nil) (fun _ _ _ _ _ => (d_cl c_fall_at hgd (hr.mono (by first | decide | omega)) (d_cons (dv 0) (d_cons (dv 1) (d_cons (dv 2) d_nil)))))) d_nil)))), fun args M Q E' hM hA h => ?_⟩), hm, F.kp, (F.binds (ps := ["tree", "pushes"]) fun _ _ _ _ _ _ us hl => match us, hl with | [_, _], _ => rfl)⟩, ?_⟩
  rotate_left
  · exact fun args M Q Q' E E' w _ ⟨x0, x1, x2, x3, x4, x5, x6, k⟩ => ⟨x0, x1, x2, x3, x4, x5, x6, w _ _ k⟩
  · obtain ⟨t, ps, rfl, ht, h0, h1, hp, k⟩ := h
    have ht1 := ht.1
    walk_at "go1"
    rw [show ((t.length : Int) + 1).toNat = t.length + 1 by omega]
    refine lc_rng (fun m => D.int (fallT t ps m)) trivial (by omega) (fun m hm kk hk => ?_) ?_
    · walk_at "go1"
      exact ⟨t, ps, m, rfl, ht, h0, h1, hp, by omega, hk⟩
    walk_at "go1"
    rw [show (List.range (t.length + 1)).map (fun m => D.int (fallT t ps m)) = (fallsT t ps).map D.int by unfold fallsT; rw [List.map_map]; rfl]
    exact See.keep k
def spFallsOf : DSp := fun args M Q _ => ∃ (t : Tr) (ps : List (Nat × Int)), args = [treeD t, .tup (ps.map pushD)] ∧ TreeOk t ∧ PsOk t ps ∧ Q (tabD (fallsT t ps)) M
theorem c_falls_of (T : Tp K mg) : Cl P w K mg base "falls_of" (5 + 1) ["tree", "value"] spFallsOf := by
  obtain ⟨f, fd, F, hm⟩ := T.d_falls_of.ex
  have S := sc_falls_of
  have B := T.bn
  have c_check_pushes := @c_check_pushes P w K mg base T
  have c_falls_by := @c_falls_by P w K mg base T
  refine ⟨⟨f, fd, fnD F S (fun args M Q E h => by (repeat (obtain ⟨_, h⟩ := h)); subst_vars; rfl) (fun cdv A outer s H E hgd hr => ⟨_, (ds_cons (ds_expr (d_cl c_check_pushes hgd (hr.mono (by first | decide | omega)) (d_cons (dv 0) (d_cons (dv 1) d_nil))))
  (ds_one (ds_ret (d_cl c_falls_by hgd (hr.mono (by first | decide | omega)) (d_cons (dv 0) (d_cons (dv 1) d_nil)))))), fun args M Q E' hM hA h => ?_⟩), hm, F.kp, (F.binds (ps := ["tree", "value"]) fun _ _ _ _ _ _ us hl => match us, hl with | [_, _], _ => rfl)⟩, ?_⟩
  rotate_left
  · exact fun args M Q Q' E E' w _ ⟨x0, x1, x2, x3, x4, k⟩ => ⟨x0, x1, x2, x3, x4, w _ _ k⟩
  · obtain ⟨t, ps, rfl, ht, hp, k⟩ := h
    have h1 := hp.2.1
    walk_at "go1"
    refine ⟨t, ps, rfl, ht, hp, ?_⟩
    walk_at "go1"
    exact ⟨t, ps, rfl, ht, hp.1, by omega, fun p h => (hp.2.2 p h).1, See.keep k⟩
def SeenOk (t : Tr) (ss : List (Nat × Int)) : Prop := ss.Pairwise (fun p q => p.1 < q.1) ∧ ∀ p ∈ ss, PushC t 2000000000 p
theorem SeenOk.len {t : Tr} {ss : List (Nat × Int)} (h : SeenOk t ss) : ss.length ≤ t.length + 1 := by
  have key : ∀ (ss : List (Nat × Int)) (lo hi : Nat), ss.Pairwise (fun p q => p.1 < q.1) → (∀ p ∈ ss, lo ≤ p.1 ∧ p.1 ≤ hi) → ss.length ≤ hi + 1 - lo := by
    intro ss
    induction ss with
    | nil => intro lo hi _ _; simp
    | cons p r ih =>
      intro lo hi hp hb
      obtain ⟨h1, h2⟩ := List.pairwise_cons.mp hp
      have h3 := hb p (by simp)
      have := ih (p.1 + 1) hi h2 fun q hq => ⟨h1 q hq, (hb q (List.mem_cons_of_mem _ hq)).2⟩
      rw [List.length_cons]
      omega
  have := key ss 0 t.length h.1 fun p hp => ⟨Nat.zero_le _, (h.2 p hp).1⟩
  omega
theorem int_at {xs : List Int} {j : Nat} {z : Int} (e : z = j) (h : j < xs.length) : atI (xs.map D.int) z = some (.int (xs.getD j 0)) :=
  atI_of e (by rw [List.getElem?_map, List.getElem?_eq_getElem h, List.getD_eq_getElem?_getD, List.getElem?_eq_getElem h]; rfl)
theorem SeenOk.set {t : Tr} {ss : List (Nat × Int)} (h : SeenOk t ss) {i : Nat} (hi : i < ss.length) {x : Int} (h0 : 0 ≤ x) (h1 : x ≤ 2000000000) : SeenOk t (ss.set i (ss[i].1, x)) := by
  refine ⟨?_, fun p hp => ?_⟩
  · have e : (ss.set i (ss[i].1, x)).map Prod.fst = ss.map Prod.fst := by
      rw [List.map_set]
      apply List.ext_getElem?
      intro j
      rw [List.getElem?_set, List.getElem?_map]
      split
      · next hij =>
        subst hij
        rw [if_pos (by simpa using hi), List.getElem?_eq_getElem hi]
        rfl
      · rfl
    have h2 : (ss.map Prod.fst).Pairwise (· < ·) := List.pairwise_map.mpr h.1
    rw [← e] at h2
    exact List.pairwise_map.mp h2
  · rcases List.mem_or_eq_of_mem_set hp with z | z
    · exact h.2 p z
    · rw [z]
      exact ⟨(h.2 _ (List.getElem_mem hi)).1, h0, h1⟩
def bad (t : Tr) (p q : Nat × Int) : Bool := decide ((if p.2 - q.2 < 0 then -(p.2 - q.2) else p.2 - q.2) > dist t p.1 q.1)
def conf (t : Tr) : List (Nat × Int) → Option (Nat × Nat)
  | [] => none
  | p :: r => match r.find? (bad t p) with
    | some q => some (p.1, q.1)
    | none => conf t r
def confD : Option (Nat × Nat) → D
  | none => .non
  | some p => .tup [natD p.1, natD p.2]
theorem find_here {α : Type} {f : α → Bool} {L : List α} {n : Nat} {q : α} (h : L[n]? = some q) (h1 : ∀ x ∈ L.take n, f x = false) (h2 : f q = true) : L.find? f = some q := by
  have e : L = L.take n ++ q :: L.drop (n + 1) := by
    obtain ⟨hn, e⟩ := List.getElem?_eq_some_iff.mp h
    rw [← e, ← List.drop_eq_getElem_cons hn, List.take_append_drop]
  rw [e, List.find?_append, List.find?_eq_none.mpr (fun x hx => by rw [h1 x hx]; decide), Option.none_or, List.find?_cons_of_pos h2]
theorem find_none {α : Type} {f : α → Bool} {L : List α} (h1 : ∀ x ∈ L, f x = false) : L.find? f = none := List.find?_eq_none.mpr (fun x hx => by rw [h1 x hx]; decide)
theorem cut_from {α : Type} (xs : List α) {k : Nat} {z : Int} (e : z = k) (h : k ≤ xs.length) : cut xs (some z) none = xs.drop k := by
  subst e
  unfold cut
  rw [HT.sIx_nat, HT.sIx_none, show min k xs.length = k by omega]
  exact List.take_of_length_le (by rw [List.length_drop]; omega)
def spConf : DSp := fun args M Q _ => ∃ (t : Tr) (ss : List (Nat × Int)) (d : D), args = [treeD t, d] ∧ PT (ss.map pushD) d ∧ TreeOk t ∧ SeenOk t ss ∧ Q (confD (conf t ss)) M
def invC1 (t : Tr) (ss : List (Nat × Int)) (sd : D) (M0 : Sto) : List D → List D → Dn → Sto → Prop := fun done todo ρ M => M = M0 ∧ done ++ todo = ss.zipIdx.map (fun q => D.tup [.int (0 + (q.2 : Int)), pushD q.1]) ∧ conf t (ss.drop done.length) = conf t ss ∧ ∃ (x2 x3 x4 x5 x6 : Option D), ρ = ⟨[some (treeD t), some sd, x2, x3, x4, x5, x6], noX⟩
def invC2 (t : Tr) (ss : List (Nat × Int)) (sd : D) (i : Nat) (p : Nat × Int) (M0 : Sto) : List D → List D → Dn → Sto → Prop := fun done todo ρ M => M = M0 ∧ done ++ todo = (ss.drop (i + 1)).map pushD ∧ (∀ q ∈ (ss.drop (i + 1)).take done.length, bad t p q = false) ∧ ∃ (x5 x6 : Option D), ρ = ⟨[some (treeD t), some sd, some (natD i), some (natD p.1), some (.int p.2), x5, x6], noX⟩
theorem c_find_conflict (T : Tp K mg) : Cl P w K mg base "find_conflict" (3 + 1) ["tree", "seen"] spConf := by
  obtain ⟨f, fd, F, hm⟩ := T.d_find_conflict.ex
  have S := sc_find_conflict
  have B := T.bn
  have c_distance_between := @c_distance_between P w K mg base T
  refine ⟨⟨f, fd, fnD F S (fun args M Q E h => by (repeat (obtain ⟨_, h⟩ := h)); subst_vars; rfl) (fun cdv A outer s H E hgd hr => ⟨_, (ds_cons (ds_forI (passes_of rfl) rfl (di_enum (by rfl) B.enumerate (d_cons (d_view (dv 1)) d_nil)) (dg_tup (n := 2) rfl (dgs_cons (dgn 2 S.nd) (dgs_cons (dg_tup (n := 2) rfl (dgs_cons (dgn 3 S.nd) (dgs_cons (dgn 4 S.nd) dgs_nil))) dgs_nil))) (ds_one (ds_forI (passes_of rfl) rfl (di_seq (d_slice (d_view (dv 1)) (do_some (d_op o_add (dv 2) d_int)) do_none)) (dg_tup (n := 2) rfl (dgs_cons (dgn 5 S.nd) (dgs_cons (dgn 6 S.nd) dgs_nil))) (ds_one (ds_if (dt_cmp o_gt (d_callB o_abs (by rfl) B.abs b_abs (d_cons (d_op o_sub (dv 4) (dv 6)) d_nil)) (d_cl c_distance_between hgd (hr.mono (by first | decide | omega)) (d_cons (dv 0) (d_cons (dv 3) (d_cons (dv 5) d_nil))))) (ds_one (ds_ret (d_tup (d_cons (dv 3) (d_cons (dv 5) d_nil))))) ds_nil)))))
  (ds_one (ds_ret d_non))), fun args M Q E' hM hA h => ?_⟩), hm, F.kp, (F.binds (ps := ["tree", "seen"]) fun _ _ _ _ _ _ us hl => match us, hl with | [_, _], _ => rfl)⟩, ?_⟩
  rotate_left
  · exact fun args M Q Q' E E' w _ ⟨x0, x1, x2, x3, x4, x5, x6, k⟩ => ⟨x0, x1, x2, x3, x4, x5, x6, w _ _ k⟩
  · obtain ⟨t, ss, sd, rfl, hpt, ht, hs, k⟩ := h
    have hsl := hs.len
    have ht1 := ht.1
    walk_at "go1"
    refine ⟨_, .inl hpt, ?_⟩
    walk_at "go1"
    rw [enum_map]
    refine ⟨invC1 t ss sd M, ⟨rfl, rfl, rfl, none, none, none, none, none, rfl⟩, fun _ _ _ _ _ => trivial, ?_, ?_⟩
    rotate_left
    · rintro done ρ M' ⟨rfl, e, e2, x2, x3, x4, x5, x6, rfl⟩
      have hd := congrArg List.length e
      rw [List.append_nil, List.length_map, idx_len] at hd
      rw [hd, List.drop_length] at e2
      rw [← e2] at k
      walk_at "go1"
      exact See.keep k
    rintro done d todo ρ M' ⟨rfl, e, e2, x2, x3, x4, x5, x6, rfl⟩
    obtain ⟨q, hq, rfl, hlt⟩ := map_mid e
    obtain ⟨q1, q2⟩ := idx_at hq
    obtain ⟨p, i⟩ := q
    dsimp only at q1 q2
    subst q1
    rw [idx_len] at hlt
    have hp := hs.2 p (List.mem_of_getElem? q2)
    have edrop : ss.drop done.length = p :: ss.drop (done.length + 1) := by
      obtain ⟨hn, e⟩ := List.getElem?_eq_some_iff.mp q2
      rw [← e, ← List.drop_eq_getElem_cons hn]
    rw [edrop] at e2
    walk_at "go1"
    refine ⟨_, .inl hpt, ?_⟩
    walk_at "go1"
    rw [cut_from (k := done.length + 1) _ (by omega) (by rw [List.length_map]; omega), ← List.map_drop]
    refine ⟨invC2 t ss sd done.length p M', ⟨rfl, rfl, by simp, x5, x6, rfl⟩, fun _ _ _ _ _ => trivial, ?_, ?_⟩
    · rintro done2 d2 todo2 ρ M2 ⟨rfl, e3, hb, y5, y6, rfl⟩
      obtain ⟨q, hq2, rfl, hlt2⟩ := map_mid e3
      have hqm : q ∈ ss := List.mem_of_mem_drop (List.mem_of_getElem? hq2)
      have hqq := hs.2 q hqm
      walk_at "go1"
      refine ⟨t, p.1, q.1, rfl, ht, hp.1, hqq.1, ?_⟩
      walk_at "go1"
      refine ite_dec (fun h3 => ?_) (fun h3 => ?_)
      · walk_at "go1"
        have e4 : conf t ss = some (p.1, q.1) := by
          rw [← e2]
          show (match (ss.drop (done.length + 1)).find? (bad t p) with
            | some q => some (p.1, q.1)
            | none => conf t (ss.drop (done.length + 1))) = _
          rw [find_here hq2 hb (decide_eq_true h3)]
        rw [e4] at k
        exact See.keep k
      · walk_at "go1"
        refine ⟨rfl, by rw [← e3]; simp, fun x hx => ?_, _, _, rfl⟩
        rw [List.length_append, List.length_singleton, take_more hq2] at hx
        rcases List.mem_append.mp hx with z | z
        · exact hb x z
        · rw [List.mem_singleton.mp z]
          exact decide_eq_false h3
    · rintro done2 ρ M2 ⟨rfl, e3, hb, y5, y6, rfl⟩
      rw [map_done e3] at hb
      refine ⟨rfl, by rw [← e, Int.zero_add]; simp, ?_, _, _, _, _, _, rfl⟩
      rw [List.length_append, List.length_singleton, ← e2]
      show _ = (match (ss.drop (done.length + 1)).find? (bad t p) with
        | some q => some (p.1, q.1)
        | none => conf t (ss.drop (done.length + 1)))
      rw [find_none hb]
def spPair : DSp := fun args M Q _ => ∃ (t : Tr) (ws : Wn), args = [treeD t, winsD ws] ∧ TreeOk t ∧ WinOk t ws ∧ Q (pairD (pairOf t ws)) M
def spApart : DSp := fun args M Q _ => ∃ (t : Tr) (ws : Wn) (i j : Nat), args = [treeD t, winsD ws, natD i, natD j] ∧ TreeOk t ∧ WinOk t ws ∧ i ≤ t.length ∧ j ≤ t.length ∧ Q (.bl (apart t ws i j)) M
theorem c_are_apart (T : Tp K mg) : Cl P w K mg base "are_apart" (3 + 1) ["tree", "windows", "one", "other"] spApart := by
  obtain ⟨f, fd, F, hm⟩ := T.d_are_apart.ex
  have S := sc_are_apart
  have B := T.bn
  have c_distance_between := @c_distance_between P w K mg base T
  refine ⟨⟨f, fd, fnD F S (fun args M Q E h => by (repeat (obtain ⟨_, h⟩ := h)); subst_vars; rfl) (fun cdv A outer s H E hgd hr => ⟨_, (ds_cons (dss 4 S.nd (d_ix (d_ix (dv 1) (dv 3) (fun _ _ => rfl)) d_int (fun _ _ => rfl)))
  (ds_one (ds_ret (d_and (d_cmp o_notN (dv 4) d_non) (d_one (d_cmp o_gt (d_ix (d_ix (dv 1) (dv 2) (fun _ _ => rfl)) d_int (fun _ _ => rfl)) (d_op o_add (dv 4) (d_cl c_distance_between hgd (hr.mono (by first | decide | omega)) (d_cons (dv 0) (d_cons (dv 2) (d_cons (dv 3) d_nil))))))))))), fun args M Q E' hM hA h => ?_⟩), hm, F.kp, (F.binds (ps := ["tree", "windows", "one", "other"]) fun _ _ _ _ _ _ us hl => match us, hl with | [_, _, _, _], _ => rfl)⟩, ?_⟩
  rotate_left
  · exact fun args M Q Q' E E' w _ ⟨x0, x1, x2, x3, x4, x5, x6, x7, x8, k⟩ => ⟨x0, x1, x2, x3, x4, x5, x6, x7, x8, w _ _ k⟩
  · obtain ⟨t, ws, i, j, rfl, ht, hw, hi, hj, k⟩ := h
    obtain ⟨wi, wi1, wi2, wi3⟩ := win_get hw hi
    obtain ⟨wj, wj1, wj2, wj3⟩ := win_get hw hj
    obtain ⟨lj, oj⟩ := wj
    unfold apart at k
    rw [wi2, wj2] at k
    walk_at "go1"
    rw [map_at (k := j) rfl wj1]
    walk_at "go1"
    cases oj with
    | none =>
      walk_at "go1"
      exact See.keep k
    | some l =>
      walk_at "go1"
      rw [map_at (k := i) rfl wi1]
      walk_at "go1"
      refine ⟨t, i, j, rfl, ht, hi, hj, ?_⟩
      walk_at "go1"
      exact See.keep k
def invFP1 (t : Tr) (ws : Wn) (M0 : Sto) : List D → List D → Dn → Sto → Prop := fun done todo ρ M => done ++ todo = rng 0 ws.length ∧ M = M0 ∧ (∀ i, i < done.length → pair1 t ws i = none) ∧ ∃ (x3 x4 : Option D), ρ = ⟨[some (treeD t), some (winsD ws), some (.lst (rng 0 ws.length)), x3, x4], noX⟩
def invFP2 (t : Tr) (ws : Wn) (i : Nat) (M0 : Sto) : List D → List D → Dn → Sto → Prop := fun done todo ρ M => done ++ todo = rng 0 ws.length ∧ M = M0 ∧ (∀ j, j < done.length → apart t ws i j = false) ∧ ∃ (x4 : Option D), ρ = ⟨[some (treeD t), some (winsD ws), some (.lst (rng 0 ws.length)), some (natD i), x4], noX⟩
theorem c_find_pair (T : Tp K mg) : Cl P w K mg base "find_pair" (4 + 1) ["tree", "windows"] spPair := by
  obtain ⟨f, fd, F, hm⟩ := T.d_find_pair.ex
  have S := sc_find_pair
  have B := T.bn
  have c_are_apart := @c_are_apart P w K mg base T
  refine ⟨⟨f, fd, fnD F S (fun args M Q E h => by (repeat (obtain ⟨_, h⟩ := h)); subst_vars; rfl) (fun cdv A outer s H E hgd hr => ⟨_, (ds_cons (dss 2 S.nd (d_listRg (by rfl) B.list (by rfl) B.range rfl (d_callB o_len (by rfl) B.len b_len (d_cons (dv 1) d_nil))))
  (ds_cons (ds_forI (passes_of rfl) rfl (di_seq (dv 2)) (dgn 3 S.nd) (ds_one (ds_forI (passes_of rfl) rfl (di_seq (dv 2)) (dgn 4 S.nd) (ds_one (ds_if (dt_val (d_cl c_are_apart hgd (hr.mono (by first | decide | omega)) (d_cons (dv 0) (d_cons (dv 1) (d_cons (dv 3) (d_cons (dv 4) d_nil)))))) (ds_one (ds_ret (d_tup (d_cons (dv 3) (d_cons (dv 4) d_nil))))) ds_nil)))))
  (ds_one (ds_ret d_non)))), fun args M Q E' hM hA h => ?_⟩), hm, F.kp, (F.binds (ps := ["tree", "windows"]) fun _ _ _ _ _ _ us hl => match us, hl with | [_, _], _ => rfl)⟩, ?_⟩
  rotate_left
  · exact fun args M Q Q' E E' w _ ⟨x0, x1, x2, x3, x4, k⟩ => ⟨x0, x1, x2, x3, x4, w _ _ k⟩
  · obtain ⟨t, ws, rfl, ht, hw, k⟩ := h
    have ht1 := ht.1
    have hwl := hw.1
    walk_at "go1"
    rw [show ((ws.length : Int)).toNat = ws.length by omega]
    refine ⟨invFP1 t ws M, ⟨rfl, rfl, fun i hi => by simp at hi, none, none, rfl⟩, fun _ _ _ _ _ => trivial, ?_, ?_⟩
    · rintro done d todo ρ M' ⟨e, rfl, hno, x3, x4, rfl⟩
      obtain ⟨rfl, hlt⟩ := rng_mid e
      walk_at "go1"
      refine ⟨invFP2 t ws done.length M', ⟨rfl, rfl, fun i hi => by simp at hi, x4, rfl⟩, fun _ _ _ _ _ => trivial, ?_, ?_⟩
      · rintro done2 d2 todo2 ρ M2 ⟨e2, rfl, hno2, y4, rfl⟩
        obtain ⟨rfl, hlt2⟩ := rng_mid e2
        walk_at "go1"
        refine ⟨t, ws, done.length, done2.length, rfl, ht, hw, by omega, by omega, ?_⟩
        walk_at "go1"
        refine ite_bl (fun h3 => ?_) (fun h3 => ?_)
        · walk_at "go1"
          rw [pairOf_hit hno hlt hno2 h3 hlt2] at k
          exact See.keep k
        · walk_at "go1"
          exact ⟨by rw [← e2]; simp, rfl, fun j hj => by
            rw [List.length_append, List.length_singleton] at hj
            by_cases hj2 : j < done2.length
            · exact hno2 j hj2
            · rw [show j = done2.length by omega]; exact h3, _, rfl⟩
      · rintro done2 ρ M2 ⟨e2, rfl, hno2, y4, rfl⟩
        have hd := congrArg List.length e2
        rw [List.append_nil, rng_length] at hd
        refine ⟨by rw [← e]; simp, rfl, fun i hi => ?_, _, _, rfl⟩
        rw [List.length_append, List.length_singleton] at hi
        by_cases hi2 : i < done.length
        · exact hno i hi2
        · rw [show i = done.length by omega]
          exact pair1_none fun j hj => hno2 j (by omega)
    · rintro done ρ M' ⟨e, rfl, hno, x3, x4, rfl⟩
      have hd := congrArg List.length e
      rw [List.append_nil, rng_length] at hd
      walk_at "go1"
      rw [show pairOf t ws = none from fs_miss fun i hi => hno i (by omega)] at k
      exact See.keep k
def spNeedT (mg : Str → Option Value) : DSp := fun args M Q E => ∃ (t : Tr) (ws : Wn), args = [treeD t, winsD ws] ∧ TreeOk t ∧ WinOk t ws ∧ (pairOf t ws = none → Q .non M) ∧ ∀ p, pairOf t ws = some p → E (.ref (cls mg "NoTable")) [("pair", pairD (some p))] M
theorem c_need_table (T : Tp K mg) : Cl P w K mg base "need_table" (5 + 1) ["tree", "windows"] (spNeedT mg) := by
  obtain ⟨f, fd, F, hm⟩ := T.d_need_table.ex
  have S := sc_need_table
  have B := T.bn
  have c_find_pair := @c_find_pair P w K mg base T
  refine ⟨⟨f, fd, fnX F S (fun args M Q E h => by (repeat (obtain ⟨_, h⟩ := h)); subst_vars; rfl) (fun cdv A outer s H E hgd hr => ⟨_, (ds_cons (dss 2 S.nd (d_cl c_find_pair hgd (hr.mono (by first | decide | omega)) (d_cons (dv 0) (d_cons (dv 1) d_nil))))
  (ds_one (ds_if (dt_cmp o_notN (dv 2) d_non) (ds_one (ds_raise T.f_NoTable (hr.mono (by first | decide | omega)) T.g_NoTable (d_cons (dv 2) d_nil))) ds_nil))), fun args M Q E' hM hA h => ?_⟩), hm, F.kp, (F.binds (ps := ["tree", "windows"]) fun _ _ _ _ _ _ us hl => match us, hl with | [_, _], _ => rfl)⟩, ?_⟩
  rotate_left
  · exact fun args M Q Q' E E' w w' ⟨t, ws, a1, a2, a3, k1, k2⟩ => ⟨t, ws, a1, a2, a3, fun h => w _ _ (k1 h), fun p h => w' _ _ _ (k2 p h)⟩
  · obtain ⟨t, ws, rfl, ht, hw, k1, k2⟩ := h
    walk_at "go1"
    refine ⟨t, ws, rfl, ht, hw, ?_⟩
    cases e : pairOf t ws with
    | none =>
      walk_at "go1"
      exact See.keep (k1 e)
    | some p =>
      walk_at "go1"
      exact SeeX.keep (k2 p e)
def spEarl (mg : Str → Option Value) : DSp := fun args M Q E => ∃ (t : Tr) (ws : Wn), args = [treeD t, winsD ws] ∧ TreeOk t ∧ WinOk t ws ∧ (pairOf t ws = none → Q (.tup ((earls t ws).map D.int)) M) ∧ ∀ p, pairOf t ws = some p → E (.ref (cls mg "NoTable")) [("pair", pairD (some p))] M
def invE (t : Tr) (ws : Wn) (M0 : Sto) (X : DXS) : List D → List D → Dn → Sto → Prop := fun done todo ρ M => done ++ todo = rng 0 ws.length ∧ ∃ (x3 : Option D), ρ = ⟨[some (treeD t), some (winsD ws), some (.ref M0.length), x3, none, none, none], X⟩ ∧ M = M0 ++ [.lst (((earls t ws).take done.length).map D.int)]
theorem c_earliest (T : Tp K mg) : Cl P w K mg base "earliest" (6 + 1) ["tree", "windows"] (spEarl mg) := by
  obtain ⟨f, fd, F, hm⟩ := T.d_earliest.ex
  have S := sc_earliest
  have B := T.bn
  have c_distance_between := @c_distance_between P w K mg base T
  have c_need_table := @c_need_table P w K mg base T
  refine ⟨⟨f, fd, fnX F S (fun args M Q E h => by (repeat (obtain ⟨_, h⟩ := h)); subst_vars; rfl) (fun cdv A outer s H E hgd hr => ⟨_, (ds_cons (ds_expr (d_cl c_need_table hgd (hr.mono (by first | decide | omega)) (d_cons (dv 0) (d_cons (dv 1) d_nil))))
  (ds_cons (dss 2 S.nd (d_lstM d_nil))
  (ds_cons (ds_forI (passes_of rfl) rfl (di_range1 (by rfl) B.range (d_cons (d_callB o_len (by rfl) B.len b_len (d_cons (dv 1) d_nil)) d_nil)) (dgn 3 S.nd) (ds_one (ds_expr (d_append (dv 2) (d_cons (d_callB (o_maxA rfl) (by rfl) B.max b_max (d_cons (d_lcI (own := [("own", 4), ("least", 5), ("last", 6)]) rfl S.nd (di_enum (by rfl) B.enumerate (d_cons (dv 1) d_nil)) (blkOk_by (N := ["tree", "windows", "found", "mark", "own", "least", "last"]) (sc := defScope s_earliest) (by decide +kernel)) (by decide) (fun _ _ _ _ _ => (dg_tup (n := 2) rfl (dgs_cons (dgn 4 S.nd) (dgs_cons (dg_tup (n := 2) rfl (dgs_cons (dgn 5 S.nd) (dgs_cons (dgn 6 S.nd) dgs_nil))) dgs_nil)))) (fun _ _ _ _ _ => dts_nil) (fun _ _ _ _ _ => (d_op o_sub (dv 5) (d_cl c_distance_between hgd (hr.mono (by first | decide | omega)) (d_cons (dv 0) (d_cons (dv 3) (d_cons (dv 4) d_nil))))))) d_nil)) d_nil)))))
  (ds_one (ds_ret (d_callTy o_tuple (by rfl) B.tuple b_tuple (d_cons (dv 2) d_nil))))))), fun args M Q E' hM hA h => ?_⟩), hm, F.kp, (F.binds (ps := ["tree", "windows"]) fun _ _ _ _ _ _ us hl => match us, hl with | [_, _], _ => rfl)⟩, ?_⟩
  rotate_left
  · exact fun args M Q Q' E E' w w' ⟨t, ws, a1, a2, a3, k1, k2⟩ => ⟨t, ws, a1, a2, a3, fun h => w _ _ (k1 h), fun p h => w' _ _ _ (k2 p h)⟩
  · obtain ⟨t, ws, rfl, ht, hw, k1, k2⟩ := h
    have ht1 := ht.1
    have hwl := hw.1
    have hel := earls_len t ws
    walk_at "go1"
    refine ⟨t, ws, rfl, ht, hw, fun hn => ?_, fun p hp => SeeX.keep (k2 p hp)⟩
    walk_at "go1"
    rw [show ((ws.length : Int)).toNat = ws.length by omega]
    refine ⟨invE t ws M _, ⟨rfl, none, rfl, rfl⟩, fun _ _ _ _ _ => trivial, ?_, ?_⟩
    · rintro done d todo ρ M' ⟨e, x3, rfl, rfl⟩
      obtain ⟨rfl, hlt⟩ := rng_at e
      walk_at "go1"
      rw [enum_map]
      refine lc_mapL _ (fun q : (Int × Option Int) × Nat => D.int (q.1.1 - dist t done.length q.2)) trivial (by rw [idx_len]; omega) (fun q hq kk hk => ?_) ?_
      · obtain ⟨⟨l, o⟩, ix⟩ := q
        have hix := (List.getElem?_eq_some_iff.mp (idx_mem hq)).1
        dsimp only at hix
        walk_at "go1"
        refine ⟨t, done.length, ix, rfl, ht, by omega, by omega, ?_⟩
        walk_at "go1"
        exact hk
      rw [show List.map (fun q : (Int × Option Int) × Nat => D.int (q.1.1 - dist t done.length q.2)) ws.zipIdx = (lowsAt t ws done.length).map D.int by unfold lowsAt; rw [List.map_map]; rfl]
      walk_at "go1"
      rw [intsOf_ints]
      walk_at "go1"
      refine ⟨lows_ne (by omega), ?_⟩
      walk_at "go1"
      refine ⟨by rw [List.length_take]; omega, ?_⟩
      exact ⟨by rw [← e]; simp, _, rfl, by rw [List.length_append, List.length_singleton, take_more (earls_get hlt), List.map_append]; rfl⟩
    · rintro done ρ M' ⟨e, x3, rfl, rfl⟩
      rw [rng_end e, List.take_of_length_le (by omega)]
      walk_at "go1"
      exact See.drop (bels_int _ _) hM (k1 hn)
@[reducible] def latesD (t : Tr) (ws : Wn) : D := .tup ((List.range ws.length).map fun i => optD (late t ws i))
def spLate (mg : Str → Option Value) : DSp := fun args M Q E => ∃ (t : Tr) (ws : Wn), args = [treeD t, winsD ws] ∧ TreeOk t ∧ WinOk t ws ∧ (pairOf t ws = none → Q (latesD t ws) M) ∧ ∀ p, pairOf t ws = some p → E (.ref (cls mg "NoTable")) [("pair", pairD (some p))] M
@[reducible] def lastD (p : Nat × Int) : D := .tup [natD p.1, .int p.2]
theorem pl_lasts (L : List (Nat × Int)) : Pl 2 (.lst (L.map lastD)) := .lst fun d hd => by
  obtain ⟨p, _, rfl⟩ := List.mem_map.mp hd
  exact .tup fun z hz => by
    have : z = natD p.1 ∨ z = .int p.2 := by simpa using hz
    rcases this with rfl | rfl <;> exact Pl.int _
theorem rep_none (n : Nat) : (List.replicate n [D.non]).flatten = List.replicate n D.non := rep_flat n D.non
theorem c_latest (T : Tp K mg) : Cl P w K mg base "latest" (6 + 1) ["tree", "windows"] (spLate mg) := by
  obtain ⟨f, fd, F, hm⟩ := T.d_latest.ex
  have S := sc_latest
  have B := T.bn
  have c_distance_between := @c_distance_between P w K mg base T
  have c_need_table := @c_need_table P w K mg base T
  refine ⟨⟨f, fd, fnX F S (fun args M Q E h => by (repeat (obtain ⟨_, h⟩ := h)); subst_vars; rfl) (fun cdv A outer s H E hgd hr => ⟨_, (ds_cons (ds_expr (d_cl c_need_table hgd (hr.mono (by first | decide | omega)) (d_cons (dv 0) (d_cons (dv 1) d_nil))))
  (ds_cons (dss 2 S.nd (d_lcI (own := [("own", 4), ("least", 5), ("last", 6)]) rfl S.nd (di_enum (by rfl) B.enumerate (d_cons (dv 1) d_nil)) (blkOk_by (N := ["tree", "windows", "lasts", "marks", "own", "least", "last", "mark"]) (sc := defScope s_latest) (by decide +kernel)) (by decide) (fun _ _ _ _ _ => (dg_tup (n := 2) rfl (dgs_cons (dgn 4 S.nd) (dgs_cons (dg_tup (n := 2) rfl (dgs_cons (dgn 5 S.nd) (dgs_cons (dgn 6 S.nd) dgs_nil))) dgs_nil)))) (fun _ _ _ _ _ => (dts_one (dt_cmp o_notN (dv 6) d_non))) (fun _ _ _ _ _ => (d_tup (d_cons (dv 4) (d_cons (dv 6) d_nil))))))
  (ds_cons (ds_if (dt_cmp (o_eq hr.units) (dv 2) (d_lst d_nil)) (ds_one (ds_ret (d_op o_mulA (d_tup (d_cons d_non d_nil)) (d_callB o_len (by rfl) B.len b_len (d_cons (dv 1) d_nil))))) ds_nil)
  (ds_cons (dss 3 S.nd (d_listRg (by rfl) B.list (by rfl) B.range rfl (d_callB o_len (by rfl) B.len b_len (d_cons (dv 1) d_nil))))
  (ds_one (ds_ret (d_callTy o_tuple (by rfl) B.tuple b_tuple (d_cons (d_lcI (own := [("mark", 7)]) rfl S.nd (di_seq (dv 3)) (blkOk_by (N := ["tree", "windows", "lasts", "marks", "own", "least", "last", "mark"]) (sc := defScope s_latest) (by decide +kernel)) (by decide) (fun _ _ _ _ _ => (dgn 7 S.nd)) (fun _ _ _ _ _ => dts_nil) (fun _ _ _ _ _ => (d_callB (o_minA rfl) (by rfl) B.min b_min (d_cons (d_lcI (own := [("own", 4), ("last", 6)]) rfl S.nd (di_seq (dv 2)) (blkOk_in (N := ["tree", "windows", "lasts", "marks", "own", "least", "last", "mark"]) (by decide +kernel) rfl) (by decide) (fun _ _ _ _ _ => (dg_tup (n := 2) rfl (dgs_cons (dgn 4 S.nd) (dgs_cons (dgn 6 S.nd) dgs_nil)))) (fun _ _ _ _ _ => dts_nil) (fun _ _ _ _ _ => (d_op o_add (dv 6) (d_cl c_distance_between hgd (hr.mono (by first | decide | omega)) (d_cons (dv 0) (d_cons (dv 7) (d_cons (dv 4) d_nil))))))) d_nil)))) d_nil)))))))), fun args M Q E' hM hA h => ?_⟩), hm, F.kp, (F.binds (ps := ["tree", "windows"]) fun _ _ _ _ _ _ us hl => match us, hl with | [_, _], _ => rfl)⟩, ?_⟩
  rotate_left
  · exact fun args M Q Q' E E' w w' ⟨t, ws, a1, a2, a3, k1, k2⟩ => ⟨t, ws, a1, a2, a3, fun h => w _ _ (k1 h), fun p h => w' _ _ _ (k2 p h)⟩
  · obtain ⟨t, ws, rfl, ht, hw, k1, k2⟩ := h
    have ht1 := ht.1
    have hwl := hw.1
    have hll := lasts2_len ws
    walk_at "go1"
    refine ⟨t, ws, rfl, ht, hw, fun hn => ?_, fun p hp => SeeX.keep (k2 p hp)⟩
    replace k1 := k1 hn
    walk_at "go1"
    rw [enum_map]
    refine lc_filL _ (fun q : (Int × Option Int) × Nat => (q.1.2.map fun l => (q.2, l)).map lastD) trivial (by rw [idx_len]; omega) (fun q hq kk hk => ?_) ?_
    · obtain ⟨⟨l, o⟩, ix⟩ := q
      cases o with
      | none =>
        walk_at "go1"
        exact hk
      | some z =>
        walk_at "go1"
        exact hk
    rw [show List.filterMap (fun q : (Int × Option Int) × Nat => (q.1.2.map fun l => (q.2, l)).map lastD) ws.zipIdx = (lasts2 ws).map lastD by unfold lasts2; rw [List.map_filterMap]]
    walk_at "go1"
    refine ⟨(pl_lasts _).eqOk (by decide) _, pl_nil.eqOk (by decide) _, ?_⟩
    rw [eqv_nil]
    refine ite_dec (fun h0 => ?_) (fun h0 => ?_)
    · have h0 : lasts2 ws = [] := List.map_eq_nil_iff.mp h0
      rw [show latesD t ws = .tup (List.replicate ws.length D.non) by
        refine congrArg D.tup (List.ext_getElem? fun i => ?_)
        rw [List.getElem?_map, List.getElem?_replicate]
        by_cases hi : i < ws.length
        · rw [List.getElem?_range hi, if_pos hi]
          show some (optD (late t ws i)) = some D.non
          rw [late_none h0]
        · rw [List.getElem?_eq_none (by rw [List.length_range]; omega), if_neg hi]
          rfl] at k1
      walk_at "go1"
      rw [rep_none, show ((ws.length : Int)).toNat = ws.length by omega]
      exact See.keep k1
    · have h0 : lasts2 ws ≠ [] := fun z => h0 (by rw [z]; rfl)
      walk_at "go1"
      rw [show ((ws.length : Int)).toNat = ws.length by omega]
      refine lc_rng (fun i => optD (late t ws i)) trivial (by omega) (fun i hi kk hk => ?_) ?_
      · rw [late_some h0] at hk
        walk_at "go1"
        refine lc_mapL lastD (fun p => D.int (p.2 + dist t i p.1)) trivial (by omega) (fun p hp kk2 hk2 => ?_) ?_
        · obtain ⟨w, hw1, _⟩ := mem_lasts2 hp
          have hp1 := (List.getElem?_eq_some_iff.mp hw1).1
          obtain ⟨a, b⟩ := p
          dsimp only at hp1
          walk_at "go1"
          refine ⟨t, i, a, rfl, ht, by omega, by omega, ?_⟩
          walk_at "go1"
          exact hk2
        rw [show (lasts2 ws).map (fun p => D.int (p.2 + dist t i p.1)) = (lastsAt t ws i).map D.int by rw [lastsAt_eq, List.map_map]; rfl]
        walk_at "go1"
        rw [intsOf_ints]
        walk_at "go1"
        exact ⟨fun z => h0 (lastsAt_nil.mp z), hk⟩
      walk_at "go1"
      exact See.keep k1
def spNear : DSp := fun args M Q _ => ∃ (t : Tr) (m : Nat), args = [treeD t, natD m] ∧ TreeOk t ∧ m ≤ t.length ∧ Q (.ref M.length) (M ++ [.lst ((near t m).map rowD)])
def belF (m : Nat) : D → Option D
  | .tup [.int b, .tup [.int p, .int l]] => if p = m then some (.tup [.int b, .int l]) else none
  | _ => none
theorem belF_row (m b p l : Nat) : belF m (.tup [.int b, rowD (p, l)]) = if (p : Int) = m then some (.tup [.int b, .int l]) else none := rfl
theorem belF_row1 (m : Nat) (q : (Nat × Nat) × Nat) : belF m (.tup [.int (1 + (q.2 : Int)), rowD q.1]) = (if q.1.1 = m then some (q.2 + 1, q.1.2) else none : Option (Nat × Nat)).map rowD := by
  show (if (q.1.1 : Int) = m then _ else _) = _
  by_cases h : q.1.1 = m
  · rw [if_pos (by omega), if_pos h]
    show some (D.tup [.int (1 + (q.2 : Int)), _]) = some (D.tup [.int ((q.2 + 1 : Nat) : Int), _])
    rw [show ((q.2 + 1 : Nat) : Int) = 1 + (q.2 : Int) by omega]
  · rw [if_neg (by omega), if_neg h]
    rfl
theorem bel_eq (t : Tr) (m : Nat) : (enumD 1 (t.map rowD)).filterMap (belF m) = (belows t m).map rowD := by
  rw [enum_map, List.filterMap_map]
  unfold belows
  rw [List.map_filterMap]
  congr 1
  funext q
  exact belF_row1 m q
theorem c_neighbours_of (T : Tp K mg) : Cl P w K mg base "neighbours_of" (0 + 1) ["tree", "mark"] spNear := by
  obtain ⟨f, fd, F, hm⟩ := T.d_neighbours_of.ex
  have S := sc_neighbours_of
  have B := T.bn
  refine ⟨⟨f, fd, fnD F S (fun args M Q E h => by (repeat (obtain ⟨_, h⟩ := h)); subst_vars; rfl) (fun cdv A outer s H E hgd hr => ⟨_, (ds_cons (dss 2 S.nd (d_if (dt_cmp o_gt (dv 1) d_int) (d_lstM (d_cons (d_ix (dv 0) (d_op o_sub (dv 1) d_int) (fun _ _ => rfl)) d_nil)) (d_lstM d_nil)))
  (ds_cons (ds_expr (d_extend (dv 2) (d_cons (d_lcI (own := [("below", 3), ("parent", 4), ("length", 5)]) rfl S.nd (di_enum2 (by rfl) B.enumerate (d_cons (dv 0) (d_cons d_int d_nil))) (blkOk_by (N := ["tree", "mark", "found", "below", "parent", "length"]) (sc := defScope s_neighbours_of) (by decide +kernel)) (by decide) (fun _ _ _ _ _ => (dg_tup (n := 2) rfl (dgs_cons (dgn 3 S.nd) (dgs_cons (dg_tup (n := 2) rfl (dgs_cons (dgn 4 S.nd) (dgs_cons (dgn 5 S.nd) dgs_nil))) dgs_nil)))) (fun _ _ _ _ _ => (dts_one (dt_cmp (o_eq hr.units) (dv 4) (dv 1)))) (fun _ _ _ _ _ => (d_tup (d_cons (dv 3) (d_cons (dv 5) d_nil))))) d_nil)))
  (ds_one (ds_ret (dv 2))))), fun args M Q E' hM hA h => ?_⟩), hm, F.kp, (F.binds (ps := ["tree", "mark"]) fun _ _ _ _ _ _ us hl => match us, hl with | [_, _], _ => rfl)⟩, ?_⟩
  rotate_left
  · exact fun args M Q Q' E E' w _ ⟨x0, x1, x2, x3, x4, k⟩ => ⟨x0, x1, x2, x3, x4, w _ _ k⟩
  · obtain ⟨t, m, rfl, ht, hm, k⟩ := h
    have ht1 := ht.1
    have go : ∀ hd : List (Nat × Nat), hd.length ≤ 1 → hd ++ belows t m = near t m → See M.length Q (.ref M.length) (M ++ [.lst (hd.map rowD ++ (belows t m).map rowD)]) := fun hd _ e => by
      rw [← List.map_append, e]
      exact See.keep k
    have step : ∀ d ∈ enumD 1 (t.map rowD), ∃ b p l : Nat, d = .tup [.int b, rowD (p, l)] := fun d hd => by
      rw [enum_map] at hd
      obtain ⟨q, hq, rfl⟩ := List.mem_map.mp hd
      exact ⟨1 + q.2, q.1.1, q.1.2, by rw [show ((1 + q.2 : Nat) : Int) = 1 + (q.2 : Int) by omega]⟩
    have el : (enumD 1 (t.map rowD)).length ≤ 100000 := by rw [enumD_length, List.length_map]; omega
    have bl : (belows t m).length ≤ 12 := by have := near_len ht m; unfold near at this; rw [List.length_append] at this; omega
    walk_at "go1"
    refine ite_dec (fun h0 => ?_) (fun h0 => ?_)
    · obtain ⟨p, hp, e1, e2, plt⟩ := tree_get ht (m := m) (by omega) hm
      walk_at "go1"
      rw [tree_at (k := m - 1) (by omega) hp]
      walk_at "go1"
      refine lc_filter (belF m) trivial el (fun d hd kk hk => ?_) ?_
      · obtain ⟨b, p, l, rfl⟩ := step d hd
        walk_at "go1"
        refine ite_dec (fun h1 => ?_) (fun h1 => ?_)
        · walk_at "go1"
          rw [belF_row] at hk
          rw [if_pos h1] at hk
          exact hk
        · rw [belF_row] at hk
          rw [if_neg h1] at hk
          exact hk
      · rw [bel_eq]
        walk_at "go1"
        refine go [p] (Nat.le_refl 1) ?_
        unfold near
        rw [if_pos (by omega), List.getD_eq_getElem?_getD, hp]
        rfl
    · walk_at "go1"
      refine lc_filter (belF m) trivial el (fun d hd kk hk => ?_) ?_
      · obtain ⟨b, p, l, rfl⟩ := step d hd
        walk_at "go1"
        refine ite_dec (fun h1 => ?_) (fun h1 => ?_)
        · walk_at "go1"
          rw [belF_row] at hk
          rw [if_pos h1] at hk
          exact hk
        · rw [belF_row] at hk
          rw [if_neg h1] at hk
          exact hk
      · rw [bel_eq]
        walk_at "go1"
        refine go [] (by decide) ?_
        unfold near
        rw [if_neg (by omega)]
theorem blsOf_map (ns : List Bool) : blsOf (ns.map D.bl) = some ns := by
  induction ns with
  | nil => rfl
  | cons n ns ih => rw [List.map_cons, blsOf, ih]; rfl
def spNeed : DSp := fun args M Q _ => ∃ (t : Tr) (xs : List Int) (m : Nat), args = [treeD t, .tup (xs.map D.int), natD m] ∧ TreeOk t ∧ xs.length = t.length + 1 ∧ m ≤ t.length ∧ Q (.bl (needB t xs m)) M
def needF (xs : List Int) (m : Nat) : D → D
  | .tup [.int o, .int l] => .bl (decide (xs.getD m 0 < xs.getD o.toNat 0 + l))
  | d => d
theorem c_is_needed (T : Tp K mg) : Cl P w K mg base "is_needed" (1 + 1) ["tree", "table", "mark"] spNeed := by
  obtain ⟨f, fd, F, hm⟩ := T.d_is_needed.ex
  have S := sc_is_needed
  have B := T.bn
  have c_neighbours_of := @c_neighbours_of P w K mg base T
  refine ⟨⟨f, fd, fnD F S (fun args M Q E h => by (repeat (obtain ⟨_, h⟩ := h)); subst_vars; rfl) (fun cdv A outer s H E hgd hr => ⟨_, (ds_one (ds_ret (d_callB (o_all rfl) (by rfl) B.all b_all (d_cons (d_lcI (own := [("other", 3), ("length", 4)]) rfl S.nd (di_seq (d_cl c_neighbours_of hgd (hr.mono (by first | decide | omega)) (d_cons (dv 0) (d_cons (dv 2) d_nil)))) (blkOk_by (N := ["tree", "table", "mark", "other", "length"]) (sc := defScope s_is_needed) (by decide +kernel)) (by decide) (fun _ _ _ _ _ => (dg_tup (n := 2) rfl (dgs_cons (dgn 3 S.nd) (dgs_cons (dgn 4 S.nd) dgs_nil)))) (fun _ _ _ _ _ => dts_nil) (fun _ _ _ _ _ => (d_cmp o_lt (d_ix (dv 1) (dv 2) (fun _ _ => rfl)) (d_op o_add (d_ix (dv 1) (dv 3) (fun _ _ => rfl)) (dv 4))))) d_nil)))), fun args M Q E' hM hA h => ?_⟩), hm, F.kp, (F.binds (ps := ["tree", "table", "mark"]) fun _ _ _ _ _ _ us hl => match us, hl with | [_, _, _], _ => rfl)⟩, ?_⟩
  rotate_left
  · exact fun args M Q Q' E E' w _ ⟨x0, x1, x2, x3, x4, x5, x6, k⟩ => ⟨x0, x1, x2, x3, x4, x5, x6, w _ _ k⟩
  · obtain ⟨t, xs, m, rfl, ht, hx, hm, k⟩ := h
    walk_at "go1"
    refine ⟨t, m, rfl, ht, hm, ?_⟩
    walk_at "go1"
    refine lc_map (needF xs m) (get_new _ _) (by rw [List.length_map]; have := near_len ht m; omega) (fun d hd kk hk => ?_) ?_
    · obtain ⟨q, hq, rfl⟩ := List.mem_map.mp hd
      obtain ⟨q1, q2⟩ := near_ok ht hm q hq
      walk_at "go1"
      rw [int_at (j := m) rfl (by omega)]
      walk_at "go1"
      rw [int_at (j := q.1) rfl (by omega)]
      walk_at "go1"
      exact hk
    · have e : ((near t m).map rowD).map (needF xs m) = ((near t m).map fun q => decide (xs.getD m 0 < xs.getD q.1 0 + q.2)).map D.bl := by
        rw [List.map_map, List.map_map]
        rfl
      rw [e]
      walk_at "go1"
      rw [blsOf_map]
      walk_at "go1"
      have e2 : ((near t m).map fun q => decide (xs.getD m 0 < xs.getD q.1 0 + q.2)).all id = needB t xs m := by
        unfold needB
        rw [List.all_map]
        rfl
      rw [e2]
      exact See.drop rfl hM k
def neeF (t : Tr) (xs : List Int) (q : Int × Nat) : Option D := if needB t xs q.2 = true then some (.tup [natD q.2, .int q.1]) else none
def needed (t : Tr) (xs : List Int) : List D := xs.zipIdx.filterMap (neeF t xs)
def spNeeded : DSp := fun args M Q _ => ∃ (t : Tr) (xs : List Int), args = [treeD t, .tup (xs.map D.int)] ∧ TreeOk t ∧ xs.length = t.length + 1 ∧ Q (.tup (needed t xs)) M
def neeD (t : Tr) (xs : List Int) : D → Option D
  | .tup [.int i, .int x] => if needB t xs i.toNat = true then some (.tup [.int i, .int x]) else none
  | _ => none
theorem neeD_row (t : Tr) (xs : List Int) (m : Nat) (x : Int) : neeD t xs (.tup [natD m, .int x]) = neeF t xs (x, m) := rfl
theorem nee_eq (t : Tr) (xs : List Int) : (enumD 0 (xs.map D.int)).filterMap (neeD t xs) = needed t xs := by
  rw [enum_map, List.filterMap_map]
  unfold needed
  congr 1
  funext q
  show neeD t xs (.tup [.int (0 + (q.2 : Int)), .int q.1]) = _
  rw [Int.zero_add]
  exact neeD_row t xs q.2 q.1
theorem c_needed_pushes (T : Tp K mg) : Cl P w K mg base "needed_pushes" (2 + 1) ["tree", "table"] spNeeded := by
  obtain ⟨f, fd, F, hm⟩ := T.d_needed_pushes.ex
  have S := sc_needed_pushes
  have B := T.bn
  have c_is_needed := @c_is_needed P w K mg base T
  refine ⟨⟨f, fd, fnD F S (fun args M Q E h => by (repeat (obtain ⟨_, h⟩ := h)); subst_vars; rfl) (fun cdv A outer s H E hgd hr => ⟨_, (ds_one (ds_ret (d_callTy o_tuple (by rfl) B.tuple b_tuple (d_cons (d_lcI (own := [("mark", 2), ("number", 3)]) rfl S.nd (di_enum (by rfl) B.enumerate (d_cons (dv 1) d_nil)) (blkOk_by (N := ["tree", "table", "mark", "number"]) (sc := defScope s_needed_pushes) (by decide +kernel)) (by decide) (fun _ _ _ _ _ => (dg_tup (n := 2) rfl (dgs_cons (dgn 2 S.nd) (dgs_cons (dgn 3 S.nd) dgs_nil)))) (fun _ _ _ _ _ => (dts_one (dt_val (d_cl c_is_needed hgd (hr.mono (by first | decide | omega)) (d_cons (dv 0) (d_cons (dv 1) (d_cons (dv 2) d_nil))))))) (fun _ _ _ _ _ => (d_tup (d_cons (dv 2) (d_cons (dv 3) d_nil))))) d_nil)))), fun args M Q E' hM hA h => ?_⟩), hm, F.kp, (F.binds (ps := ["tree", "table"]) fun _ _ _ _ _ _ us hl => match us, hl with | [_, _], _ => rfl)⟩, ?_⟩
  rotate_left
  · exact fun args M Q Q' E E' w _ ⟨x0, x1, x2, x3, x4, k⟩ => ⟨x0, x1, x2, x3, x4, w _ _ k⟩
  · obtain ⟨t, xs, rfl, ht, hx, k⟩ := h
    have ht1 := ht.1
    walk_at "go1"
    refine lc_filter (neeD t xs) trivial (by rw [enumD_length, List.length_map]; omega) (fun d hd kk hk => ?_) ?_
    · rw [enum_map] at hd
      obtain ⟨q, hq, rfl⟩ := List.mem_map.mp hd
      have h1 := (List.getElem?_eq_some_iff.mp (idx_mem hq)).1
      rw [Int.zero_add] at hk ⊢
      walk_at "go1"
      refine ⟨t, xs, q.2, rfl, ht, hx, by omega, ?_⟩
      rw [neeD_row] at hk
      unfold neeF at hk
      refine ite_bl (fun h2 => ?_) (fun h2 => ?_)
      · walk_at "go1"
        rw [if_pos h2] at hk
        exact hk
      · rw [h2] at hk
        exact hk
    · rw [nee_eq]
      walk_at "go1"
      exact See.keep k
theorem needed_P (t : Tr) (xs : List Int) : needed t xs = (needP t xs).map pushD := by
  unfold needed needP
  rw [List.map_filterMap]
  congr 1
  funext q
  unfold neeF
  split <;> rfl
def partL (t : Tr) (ws : Wn) (i : Nat) : List Nat := (List.range (t.length + 1)).filter (inPart t ws i)
def partD (t : Tr) (ws : Wn) (i : Nat) : D := .tup ((partL t ws i).map natD)
theorem filterMap_if {α β : Type} (p : α → Bool) (f : α → β) : ∀ L : List α, L.filterMap (fun j => if p j = true then some (f j) else none) = (L.filter p).map f
  | [] => rfl
  | x :: L => by
    rw [List.filterMap_cons, List.filter_cons, filterMap_if p f L]
    split <;> rename_i h <;> split <;> rename_i h2 <;> simp_all
theorem rng_nats (n : Nat) : rng 0 n = (List.range n).map natD := by
  unfold rng
  refine List.map_congr_left fun i _ => ?_
  rw [Int.zero_add]
def spMarksOf : DSp := fun args M Q _ => ∃ (t : Tr), args = [treeD t] ∧ TreeOk t ∧ Q (.lst ((List.range (t.length + 1)).map natD)) M
theorem c_marks_of (T : Tp K mg) : Cl P w K mg base "marks_of" (0 + 1) ["tree"] spMarksOf := by
  obtain ⟨f, fd, F, hm⟩ := T.d_marks_of.ex
  have S := sc_marks_of
  have B := T.bn
  refine ⟨⟨f, fd, fnD F S (fun args M Q E h => by (repeat (obtain ⟨_, h⟩ := h)); subst_vars; rfl) (fun cdv A outer s H E hgd hr => ⟨_, (ds_one (ds_ret (d_listRg (by rfl) B.list (by rfl) B.range rfl (d_op o_add (d_callB o_len (by rfl) B.len b_len (d_cons (dv 0) d_nil)) d_int)))), fun args M Q E' hM hA h => ?_⟩), hm, F.kp, (F.binds (ps := ["tree"]) fun _ _ _ _ _ _ us hl => match us, hl with | [_], _ => rfl)⟩, ?_⟩
  rotate_left
  · exact fun args M Q Q' E E' w _ ⟨x0, x1, x2, k⟩ => ⟨x0, x1, x2, w _ _ k⟩
  · obtain ⟨t, rfl, ht, k⟩ := h
    have ht1 := ht.1
    rw [← rng_nats] at k
    walk_at "go1"
    rw [show ((t.length : Int) + 1).toNat = t.length + 1 by omega]
    exact See.keep k
def spServed : DSp := fun args M Q _ => ∃ (t : Tr) (ws : Wn) (i : Nat), args = [treeD t, winsD ws, .tup ((earls t ws).map D.int), natD i] ∧ TreeOk t ∧ WinOk t ws ∧ i ≤ t.length ∧ Q (partD t ws i) M
theorem c_served_from (T : Tp K mg) : Cl P w K mg base "served_from" (4 + 1) ["tree", "windows", "early", "mark"] spServed := by
  obtain ⟨f, fd, F, hm⟩ := T.d_served_from.ex
  have S := sc_served_from
  have B := T.bn
  have c_distance_between := @c_distance_between P w K mg base T
  have c_marks_of := @c_marks_of P w K mg base T
  refine ⟨⟨f, fd, fnD F S (fun args M Q E h => by (repeat (obtain ⟨_, h⟩ := h)); subst_vars; rfl) (fun cdv A outer s H E hgd hr => ⟨_, (ds_cons (dss 4 S.nd (d_ix (d_ix (dv 1) (dv 3) (fun _ _ => rfl)) d_int (fun _ _ => rfl)))
  (ds_cons (ds_if (dt_cmp o_isN (dv 4) d_non) (ds_one (ds_ret (d_callTy o_tuple (by rfl) B.tuple b_tuple (d_cons (d_cl c_marks_of hgd (hr.mono (by first | decide | omega)) (d_cons (dv 0) d_nil)) d_nil)))) ds_nil)
  (ds_one (ds_ret (d_callTy o_tuple (by rfl) B.tuple b_tuple (d_cons (d_lcI (own := [("one", 5)]) rfl S.nd (di_seq (d_cl c_marks_of hgd (hr.mono (by first | decide | omega)) (d_cons (dv 0) d_nil))) (blkOk_by (N := ["tree", "windows", "early", "mark", "last", "one"]) (sc := defScope s_served_from) (by decide +kernel)) (by decide) (fun _ _ _ _ _ => (dgn 5 S.nd)) (fun _ _ _ _ _ => (dts_one (dt_cmp o_le (d_op o_add (d_ix (dv 2) (dv 5) (fun _ _ => rfl)) (d_cl c_distance_between hgd (hr.mono (by first | decide | omega)) (d_cons (dv 0) (d_cons (dv 5) (d_cons (dv 3) d_nil))))) (dv 4)))) (fun _ _ _ _ _ => (dv 5))) d_nil)))))), fun args M Q E' hM hA h => ?_⟩), hm, F.kp, (F.binds (ps := ["tree", "windows", "early", "mark"]) fun _ _ _ _ _ _ us hl => match us, hl with | [_, _, _, _], _ => rfl)⟩, ?_⟩
  rotate_left
  · exact fun args M Q Q' E E' w _ ⟨x0, x1, x2, x3, x4, x5, x6, k⟩ => ⟨x0, x1, x2, x3, x4, x5, x6, w _ _ k⟩
  · obtain ⟨t, ws, i, rfl, ht, hw, hi, k⟩ := h
    obtain ⟨w, w1, w2, w3⟩ := win_get hw hi
    obtain ⟨lo, o⟩ := w
    have ht1 := ht.1
    have hwl := hw.1
    unfold partD partL at k
    walk_at "go1"
    rw [map_at (k := i) rfl w1]
    walk_at "go1"
    cases o with
    | none =>
      rw [show (List.range (t.length + 1)).filter (inPart t ws i) = List.range (t.length + 1) from List.filter_eq_self.mpr fun x _ => by unfold inPart; rw [w2]] at k
      walk_at "go1"
      refine ⟨t, rfl, ht, ?_⟩
      walk_at "go1"
      exact See.keep k
    | some l =>
      walk_at "go1"
      refine ⟨t, rfl, ht, ?_⟩
      walk_at "go1"
      refine lc_filL natD (fun j => if inPart t ws i j = true then some (natD j) else none) (L := List.range (t.length + 1)) (st := stYes) (M := M) trivial (by rw [List.length_range]; omega) (fun j hj kk hk => ?_) ?_
      · have hj := List.mem_range.mp hj
        have ep : inPart t ws i j = decide (earl t ws j + dist t j i ≤ l) := by unfold inPart; rw [w2]
        rw [ep] at hk
        walk_at "go1"
        rw [atI_of (j := j) (x := D.int (earl t ws j)) rfl (by rw [List.getElem?_map, earls_get (by omega)]; rfl)]
        walk_at "go1"
        refine ⟨t, j, i, rfl, ht, by omega, by omega, ?_⟩
        walk_at "go1"
        by_cases h : earl t ws j + dist t j i ≤ l
        · rw [decide_eq_true h] at hk ⊢
          walk_at "go1"
          exact hk
        · rw [decide_eq_false h] at hk ⊢
          walk_at "go1"
          exact hk
      · rw [filterMap_if]
        walk_at "go1"
        exact See.keep k
def spDepths : DSp := fun args M Q _ => ∃ (t : Tr), args = [treeD t] ∧ TreeOk t ∧ Q (.ref M.length) (M ++ [.lst ((List.range (t.length + 1)).map fun m => natD (dep t m))])
def invDp (t : Tr) (M0 : Sto) : List D → List D → Dn → Sto → Prop := fun done todo ρ M => done ++ todo = t.map rowD ∧ ∃ (x2 x3 : Option D), ρ = ⟨[some (treeD t), some (.ref M0.length), x2, x3], noX⟩ ∧ M = M0 ++ [.lst ((List.range (done.length + 1)).map fun m => natD (dep t m))]
theorem c_depths_of (T : Tp K mg) : Cl P w K mg base "depths_of" (0 + 1) ["tree"] spDepths := by
  obtain ⟨f, fd, F, hm⟩ := T.d_depths_of.ex
  have S := sc_depths_of
  have B := T.bn
  refine ⟨⟨f, fd, fnD F S (fun args M Q E h => by (repeat (obtain ⟨_, h⟩ := h)); subst_vars; rfl) (fun cdv A outer s H E hgd hr => ⟨_, (ds_cons (dss 1 S.nd (d_lstM (d_cons d_int d_nil)))
  (ds_cons (ds_forI (passes_of rfl) rfl (di_seq (dv 0)) (dg_tup (n := 2) rfl (dgs_cons (dgn 2 S.nd) (dgs_cons (dgn 3 S.nd) dgs_nil))) (ds_one (ds_expr (d_append (dv 1) (d_cons (d_op o_add (d_ix (dv 1) (dv 2) (fun _ _ => rfl)) d_int) d_nil)))))
  (ds_one (ds_ret (dv 1))))), fun args M Q E' hM hA h => ?_⟩), hm, F.kp, (F.binds (ps := ["tree"]) fun _ _ _ _ _ _ us hl => match us, hl with | [_], _ => rfl)⟩, ?_⟩
  rotate_left
  · exact fun args M Q Q' E E' w _ ⟨x0, x1, x2, k⟩ => ⟨x0, x1, x2, w _ _ k⟩
  · obtain ⟨t, rfl, ht, k⟩ := h
    have ht1 := ht.1
    walk_at "go1"
    refine ⟨invDp t M, ⟨rfl, none, none, rfl, by rw [show (List.range (([] : List D).length + 1)).map (fun m => natD (dep t m)) = [natD (dep t 0)] from rfl, dep_0]; rfl⟩, fun _ _ _ _ _ => trivial, ?_, ?_⟩
    · rintro done d todo ρ M' ⟨e, x2, x3, rfl, rfl⟩
      have hd : (t.map rowD)[done.length]? = some d := by rw [← e]; simp
      rw [List.getElem?_map] at hd
      obtain ⟨p, hp, rfl⟩ := Option.map_eq_some_iff.mp hd
      have hlt := (List.getElem?_eq_some_iff.mp hp).1
      have hpo := ht.2 _ _ hp
      have hpar := par_of ht hp
      have hdp := dep_s t (m := done.length + 1) (by omega)
      rw [hpar.1] at hdp
      walk_at "go1"
      rw [atI_of (j := p.1) (x := natD (dep t p.1)) rfl (by rw [List.getElem?_map, List.getElem?_range (by omega)]; rfl)]
      walk_at "go1"
      refine ⟨by rw [List.length_range]; omega, by rw [← e]; simp, _, _, rfl, ?_⟩
      rw [List.length_append, List.length_singleton, List.range_succ (n := done.length + 1), List.map_append, List.map_singleton, hdp]
      rfl
    · rintro done ρ M' ⟨e, x2, x3, rfl, rfl⟩
      have hdl : done.length = t.length := by have := congrArg List.length e; simpa using this
      rw [hdl]
      walk_at "go1"
      exact See.keep k
theorem enum_mid {ds done todo : List D} {d : D} (e : done ++ d :: todo = enumD 0 ds) : ∃ x, ds[done.length]? = some x ∧ d = .tup [natD done.length, x] ∧ done.length < ds.length := by
  have h1 : (enumD 0 ds)[done.length]? = some d := by rw [← e, List.getElem?_append_right (Nat.le_refl _), Nat.sub_self]; rfl
  obtain ⟨x, h2, h3⟩ := enumD_get h1
  rw [Int.zero_add] at h3
  exact ⟨x, h2, h3, (List.getElem?_eq_some_iff.mp h2).1⟩
theorem enum_end {ds done : List D} (e : done ++ [] = enumD 0 ds) : done.length = ds.length := by
  have := congrArg List.length e
  rw [List.append_nil, enumD_length] at this
  exact this
@[reducible] def swD (q : Swp) : D := .tup [natD q.top, natD q.mark]
/-- what is gathered: minus the depth, the top, the mark -/
@[reducible] def trD (t : Tr) (q : Swp) : D := .tup [.int (0 - (dep t q.top : Int)), natD q.top, natD q.mark]
structure SwG (t : Tr) (ws : Wn) (k : Nat) (L : List Swp) : Prop where
  marks : L.map Swp.mark = List.range k
  top : ∀ q ∈ L, q.top ≤ t.length ∧ partB t ws q.mark q.top = true ∧ ∀ x, partB t ws q.mark x = true → dep t q.top ≤ dep t x
structure SwL (t : Tr) (ws : Wn) (L : List Swp) : Prop where
  perm : (L.map Swp.mark).Perm (List.range (t.length + 1))
  top : ∀ q ∈ L, q.top ≤ t.length ∧ partB t ws q.mark q.top = true ∧ ∀ x, partB t ws q.mark x = true → dep t q.top ≤ dep t x
  ord : L.Pairwise fun p q => dep t q.top ≤ dep t p.top
  det : ∃ L0, SwG t ws (t.length + 1) L0 ∧ L = L0.mergeSort (PySem.W.dataLe false fun q => toPy (trD t q))
def spSweep : DSp := fun args M Q _ => ∃ (t : Tr) (ws : Wn), args = [treeD t, .lst ((List.range (t.length + 1)).map (partD t ws))] ∧ TreeOk t ∧ WinOk t ws ∧ pairOf t ws = none ∧ ∀ L, SwL t ws L → Q (.lst (L.map swD)) M
def invSw (t : Tr) (ws : Wn) (M0 : Sto) : List D → List D → Dn → Sto → Prop := fun done todo ρ M => done ++ todo = enumD 0 ((List.range (t.length + 1)).map (partD t ws)) ∧ ∃ (L : List Swp) (x4 x5 x6 x7 : Option D), ρ = ⟨[some (treeD t), some (.lst ((List.range (t.length + 1)).map (partD t ws))), some (.ref M0.length), some (.ref (M0.length + 1)), x4, x5, x6, x7, none], noX⟩ ∧ M = M0 ++ [.lst ((List.range (t.length + 1)).map fun m => natD (dep t m)), .lst (L.map (trD t))] ∧ SwG t ws done.length L
theorem gX0 {M : Sto} {a b : Cell} : (M ++ [a, b])[M.length]? = some a := by rw [List.getElem?_append_right (Nat.le_refl _), Nat.sub_self]; rfl
theorem pus_all : ∀ {ds : List D}, (∀ d ∈ ds, pu d = true) → pus ds = true
  | [], _ => rfl
  | d :: ds, h => by
    show (pu d && pus ds) = true
    rw [h d List.mem_cons_self, pus_all fun x hx => h x (List.mem_cons_of_mem _ hx)]
    rfl
theorem sX0 {M : Sto} {a b c : Cell} : (M ++ [a, b]).set M.length c = M ++ [c, b] := by rw [List.set_append_right _ _ (Nat.le_refl _), Nat.sub_self]; rfl
theorem gX1 {M : Sto} {a b : Cell} : (M ++ [a, b])[M.length + 1]? = some b := by rw [List.getElem?_append_right (by omega), Nat.add_sub_cancel_left]; rfl
theorem sX1 {M : Sto} {a b c : Cell} : (M ++ [a, b]).set (M.length + 1) c = M ++ [a, c] := by rw [List.set_append_right _ _ (by omega), Nat.add_sub_cancel_left]; rfl
theorem tr_le {t : Tr} {p q : Swp} (h : PySem.W.dataLe false (fun q => toPy (trD t q)) p q = true) : dep t q.top ≤ dep t p.top := by
  have h2 : PySem.W.dataLt (toPy (trD t q)) (toPy (trD t p)) = false := by
    have h3 : (!(PySem.W.dataLt (toPy (trD t q)) (toPy (trD t p)))) = true := h
    rw [Bool.not_eq_true'] at h3
    exact h3
  rw [show toPy (trD t q) = .tuple [.int (0 - (dep t q.top : Int)), .int (q.top : Int), .int (q.mark : Int)] from rfl, show toPy (trD t p) = .tuple [.int (0 - (dep t p.top : Int)), .int (p.top : Int), .int (p.mark : Int)] from rfl, PySem.W.dataLt_tuple] at h2
  simp [PySem.W.keyToks, PySem.W.keyToksAll, PyProof.Rows.lex_cons, PyProof.Rows.lexLt, itemOrd, itemLt] at h2
  omega
theorem pus_tr (t : Tr) : ∀ L : List Swp, pus (L.map (trD t)) = true
  | [] => rfl
  | q :: L => by
    show (pu (trD t q) && pus (L.map (trD t))) = true
    rw [pus_tr t L]
    rfl
theorem swL_of {t : Tr} {ws : Wn} {L : List Swp} (G : SwG t ws (t.length + 1) L) : SwL t ws (L.mergeSort (PySem.W.dataLe false fun q => toPy (trD t q))) := by
  refine ⟨?_, fun q hq => G.top q (List.mem_mergeSort.mp hq), ?_, ?_⟩
  · rw [← G.marks]
    exact (List.mergeSort_perm L _).map _
  · exact (PySem.W.sort_pairwise (PySem.W.sortLe_total _ _ _) L).imp fun h => tr_le h
  · exact ⟨L, G, rfl⟩
theorem partL_mem {t : Tr} {ws : Wn} {i j : Nat} : j ∈ partL t ws i ↔ partB t ws i j = true := by
  unfold partL
  rw [List.mem_filter, List.mem_range, partB_iff]
  exact and_congr_left fun _ => by omega
theorem c_sweep_order (T : Tp K mg) : Cl P w K mg base "sweep_order" (5 + 1) ["tree", "parts"] spSweep := by
  obtain ⟨f, fd, F, hm⟩ := T.d_sweep_order.ex
  have S := sc_sweep_order
  have B := T.bn
  have c_depths_of := @c_depths_of P w K mg base T
  refine ⟨⟨f, fd, fnD F S (fun args M Q E h => by (repeat (obtain ⟨_, h⟩ := h)); subst_vars; rfl) (fun cdv A outer s H E hgd hr => ⟨_, (ds_cons (dss 2 S.nd (d_cl c_depths_of hgd (hr.mono (by first | decide | omega)) (d_cons (dv 0) d_nil)))
  (ds_cons (dss 3 S.nd (d_lstM d_nil))
  (ds_cons (ds_forI (passes_of rfl) rfl (di_enum (by rfl) B.enumerate (d_cons (dv 1) d_nil)) (dg_tup (n := 2) rfl (dgs_cons (dgn 4 S.nd) (dgs_cons (dgn 5 S.nd) dgs_nil))) (ds_cons (ds_asg (d_callB (o_minP rfl hr.units) (by rfl) B.min b_min (d_cons (d_lcI (own := [("one", 8)]) rfl S.nd (di_seq (dv 5)) (blkOk_by (N := ["tree", "parts", "depths", "pairs", "mark", "part", "depth", "top", "one"]) (sc := defScope s_sweep_order) (by decide +kernel)) (by decide) (fun _ _ _ _ _ => (dgn 8 S.nd)) (fun _ _ _ _ _ => dts_nil) (fun _ _ _ _ _ => (d_tup (d_cons (d_ix (dv 2) (dv 8) (fun _ _ => rfl)) (d_cons (dv 8) d_nil))))) d_nil)) (dg_tupL (n := 2) rfl (dgs_cons (dgn 6 S.nd) (dgs_cons (dgn 7 S.nd) dgs_nil))))
  (ds_one (ds_expr (d_append (dv 3) (d_cons (d_tup (d_cons (d_op o_sub d_int (dv 6)) (d_cons (dv 7) (d_cons (dv 4) d_nil)))) d_nil))))))
  (ds_one (ds_ret (d_lcI (own := [("depth", 6), ("top", 7), ("mark", 4)]) rfl S.nd (di_seq (d_callB (o_sortD hr.units) (by rfl) B.sorted b_sorted (d_cons (dv 3) d_nil))) (blkOk_by (N := ["tree", "parts", "depths", "pairs", "mark", "part", "depth", "top", "one"]) (sc := defScope s_sweep_order) (by decide +kernel)) (by decide) (fun _ _ _ _ _ => (dg_tup (n := 3) rfl (dgs_cons (dgn 6 S.nd) (dgs_cons (dgn 7 S.nd) (dgs_cons (dgn 4 S.nd) dgs_nil))))) (fun _ _ _ _ _ => dts_nil) (fun _ _ _ _ _ => (d_tup (d_cons (dv 7) (d_cons (dv 4) d_nil)))))))))), fun args M Q E' hM hA h => ?_⟩), hm, F.kp, (F.binds (ps := ["tree", "parts"]) fun _ _ _ _ _ _ us hl => match us, hl with | [_, _], _ => rfl)⟩, ?_⟩
  rotate_left
  · exact fun args M Q Q' E E' w _ ⟨t, ws, a, b, c, d, k⟩ => ⟨t, ws, a, b, c, d, fun L h => w _ _ (k L h)⟩
  · obtain ⟨t, ws, rfl, ht, hw, hn, k⟩ := h
    have ht1 := ht.1
    have hwl := hw.1
    walk_at "go1"
    refine ⟨t, rfl, ht, ?_⟩
    walk_at "go1"
    refine ⟨invSw t ws M, ⟨rfl, [], none, none, none, none, rfl, by simp, ⟨rfl, fun _ h => nomatch h⟩⟩, fun _ _ _ _ _ => trivial, ?_, ?_⟩
    · rintro done d todo ρ M' ⟨e, L, x4, x5, x6, x7, rfl, rfl, G⟩
      obtain ⟨x, hx, rfl, hlt⟩ := enum_mid e
      rw [List.length_map, List.length_range] at hlt
      rw [List.getElem?_map, List.getElem?_range hlt] at hx
      obtain rfl := Option.some.inj hx
      have hpl : (partL t ws done.length).length ≤ 12 := by
        have := List.length_filter_le (inPart t ws done.length) (List.range (t.length + 1))
        rw [List.length_range] at this
        show (List.filter _ _).length ≤ _
        omega
      walk_at "go1"
      refine lc_mapL natD (fun j => D.tup [natD (dep t j), natD j]) (L := partL t ws done.length) (st := stYes) trivial (by omega) (fun j hj kk hk => ?_) ?_
      · have hj1 := (partB_iff.mp (partL_mem.mp hj)).1
        walk_at "go1"
        rw [gX0]
        walk_at "go1"
        rw [atI_of (j := j) (x := natD (dep t j)) rfl (by rw [List.getElem?_map, List.getElem?_range (by omega)]; rfl)]
        walk_at "go1"
        exact hk
      · walk_at "go1"
        refine ⟨(partL t ws done.length).map fun j => ((dep t j : Int), (j : Int)), by rw [List.map_map]; rfl, ?_, fun m hm hmin => ?_⟩
        · intro h0
          have h1 := partL_mem.mpr (partB_iff.mpr ⟨by omega, part_self hn (i := done.length) (by omega)⟩)
          rw [List.map_eq_nil_iff.mp h0] at h1
          cases h1
        obtain ⟨j, hj, rfl⟩ := List.mem_map.mp hm
        have hjB := partL_mem.mp hj
        have hLl : L.length = done.length := by have := congrArg List.length G.marks; rw [List.length_map, List.length_range] at this; exact this
        walk_at "go1"
        refine ⟨⟨_, gX1⟩, ?_⟩
        walk_at "go1"
        rw [gX1]
        walk_at "go1"
        refine ⟨by rw [← e]; simp, L ++ [⟨j, done.length⟩], _, _, _, _, rfl, by rw [sX1, List.map_append, List.map_singleton], ⟨by rw [List.map_append, List.map_singleton, G.marks, List.length_append, List.length_singleton, List.range_succ], fun q hq => ?_⟩⟩
        rcases List.mem_append.mp hq with hq | hq
        · exact G.top q hq
        · obtain rfl := List.mem_singleton.mp hq
          refine ⟨(partB_iff.mp hjB).1, hjB, fun x hx => ?_⟩
          have h1 := hmin _ (List.mem_map.mpr ⟨x, partL_mem.mpr hx, rfl⟩)
          unfold pLe at h1
          dsimp only at h1 ⊢
          omega
    · rintro done ρ M' ⟨e, L, x4, x5, x6, x7, rfl, rfl, G⟩
      have hdl := enum_end e
      rw [List.length_map, List.length_range] at hdl
      have hLl : L.length = t.length + 1 := by have := congrArg List.length G.marks; rw [List.length_map, List.length_range, hdl] at this; exact this
      rw [hdl] at G
      have k1 := k _ (swL_of G)
      walk_at "go1"
      refine ⟨L.map (trD t), by show (match (M ++ [_, _])[M.length + 1]? with | some (Cell.lst ds) => some ds | _ => none) = _; rw [gX1], pus_tr t L, ?_, ?_, ?_, by rw [List.length_map]; omega, ?_⟩
      · intro x hx y hy
        obtain ⟨a, ha, rfl⟩ := List.mem_map.mp hx
        obtain ⟨b, hb, rfl⟩ := List.mem_map.mp hy
        obtain ⟨p, _, rfl⟩ := List.mem_map.mp ha
        obtain ⟨q, _, rfl⟩ := List.mem_map.mp hb
        rfl
      · refine .inl fun x hx => ?_
        obtain ⟨a, ha, rfl⟩ := List.mem_map.mp hx
        obtain ⟨p, _, rfl⟩ := List.mem_map.mp ha
        exact ⟨_, _, rfl⟩
      · intro x hx
        obtain ⟨p, _, rfl⟩ := List.mem_map.mp hx
        exact Nat.le_of_ble_eq_true rfl
      rw [← List.map_mergeSort (r := PySem.W.dataLe false fun q => toPy (trD t q)) (s := leD) (f := trD t) (l := L) (fun a _ b _ => rfl)]
      have hSl : (L.mergeSort (PySem.W.dataLe false fun q => toPy (trD t q))).length = t.length + 1 := by rw [List.length_mergeSort, hLl]
      generalize L.mergeSort (PySem.W.dataLe false fun q => toPy (trD t q)) = SL at k1 hSl ⊢
      walk_at "go1"
      refine lc_mapL (trD t) swD (L := SL) (st := stYes) trivial (by omega) (fun q hq kk hk => ?_) ?_
      · walk_at "go1"
        exact hk
      · walk_at "go1"
        rw [show ∀ a b : Cell, M ++ [a, b] = M ++ [a] ++ [b] from fun a b => by simp]
        exact See.drop2 (bels_of fun d hd => by
          obtain ⟨q, _, rfl⟩ := List.mem_map.mp hd
          rfl) hM k1
structure FewOk (t : Tr) (ws : Wn) (L : List Swp) : Prop where
  top : ∀ q ∈ L, q.top ≤ t.length ∧ q.mark ≤ t.length
  ne : L ≠ []
  ap : L.Pairwise fun p q => ∀ x, ¬ (partB t ws p.mark x = true ∧ partB t ws q.mark x = true)
  tin : ∀ q ∈ L, partB t ws q.mark q.top = true
  served : ∀ i, i ≤ t.length → ∃ p ∈ L, partB t ws i p.top = true
  det : ∃ SL, SwL t ws SL ∧ L = SL.foldl (swStep (partB t ws)) []
theorem sw_same : ∀ {L L' : List Swp}, L.map Swp.mark = L'.map Swp.mark → (∀ q ∈ L, ∀ q' ∈ L', q.mark = q'.mark → q = q') → L = L'
  | [], [], _, _ => rfl
  | [], _ :: _, e, _ => by cases e
  | _ :: _, [], e, _ => by cases e
  | q :: L, q' :: L', e, h => by
    rw [List.map_cons, List.map_cons] at e
    obtain ⟨e1, e2⟩ := List.cons.inj e
    rw [h q List.mem_cons_self q' List.mem_cons_self e1, sw_same e2 fun p hp p' hp' => h p (List.mem_cons_of_mem _ hp) p' (List.mem_cons_of_mem _ hp')]
theorem SwG.uniq {t : Tr} {ws : Wn} {k : Nat} {L L' : List Swp} (hl : 0 < ws.length) (h : SwG t ws k L) (h' : SwG t ws k L') : L = L' := by
  refine sw_same (h.marks.trans h'.marks.symm) fun q hq q' hq' e => ?_
  obtain ⟨a1, a2, a3⟩ := h.top q hq
  obtain ⟨b1, b2, b3⟩ := h'.top q' hq'
  obtain ⟨x, m⟩ := q
  obtain ⟨y, m'⟩ := q'
  cases (show m = m' from e)
  have hs := part_star (t := t) (ws := ws) hl m
  have h1 := top_all hs a2 a3 b2
  have h2 := b3 x a2
  rcases above_dep h1 with h3 | h3
  · cases (show x = y from h3)
    rfl
  · have h3 : dep t x < dep t y := h3
    have h2 : dep t y ≤ dep t x := h2
    omega
theorem FewOk.uniq {t : Tr} {ws : Wn} {L L' : List Swp} (hl : 0 < ws.length) (h : FewOk t ws L) (h' : FewOk t ws L') : L = L' := by
  obtain ⟨S, ⟨_, _, _, G, g, rfl⟩, rfl⟩ := h.det
  obtain ⟨S', ⟨_, _, _, G', g', rfl⟩, rfl⟩ := h'.det
  rw [g.uniq hl g']
theorem sw_len (part : Nat → Nat → Bool) : ∀ (L st : List Swp), (L.foldl (swStep part) st).length ≤ st.length + L.length
  | [], st => Nat.le_refl _
  | q :: L, st => by
    have h1 := sw_len part L (swStep part st q)
    have h2 : (swStep part st q).length ≤ st.length + 1 := by
      unfold swStep
      split
      · omega
      · rw [List.length_append]; exact Nat.le_refl _
    rw [List.foldl_cons, List.length_cons]
    omega
theorem SwL.mk_le {t : Tr} {ws : Wn} {L : List Swp} (h : SwL t ws L) {q : Swp} (hq : q ∈ L) : q.mark ≤ t.length := by
  have h1 := List.mem_range.mp (h.perm.mem_iff.mp (List.mem_map.mpr ⟨q, hq, rfl⟩))
  omega
theorem SwL.len {t : Tr} {ws : Wn} {L : List Swp} (h : SwL t ws L) : L.length = t.length + 1 := by
  have := h.perm.length_eq
  rwa [List.length_map, List.length_range] at this
theorem few_of {t : Tr} {ws : Wn} {L : List Swp} (hl : 0 < ws.length) (h : SwL t ws L) : FewOk t ws (L.foldl (swStep (partB t ws)) []) := by
  have I : SwI t (partB t ws) L (L.foldl (swStep (partB t ws)) []) := sweep_inv L [] [] ⟨(fun _ h => nomatch h), (fun _ h => nomatch h), List.Pairwise.nil⟩ (fun p hp => ⟨part_star hl _, (h.top p hp).2.1, (h.top p hp).2.2⟩) h.ord
  have sv : ∀ i, i ≤ t.length → ∃ p ∈ L.foldl (swStep (partB t ws)) [], partB t ws i p.top = true := fun i hi => by
    obtain ⟨q, hq, rfl⟩ := List.mem_map.mp (h.perm.mem_iff.mpr (List.mem_range.mpr (show i < t.length + 1 by omega)))
    exact I.served q hq
  refine ⟨fun q hq => ⟨(h.top q (I.sub q hq)).1, h.mk_le (I.sub q hq)⟩, fun e => ?_, I.apart, fun q hq => (h.top q (I.sub q hq)).2.1, sv, L, h, rfl⟩
  obtain ⟨p, hp, _⟩ := sv 0 (Nat.zero_le _)
  rw [e] at hp
  cases hp
def pushL (t : Tr) (ws : Wn) (L : List Swp) : List D := (L.map fun q => D.tup [natD q.top, .int (earl t ws q.top)]).mergeSort leD
def fewD (t : Tr) (ws : Wn) (L : List Swp) : D := .tup [.tup (pushL t ws L), .tup ((L.map fun q => natD q.mark).mergeSort leD)]
def spFew (mg : Str → Option Value) : DSp := fun args M Q E => ∃ (t : Tr) (ws : Wn), args = [treeD t, winsD ws] ∧ TreeOk t ∧ WinOk t ws ∧ (pairOf t ws = none → ∀ L, FewOk t ws L → Q (fewD t ws L) M) ∧ ∀ p, pairOf t ws = some p → E (.ref (cls mg "NoTable")) [("pair", pairD (some p))] M
theorem bel_few (t : Tr) (ws : Wn) (L : List Swp) (n : Nat) : bel n (fewD t ws L) = true := bels_of fun d hd => by
  simp only [List.mem_cons, List.not_mem_nil, or_false] at hd
  rcases hd with rfl | rfl
  · exact bels_of fun x hx => by
      obtain ⟨q, _, rfl⟩ := List.mem_map.mp (List.mem_mergeSort.mp hx)
      rfl
  · exact bels_of fun x hx => by
      obtain ⟨q, _, rfl⟩ := List.mem_map.mp (List.mem_mergeSort.mp hx)
      rfl
def invFw (t : Tr) (ws : Wn) (L : List Swp) (M0 : Sto) (X : DXS) : List D → List D → Dn → Sto → Prop := fun done todo ρ M => done ++ todo = L.map swD ∧ ∃ (x4 x7 x8 : Option D), ρ = ⟨[some (treeD t), some (winsD ws), some (.tup ((earls t ws).map D.int)), some (.lst ((List.range (t.length + 1)).map (partD t ws))), x4, some (.ref M0.length), some (.ref (M0.length + 1)), x7, x8], X⟩ ∧ M = M0 ++ [.lst (((L.take done.length).foldl (swStep (partB t ws)) []).map fun q => natD q.top), .lst (((L.take done.length).foldl (swStep (partB t ws)) []).map fun q => natD q.mark)]
theorem c_fewest_pushes (T : Tp K mg) : Cl P w K mg base "fewest_pushes" (7 + 1) ["tree", "windows"] (spFew mg) := by
  obtain ⟨f, fd, F, hm⟩ := T.d_fewest_pushes.ex
  have S := sc_fewest_pushes
  have B := T.bn
  have c_earliest := @c_earliest P w K mg base T
  have c_marks_of := @c_marks_of P w K mg base T
  have c_served_from := @c_served_from P w K mg base T
  have c_sweep_order := @c_sweep_order P w K mg base T
  refine ⟨⟨f, fd, fnX F S (fun args M Q E h => by (repeat (obtain ⟨_, h⟩ := h)); subst_vars; rfl) (fun cdv A outer s H E hgd hr => ⟨_, (ds_cons (dss 2 S.nd (d_cl c_earliest hgd (hr.mono (by first | decide | omega)) (d_cons (dv 0) (d_cons (dv 1) d_nil))))
  (ds_cons (dss 3 S.nd (d_lcI (own := [("mark", 4)]) rfl S.nd (di_seq (d_cl c_marks_of hgd (hr.mono (by first | decide | omega)) (d_cons (dv 0) d_nil))) (blkOk_by (N := ["tree", "windows", "early", "parts", "mark", "pushed", "noted", "top", "one"]) (sc := defScope s_fewest_pushes) (by decide +kernel)) (by decide) (fun _ _ _ _ _ => (dgn 4 S.nd)) (fun _ _ _ _ _ => dts_nil) (fun _ _ _ _ _ => (d_cl c_served_from hgd (hr.mono (by first | decide | omega)) (d_cons (dv 0) (d_cons (dv 1) (d_cons (dv 2) (d_cons (dv 4) d_nil))))))))
  (ds_cons (dsp2 5 6 S.nd (d_cons (d_lstM d_nil) (d_cons (d_lstM d_nil) d_nil)))
  (ds_cons (ds_forI (passes_of rfl) rfl (di_seq (d_cl c_sweep_order hgd (hr.mono (by first | decide | omega)) (d_cons (dv 0) (d_cons (dv 3) d_nil)))) (dg_tup (n := 2) rfl (dgs_cons (dgn 7 S.nd) (dgs_cons (dgn 4 S.nd) dgs_nil))) (ds_one (ds_if (dt_not (dt_val (d_callB (o_any rfl) (by rfl) B.any b_any (d_cons (d_lcI (own := [("one", 8)]) rfl S.nd (di_seq (dv 5)) (blkOk_by (N := ["tree", "windows", "early", "parts", "mark", "pushed", "noted", "top", "one"]) (sc := defScope s_fewest_pushes) (by decide +kernel)) (by decide) (fun _ _ _ _ _ => (dgn 8 S.nd)) (fun _ _ _ _ _ => dts_nil) (fun _ _ _ _ _ => (d_cmp (o_in hr.units) (dv 8) (d_ix (dv 3) (dv 4) (fun _ _ => rfl))))) d_nil)))) (ds_cons (ds_expr (d_append (dv 5) (d_cons (dv 7) d_nil)))
  (ds_one (ds_expr (d_append (dv 6) (d_cons (dv 4) d_nil))))) ds_nil)))
  (ds_one (ds_ret (d_tup (d_cons (d_callTy o_tuple (by rfl) B.tuple b_tuple (d_cons (d_callB (o_sortD hr.units) (by rfl) B.sorted b_sorted (d_cons (d_lcI (own := [("mark", 4)]) rfl S.nd (di_seq (dv 5)) (blkOk_by (N := ["tree", "windows", "early", "parts", "mark", "pushed", "noted", "top", "one"]) (sc := defScope s_fewest_pushes) (by decide +kernel)) (by decide) (fun _ _ _ _ _ => (dgn 4 S.nd)) (fun _ _ _ _ _ => dts_nil) (fun _ _ _ _ _ => (d_tup (d_cons (dv 4) (d_cons (d_ix (dv 2) (dv 4) (fun _ _ => rfl)) d_nil))))) d_nil)) d_nil)) (d_cons (d_callTy o_tuple (by rfl) B.tuple b_tuple (d_cons (d_callB (o_sortD hr.units) (by rfl) B.sorted b_sorted (d_cons (dv 6) d_nil)) d_nil)) d_nil))))))))), fun args M Q E' hM hA h => ?_⟩), hm, F.kp, (F.binds (ps := ["tree", "windows"]) fun _ _ _ _ _ _ us hl => match us, hl with | [_, _], _ => rfl)⟩, ?_⟩
  rotate_left
  · exact fun args M Q Q' E E' w w' ⟨t, ws, a1, a2, a3, k1, k2⟩ => ⟨t, ws, a1, a2, a3, fun h L f => w _ _ (k1 h L f), fun p h => w' _ _ _ (k2 p h)⟩
  · obtain ⟨t, ws, rfl, ht, hw, k1, k2⟩ := h
    have ht1 := ht.1
    have hwl := hw.1
    walk_at "go1"
    refine ⟨t, ws, rfl, ht, hw, fun hn => ?_, fun p hp => SeeX.keep (k2 p hp)⟩
    have k3 := k1 hn
    walk_at "go1"
    refine ⟨t, rfl, ht, ?_⟩
    walk_at "go1"
    refine lc_mapL natD (partD t ws) (L := List.range (t.length + 1)) (st := stYes) trivial (by rw [List.length_range]; omega) (fun j hj kk hk => ?_) ?_
    · have hj := List.mem_range.mp hj
      walk_at "go1"
      refine ⟨t, ws, j, rfl, ht, hw, by omega, ?_⟩
      walk_at "go1"
      exact hk
    walk_at "go1"
    refine ⟨t, ws, rfl, ht, hw, hn, fun L hL => ?_⟩
    walk_at "go1"
    refine ⟨invFw t ws L M _, ⟨rfl, none, none, none, rfl, by simp⟩, fun _ _ _ _ _ => trivial, ?_, ?_⟩
    · rintro done d todo ρ M' ⟨e, x4, x7, x8, rfl, rfl⟩
      have hd : (L.map swD)[done.length]? = some d := by rw [← e]; simp
      rw [List.getElem?_map] at hd
      obtain ⟨q, hq, rfl⟩ := Option.map_eq_some_iff.mp hd
      have hlt := (List.getElem?_eq_some_iff.mp hq).1
      have htk : L.take (done.length + 1) = L.take done.length ++ [q] := by rw [List.take_add_one, hq]; rfl
      have hqL : q ∈ L := List.mem_of_getElem? hq
      have hqm : q.mark ≤ t.length := hL.mk_le hqL
      have hstep : (L.take (done.length + 1)).foldl (swStep (partB t ws)) [] = swStep (partB t ws) ((L.take done.length).foldl (swStep (partB t ws)) []) q := by rw [htk, List.foldl_append]; rfl
      generalize hst : (L.take done.length).foldl (swStep (partB t ws)) [] = st at hstep ⊢
      have hstl : st.length ≤ 12 := by
        have h1 := sw_len (partB t ws) (L.take done.length) []
        have h2 := hL.len
        rw [hst, List.length_take, List.length_nil] at h1
        omega
      walk_at "go1"
      rw [gX0]
      walk_at "go1"
      refine lc_mapL (fun q => natD q.top) (fun p => D.bl (partB t ws q.mark p.top)) (L := st) (st := fun M' => M'[M.length]? = some (Cell.lst (st.map fun q => natD q.top))) gX0 (by omega) (fun p hp kk hk => ?_) ?_
      · walk_at "go1"
        rw [atI_of (j := q.mark) (x := D.tup ((partL t ws q.mark).map natD)) rfl (by rw [List.getElem?_map, List.getElem?_range (by omega)]; rfl)]
        walk_at "go1"
        rw [fVs_nats, show fV (natD p.top) = some (V.int (p.top : Int)) from rfl]
        walk_at "go1"
        rw [inV_nats, show decide (p.top ∈ partL t ws q.mark) = partB t ws q.mark p.top by rw [Bool.eq_iff_iff, decide_eq_true_iff, partL_mem]]
        walk_at "go1"
        exact hk
      rw [show (st.map fun p => D.bl (partB t ws q.mark p.top)) = (st.map fun p => partB t ws q.mark p.top).map D.bl by rw [List.map_map]; rfl]
      walk_at "go1"
      rw [blsOf_map]
      walk_at "go1"
      rw [show (st.map fun p => partB t ws q.mark p.top).any id = st.any fun p => partB t ws q.mark p.top by rw [List.any_map]; rfl]
      by_cases hb : st.any (fun p => partB t ws q.mark p.top) = true
      · rw [hb]
        walk_at "go1"
        refine ⟨by rw [← e]; simp, _, _, _, rfl, ?_⟩
        rw [List.length_append, List.length_singleton, hstep]
        unfold swStep
        rw [if_pos hb]
      · have hs2 : swStep (partB t ws) st q = st ++ [q] := by unfold swStep; rw [if_neg hb]
        rw [hs2] at hstep
        rw [Bool.not_eq_true] at hb
        rw [hb]
        walk_at "go1"
        refine ⟨⟨_, gX0⟩, ?_⟩
        walk_at "go1"
        rw [gX0]
        walk_at "go1"
        rw [sX0]
        refine ⟨⟨_, gX1⟩, ?_⟩
        walk_at "go1"
        rw [gX1]
        walk_at "go1"
        refine ⟨by rw [← e]; simp, _, _, _, rfl, ?_⟩
        rw [sX1, List.length_append, List.length_singleton, hstep, List.map_append, List.map_append]
        rfl
    · rintro done ρ M' ⟨e, x4, x7, x8, rfl, rfl⟩
      have hdl : done.length = L.length := by have := congrArg List.length e; simpa using this
      rw [hdl, List.take_length]
      have FO := few_of (t := t) (ws := ws) (by omega) hL
      have k4 := k3 _ FO
      have hstl := sw_len (partB t ws) L []
      have hLl := hL.len
      rw [List.length_nil] at hstl
      generalize L.foldl (swStep (partB t ws)) [] = st at FO k4 hstl ⊢
      walk_at "go1"
      rw [gX0]
      walk_at "go1"
      refine lc_mapL (fun q => natD q.top) (fun q => D.tup [natD q.top, .int (earl t ws q.top)]) (L := st) (st := fun M' => M'[M.length]? = some (Cell.lst (st.map fun q => natD q.top))) gX0 (by omega) (fun p hp kk hk => ?_) ?_
      · have hpt := (FO.top p hp).1
        walk_at "go1"
        rw [atI_of (j := p.top) (x := D.int (earl t ws p.top)) rfl (by rw [List.getElem?_map, earls_get (by omega)]; rfl)]
        walk_at "go1"
        exact hk
      walk_at "go1"
      refine ⟨_, rfl, pus_all (fun d hd => ?_), ?_, ?_, ?_, by rw [List.length_map]; omega, ?_⟩
      · obtain ⟨q, _, rfl⟩ := List.mem_map.mp hd
        rfl
      · intro x hx y hy
        obtain ⟨a, ha, rfl⟩ := List.mem_map.mp hx
        obtain ⟨b, hb, rfl⟩ := List.mem_map.mp hy
        obtain ⟨p, _, rfl⟩ := List.mem_map.mp ha
        obtain ⟨q, _, rfl⟩ := List.mem_map.mp hb
        rfl
      · refine .inl fun x hx => ?_
        obtain ⟨a, ha, rfl⟩ := List.mem_map.mp hx
        obtain ⟨p, _, rfl⟩ := List.mem_map.mp ha
        exact ⟨_, _, rfl⟩
      · intro x hx
        obtain ⟨p, _, rfl⟩ := List.mem_map.mp hx
        exact Nat.le_of_ble_eq_true rfl
      walk_at "go1"
      refine ⟨st.map fun q => natD q.mark, by show (match (M ++ [_, _])[M.length + 1]? with | some (Cell.lst ds) => some ds | _ => none) = _; rw [gX1], pus_all (fun d hd => ?_), ?_, ?_, ?_, by rw [List.length_map]; omega, ?_⟩
      · obtain ⟨q, _, rfl⟩ := List.mem_map.mp hd
        rfl
      · intro x hx y hy
        obtain ⟨a, ha, rfl⟩ := List.mem_map.mp hx
        obtain ⟨b, hb, rfl⟩ := List.mem_map.mp hy
        obtain ⟨p, _, rfl⟩ := List.mem_map.mp ha
        obtain ⟨q, _, rfl⟩ := List.mem_map.mp hb
        rfl
      · refine .inr fun x hx => ?_
        obtain ⟨a, ha, rfl⟩ := List.mem_map.mp hx
        obtain ⟨p, _, rfl⟩ := List.mem_map.mp ha
        exact ⟨(fun h => nomatch h), fun _ h => nomatch h⟩
      · intro x hx
        obtain ⟨p, _, rfl⟩ := List.mem_map.mp hx
        exact Nat.le_of_ble_eq_true rfl
      walk_at "go1"
      rw [show ∀ a b : Cell, M ++ [a, b] = M ++ [a] ++ [b] from fun a b => by simp]
      exact See.drop2 (bel_few _ _ _ _) hM k4
def partsL (t : Tr) (ws : Wn) (ns : List Nat) : List Nat := ns.flatMap (partL t ws)
theorem push_le {p q : Nat × Int} (h : leD (pushD p) (pushD q) = true) : p.1 < q.1 ∨ (p.1 = q.1 ∧ p.2 ≤ q.2) := by
  have h2 : PySem.W.dataLt (toPy (pushD q)) (toPy (pushD p)) = false := by
    have h3 : (!(PySem.W.dataLt (toPy (pushD q)) (toPy (pushD p)))) = true := h
    rw [Bool.not_eq_true'] at h3
    exact h3
  rw [show toPy (pushD q) = .tuple [.int (q.1 : Int), .int q.2] from rfl, show toPy (pushD p) = .tuple [.int (p.1 : Int), .int p.2] from rfl, PySem.W.dataLt_tuple] at h2
  simp [PySem.W.keyToks, PySem.W.keyToksAll, PyProof.Rows.lex_cons, PyProof.Rows.lexLt, itemOrd, itemLt] at h2
  omega
theorem nat_le {a b : Nat} (h : leD (natD a) (natD b) = true) : a ≤ b := by
  have h3 : (!(PySem.W.dataLt (toPy (natD b)) (toPy (natD a)))) = true := h
  rw [Bool.not_eq_true', show toPy (natD b) = .int (b : Int) from rfl, show toPy (natD a) = .int (a : Int) from rfl] at h3
  simp [PySem.W.dataLt, PySem.W.keyToks, PySem.W.keyToksAll, PyProof.Rows.lex_cons, PyProof.Rows.lexLt, itemOrd, itemLt] at h3
  omega
structure Few2 (t : Tr) (ws : Wn) (ps : List (Nat × Int)) (ms : List Nat) : Prop where
  len : ps.length = ms.length
  ne : ps ≠ []
  few : ps.length ≤ 12
  pnd : ps.Nodup
  pord : ps.Pairwise fun p q => p.1 < q.1 ∨ (p.1 = q.1 ∧ p.2 ≤ q.2)
  mnd : ms.Nodup
  mord : ms.Pairwise fun a b => a ≤ b
  mle : ∀ m ∈ ms, m ≤ t.length
  push : ∀ p ∈ ps, p.1 ≤ t.length ∧ p.2 = earl t ws p.1 ∧ 0 ≤ p.2 ∧ p.2 ≤ 1000000000
  parts : (partsL t ws ms).Nodup
  served : ∀ i, i ≤ t.length → ∃ p ∈ ps, inPart t ws i p.1 = true
theorem few2_of {t : Tr} {ws : Wn} {L : List Swp} (ht : TreeOk t) (hw : WinOk t ws) (hn : pairOf t ws = none) (F : FewOk t ws L) : ∃ ps ms, fewD t ws L = .tup [.tup (ps.map pushD), .tup (ms.map natD)] ∧ Few2 t ws ps ms := by
  have hwl := hw.1
  have ht1 := ht.1
  refine ⟨(L.map fun q => (q.top, earl t ws q.top)).mergeSort fun a b => leD (pushD a) (pushD b), (L.map Swp.mark).mergeSort fun a b => leD (natD a) (natD b), ?_, ?_⟩
  · unfold fewD pushL
    rw [List.map_mergeSort (r := fun a b => leD (pushD a) (pushD b)) (s := leD) (f := pushD) (fun a _ b _ => rfl), List.map_mergeSort (r := fun a b : Nat => leD (natD a) (natD b)) (s := leD) (f := natD) (fun a _ b _ => rfl), List.map_map, List.map_map]
    rfl
  have hpm := List.mergeSort_perm (L.map fun q => (q.top, earl t ws q.top)) fun a b => leD (pushD a) (pushD b)
  have hmm := List.mergeSort_perm (L.map Swp.mark) fun a b : Nat => leD (natD a) (natD b)
  have hself : ∀ q ∈ L, partB t ws q.mark q.mark = true := fun q hq => partB_iff.mpr ⟨(F.top q hq).2, part_self hn (by have := (F.top q hq).2; omega)⟩
  have hmn : (L.map Swp.mark).Nodup := List.pairwise_map.mpr (List.Pairwise.imp_of_mem (fun {p q} hp hq h e => h q.mark ⟨by rw [e]; exact hself q hq, hself q hq⟩) F.ap)
  have htn : (L.map Swp.top).Nodup := List.pairwise_map.mpr (List.Pairwise.imp_of_mem (fun {p q} hp hq h e => h q.top ⟨by rw [← e]; exact F.tin p hp, F.tin q hq⟩) F.ap)
  have hL : L.length ≤ t.length + 1 := by
    have := L2.nat_nodup_len (L.map Swp.mark) (List.range (t.length + 1)) hmn fun x hx => by
      obtain ⟨q, hq, rfl⟩ := List.mem_map.mp hx
      exact List.mem_range.mpr (by have := (F.top q hq).2; omega)
    rw [List.length_map, List.length_range] at this
    exact this
  have hps := PySem.W.sort_pairwise (PySem.W.sortLe_total (PyProof.Rows.listOrd itemOrd) false fun p : Nat × Int => PySem.W.keyToks (toPy (pushD p))) (L.map fun q => (q.top, earl t ws q.top))
  have hms := PySem.W.sort_pairwise (PySem.W.sortLe_total (PyProof.Rows.listOrd itemOrd) false fun p : Nat => PySem.W.keyToks (toPy (natD p))) (L.map Swp.mark)
  refine ⟨?_, ?_, ?_, ?_, ?_, ?_, ?_, ?_, ?_, ?_, ?_⟩
  · rw [hpm.length_eq, hmm.length_eq, List.length_map, List.length_map]
  · intro h
    have := hpm.length_eq
    rw [h, List.length_map] at this
    exact F.ne (List.eq_nil_of_length_eq_zero this.symm)
  · rw [hpm.length_eq, List.length_map]
    omega
  · refine hpm.nodup_iff.mpr (List.pairwise_map.mpr ((List.pairwise_map.mp htn).imp fun h e => h (congrArg Prod.fst e)))
  · exact hps.imp fun h => push_le h
  · exact hmm.nodup_iff.mpr hmn
  · exact hms.imp fun h => nat_le h
  · intro m hm
    obtain ⟨q, hq, rfl⟩ := List.mem_map.mp (hmm.mem_iff.mp hm)
    exact (F.top q hq).2
  · intro p hp
    obtain ⟨q, hq, rfl⟩ := List.mem_map.mp (hpm.mem_iff.mp hp)
    have := (F.top q hq).1
    exact ⟨this, rfl, earl_lo hw (by omega), earl_hi hw _⟩
  · have e : (partsL t ws (L.map Swp.mark)).Nodup := by
      unfold partsL
      refine List.pairwise_flatMap.mpr ⟨fun m _ => List.Pairwise.filter _ List.nodup_range, List.pairwise_map.mpr (F.ap.imp fun {p q} h x hx y hy e => ?_)⟩
      subst e
      exact h x ⟨partL_mem.mp hx, partL_mem.mp hy⟩
    exact (List.Perm.flatMap_right (partL t ws) hmm).nodup_iff.mpr e
  · intro i hi
    obtain ⟨q, hq, h⟩ := F.served i hi
    exact ⟨_, hpm.mem_iff.mpr (List.mem_map.mpr ⟨q, hq, rfl⟩), (partB_iff.mp h).2⟩
def spPeace (mg : Str → Option Value) : DSp := fun args M Q E => ∃ (t : Tr) (ss : List (Nat × Int)) (d : D), args = [treeD t, d] ∧ PT (ss.map pushD) d ∧ TreeOk t ∧ SeenOk t ss ∧ (conf t ss = none → Q .non M) ∧ ∀ p, conf t ss = some p → E (.ref (cls mg "Conflict")) [("pair", confD (some p))] M
theorem c_require_peace (T : Tp K mg) : Cl P w K mg base "require_peace" (4 + 1) ["tree", "seen"] (spPeace mg) := by
  obtain ⟨f, fd, F, hm⟩ := T.d_require_peace.ex
  have S := sc_require_peace
  have B := T.bn
  have c_find_conflict := @c_find_conflict P w K mg base T
  refine ⟨⟨f, fd, fnX F S (fun args M Q E h => by (repeat (obtain ⟨_, h⟩ := h)); subst_vars; rfl) (fun cdv A outer s H E hgd hr => ⟨_, (ds_cons (dss 2 S.nd (d_cl c_find_conflict hgd (hr.mono (by first | decide | omega)) (d_cons (dv 0) (d_cons (dv 1) d_nil))))
  (ds_one (ds_if (dt_cmp o_notN (dv 2) d_non) (ds_one (ds_raise T.f_Conflict (hr.mono (by first | decide | omega)) T.g_Conflict (d_cons (dv 2) d_nil))) ds_nil))), fun args M Q E' hM hA h => ?_⟩), hm, F.kp, (F.binds (ps := ["tree", "seen"]) fun _ _ _ _ _ _ us hl => match us, hl with | [_, _], _ => rfl)⟩, ?_⟩
  rotate_left
  · exact fun args M Q Q' E E' w w' ⟨t, ss, d, a1, a0, a2, a3, k1, k2⟩ => ⟨t, ss, d, a1, a0, a2, a3, fun h => w _ _ (k1 h), fun p h => w' _ _ _ (k2 p h)⟩
  · obtain ⟨t, ss, d, rfl, hpt, ht, hs, k1, k2⟩ := h
    walk_at "go1"
    refine ⟨t, ss, d, rfl, hpt, ht, hs, ?_⟩
    cases e : conf t ss with
    | none =>
      rw [show confD none = .non from rfl]
      walk_at "go1"
      exact See.keep (k1 e)
    | some p =>
      rw [show confD (some p) = .tup [natD p.1, natD p.2] from rfl]
      walk_at "go1"
      exact SeeX.keep (k2 p e)
def tickS (ss : List (Nat × Int)) (m : Nat) : Option Int := (ss.find? fun p => decide (p.1 = m)).map (·.2)
/-- the windows of seen ticks -/
def seenW (t : Tr) (ss : List (Nat × Int)) : Wn := (List.range (t.length + 1)).map fun m => ((tickS ss m).getD 0, tickS ss m)
theorem look_tick (ss : List (Nat × Int)) (j : Nat) : lookD (List.map (fun p => Sum.inl p.fst) (ss.map fun p => ((p.1 : Int), p.2))) (List.map (fun p => D.int p.snd) (ss.map fun p => ((p.1 : Int), p.2))) (.inl (j : Int)) = (tickS ss j).map D.int := by
  unfold lookD tickS
  rw [List.map_map, List.map_map]
  induction ss with
  | nil => rfl
  | cons p ss ih =>
    rw [List.map_cons, List.map_cons, List.zip_cons_cons, List.find?_cons, List.find?_cons]
    by_cases h : p.1 = j
    · have h1 : (Sum.inl (p.1 : Int) : Key) = .inl (j : Int) := by rw [h]
      simp only [Function.comp, h, decide_true]
      rfl
    · have h1 : ¬ (Sum.inl (p.1 : Int) : Key) = .inl (j : Int) := fun e => h (Int.ofNat.inj (Sum.inl.inj e))
      simp only [Function.comp, h, h1, decide_false]
      exact ih
def spBehind (mg : Str → Option Value) : DSp := fun args M Q E => ∃ (t : Tr) (ss : List (Nat × Int)) (d : D), args = [treeD t, d] ∧ PT (ss.map pushD) d ∧ TreeOk t ∧ SeenOk t ss ∧ WinOk t (seenW t ss) ∧ (conf t ss = none → pairOf t (seenW t ss) = none ∧ ∀ ps ms, Few2 t (seenW t ss) ps ms → Q (natD ps.length) M) ∧ ∀ p, conf t ss = some p → E (.ref (cls mg "Conflict")) [("pair", confD (some p))] M
theorem c_fewest_behind (T : Tp K mg) : Cl P w K mg base "fewest_behind" (9 + 1) ["tree", "seen"] (spBehind mg) := by
  obtain ⟨f, fd, F, hm⟩ := T.d_fewest_behind.ex
  have S := sc_fewest_behind
  have B := T.bn
  have c_fewest_pushes := @c_fewest_pushes P w K mg base T
  have c_require_peace := @c_require_peace P w K mg base T
  refine ⟨⟨f, fd, fnX F S (fun args M Q E h => by (repeat (obtain ⟨_, h⟩ := h)); subst_vars; rfl) (fun cdv A outer s H E hgd hr => ⟨_, (ds_cons (ds_expr (d_cl c_require_peace hgd (hr.mono (by first | decide | omega)) (d_cons (dv 0) (d_cons (dv 1) d_nil))))
  (ds_cons (dss 2 S.nd (d_dictP (by rfl) B.dict (dv 1)))
  (ds_cons (ds_setLcI (i := 3) (own := [("mark", 4)]) rfl S.nd rfl rfl (sw_true rfl rfl rfl (by decide +kernel)) (di_range1 (by rfl) B.range (d_cons (d_op o_add (d_callB o_len (by rfl) B.len b_len (d_cons (dv 0) d_nil)) d_int) d_nil)) (blkOk_by (N := ["tree", "seen", "ticks", "windows", "mark"]) (sc := defScope s_fewest_behind) (by decide +kernel)) (by decide) (fun _ _ _ _ _ => (dgn 4 S.nd)) (fun _ _ _ _ _ => dts_nil) (fun _ _ _ _ _ => (d_tup (d_cons (d_get2 (units1 (room65 hr)) (dv 2) (dv 4) d_int) (d_cons (d_get2 (units1 (room65 hr)) (dv 2) (dv 4) d_non) d_nil)))))
  (ds_one (ds_ret (d_callB o_len (by rfl) B.len b_len (d_cons (d_ix (d_cl c_fewest_pushes hgd (hr.mono (by first | decide | omega)) (d_cons (dv 0) (d_cons (d_callTy o_tuple (by rfl) B.tuple b_tuple (d_cons (dv 3) d_nil)) d_nil))) d_int (fun _ _ => rfl)) d_nil))))))), fun args M Q E' hM hA h => ?_⟩), hm, F.kp, (F.binds (ps := ["tree", "seen"]) fun _ _ _ _ _ _ us hl => match us, hl with | [_, _], _ => rfl)⟩, ?_⟩
  rotate_left
  · exact fun args M Q Q' E E' w w' ⟨t, ss, d, a1, a0, a2, a3, a4, k1, k2⟩ => ⟨t, ss, d, a1, a0, a2, a3, a4, fun h => ⟨(k1 h).1, fun ps ms hf => w _ _ ((k1 h).2 ps ms hf)⟩, fun p h => w' _ _ _ (k2 p h)⟩
  · obtain ⟨t, ss, d, rfl, hpt, ht, hs, hw, k1, k2⟩ := h
    have ht1 := ht.1
    walk_at "go1"
    refine ⟨t, ss, d, rfl, hpt, ht, hs, fun hn => ?_, fun p hp => SeeX.keep (k2 p hp)⟩
    obtain ⟨hp0, k1⟩ := k1 hn
    walk_at "go1"
    refine ⟨_, ss.map fun p => ((p.1 : Int), p.2), hpt, ?_, ?_, ?_⟩
    · rw [show ss.map pushD = (ss.map fun p => ((p.1 : Int), p.2)).map fun p => D.tup [.int p.1, .int p.2] by rw [List.map_map]; rfl]
      exact pairsOf_map _
    · rw [List.map_map]
      exact List.pairwise_map.mpr (hs.1.imp fun {p q} h e => by have e : (p.1 : Int) = (q.1 : Int) := e; omega)
    walk_at "go1"
    rw [show ((t.length : Int) + 1).toNat = t.length + 1 by omega]
    refine lc_rng (fun m => winD ((tickS ss m).getD 0, tickS ss m)) (st := stYes) (M := M) trivial (by omega) (fun j hj kk hk => ?_) ?_
    · walk_at "go1"
      rw [look_tick]
      have e : D.tup [(Option.map D.int (tickS ss j)).getD (D.int 0), (Option.map D.int (tickS ss j)).getD D.non] = winD ((tickS ss j).getD 0, tickS ss j) := by
        cases tickS ss j <;> rfl
      rw [e]
      exact hk
    walk_at "go1"
    refine ⟨t, seenW t ss, by rw [show winsD (seenW t ss) = D.tup (List.map (fun m => winD ((tickS ss m).getD 0, tickS ss m)) (List.range (List.length t + 1))) by unfold winsD seenW; rw [List.map_map]; rfl], ht, hw, fun _ L hL => ?_, fun p hp => by rw [hp0] at hp; cases hp⟩
    obtain ⟨ps, ms, ef, h2⟩ := few2_of ht hw hp0 hL
    rw [ef]
    have hlen := h2.few
    walk_at "go1"
    exact See.keep (k1 ps ms h2)
def lowS (t : Tr) (ss : List (Nat × Int)) (m : Nat) : Int := maxI (0 :: ss.map fun p => p.2 - dist t p.1 m)
def highS (t : Tr) (ss : List (Nat × Int)) (m : Nat) : Int := minI (ss.map fun p => p.2 + dist t p.1 m)
@[reducible] def rangeD (t : Tr) (ss : List (Nat × Int)) (m : Nat) : D := .tup [.int (lowS t ss m), if ss = [] then .non else .int (highS t ss m)]
def gapD (t : Tr) (m : Nat) (p : Nat × Int) : D := .tup [.int p.2, .int (dist t p.1 m)]
theorem pl_gaps (t : Tr) (m : Nat) (ss : List (Nat × Int)) : Pl 2 (.lst (ss.map (gapD t m))) := .lst fun d hd => by
  obtain ⟨p, _, rfl⟩ := List.mem_map.mp hd
  exact .tup fun d hd => by
    simp only [List.mem_cons, List.not_mem_nil, or_false] at hd
    rcases hd with rfl | rfl <;> exact .int _
theorem gaps_nil {t : Tr} {m : Nat} {ss : List (Nat × Int)} : decide (ss.map (gapD t m) = []) = decide (ss = []) := by cases ss <;> rfl
def spRangeOf : DSp := fun args M Q _ => ∃ (t : Tr) (ss : List (Nat × Int)) (d : D) (m : Nat), args = [treeD t, d, natD m] ∧ PT (ss.map pushD) d ∧ TreeOk t ∧ SeenOk t ss ∧ m ≤ t.length ∧ Q (rangeD t ss m) M
theorem c_range_of (T : Tp K mg) : Cl P w K mg base "range_of" (3 + 1) ["tree", "seen", "mark"] spRangeOf := by
  obtain ⟨f, fd, F, hm⟩ := T.d_range_of.ex
  have S := sc_range_of
  have B := T.bn
  have c_distance_between := @c_distance_between P w K mg base T
  refine ⟨⟨f, fd, fnD F S (fun args M Q E h => by (repeat (obtain ⟨_, h⟩ := h)); subst_vars; rfl) (fun cdv A outer s H E hgd hr => ⟨_, (ds_cons (ds_setLcI (i := 3) (own := [("one", 5), ("tick", 6)]) rfl S.nd rfl rfl (sw_true rfl rfl rfl (by decide +kernel)) (di_seq (d_view (dv 1))) (blkOk_by (N := ["tree", "seen", "mark", "gaps", "low", "one", "tick", "gap"]) (sc := defScope s_range_of) (by decide +kernel)) (by decide) (fun _ _ _ _ _ => (dg_tup (n := 2) rfl (dgs_cons (dgn 5 S.nd) (dgs_cons (dgn 6 S.nd) dgs_nil)))) (fun _ _ _ _ _ => dts_nil) (fun _ _ _ _ _ => (d_tup (d_cons (dv 6) (d_cons (d_cl c_distance_between hgd (hr.mono (by first | decide | omega)) (d_cons (dv 0) (d_cons (dv 5) (d_cons (dv 2) d_nil)))) d_nil)))))
  (ds_cons (dss 4 S.nd (d_callB (o_maxA rfl) (by rfl) B.max b_max (d_cons (d_lst (d_cons d_int (d_star (d_lcI (own := [("tick", 6), ("gap", 7)]) rfl S.nd (di_seq (dv 3)) (blkOk_by (N := ["tree", "seen", "mark", "gaps", "low", "one", "tick", "gap"]) (sc := defScope s_range_of) (by decide +kernel)) (by decide) (fun _ _ _ _ _ => (dg_tup (n := 2) rfl (dgs_cons (dgn 6 S.nd) (dgs_cons (dgn 7 S.nd) dgs_nil)))) (fun _ _ _ _ _ => dts_nil) (fun _ _ _ _ _ => (d_op o_sub (dv 6) (dv 7)))) d_nil))) d_nil)))
  (ds_one (ds_ret (d_tup (d_cons (dv 4) (d_cons (d_if (dt_cmp (o_ne hr.units) (dv 3) (d_lst d_nil)) (d_callB (o_minA rfl) (by rfl) B.min b_min (d_cons (d_lcI (own := [("tick", 6), ("gap", 7)]) rfl S.nd (di_seq (dv 3)) (blkOk_by (N := ["tree", "seen", "mark", "gaps", "low", "one", "tick", "gap"]) (sc := defScope s_range_of) (by decide +kernel)) (by decide) (fun _ _ _ _ _ => (dg_tup (n := 2) rfl (dgs_cons (dgn 6 S.nd) (dgs_cons (dgn 7 S.nd) dgs_nil)))) (fun _ _ _ _ _ => dts_nil) (fun _ _ _ _ _ => (d_op o_add (dv 6) (dv 7)))) d_nil)) d_non) d_nil))))))), fun args M Q E' hM hA h => ?_⟩), hm, F.kp, (F.binds (ps := ["tree", "seen", "mark"]) fun _ _ _ _ _ _ us hl => match us, hl with | [_, _, _], _ => rfl)⟩, ?_⟩
  rotate_left
  · exact fun args M Q Q' E E' w _ ⟨x0, x1, x2, x3, x4, x5, x6, x7, x8, k⟩ => ⟨x0, x1, x2, x3, x4, x5, x6, x7, x8, w _ _ k⟩
  · obtain ⟨t, ss, sd, m, rfl, hpt, ht, hs, hm, k⟩ := h
    have hsl := hs.len
    have ht1 := ht.1
    walk_at "go1"
    refine ⟨_, .inl hpt, ?_⟩
    walk_at "go1"
    refine lc_mapL pushD (gapD t m) (L := ss) (st := stYes) (M := M) trivial (by omega) (fun p hp kk hk => ?_) ?_
    · walk_at "go1"
      refine ⟨t, p.1, m, rfl, ht, (hs.2 p hp).1, hm, ?_⟩
      walk_at "go1"
      exact hk
    walk_at "go1"
    refine lc_mapL (gapD t m) (fun p => .int (p.2 - dist t p.1 m)) (L := ss) (st := stYes) (M := M) trivial (by omega) (fun p hp kk hk => ?_) ?_
    · rw [show gapD t m p = .tup [.int p.2, .int (dist t p.1 m)] from rfl]
      walk_at "go1"
      exact hk
    rw [show (ss.map fun p => D.int (p.2 - dist t p.1 m)) = (ss.map fun p => p.2 - dist t p.1 m).map D.int by rw [List.map_map]; rfl]
    walk_at "go2"
    rw [show (D.int 0 :: List.map D.int (List.map (fun p => p.2 - dist t p.1 m) ss)) = (0 :: ss.map fun p => p.2 - dist t p.1 m).map D.int from rfl, intsOf_ints]
    walk_at "go1"
    refine ⟨by simp, ?_⟩
    walk_at "go1"
    refine ⟨(pl_gaps t m ss).eqOk (by decide) _, pl_nil.eqOk (by decide) _, ?_⟩
    rw [eqv_nil, gaps_nil]
    by_cases he : ss = []
    · rw [decide_eq_true he]
      rw [show rangeD t ss m = .tup [.int (lowS t ss m), .non] by unfold rangeD; rw [if_pos he]] at k
      walk_at "go1"
      exact See.keep k
    · rw [decide_eq_false he]
      rw [show rangeD t ss m = .tup [.int (lowS t ss m), .int (highS t ss m)] by unfold rangeD; rw [if_neg he]] at k
      walk_at "go1"
      refine lc_mapL (gapD t m) (fun p => .int (p.2 + dist t p.1 m)) (L := ss) (st := stYes) (M := M) trivial (by omega) (fun p hp kk hk => ?_) ?_
      · rw [show gapD t m p = .tup [.int p.2, .int (dist t p.1 m)] from rfl]
        walk_at "go1"
        exact hk
      rw [show (ss.map fun p => D.int (p.2 + dist t p.1 m)) = (ss.map fun p => p.2 + dist t p.1 m).map D.int by rw [List.map_map]; rfl]
      walk_at "go2"
      refine ⟨by simpa using he, ?_⟩
      walk_at "go1"
      exact See.keep k
@[reducible] def rangesD (t : Tr) (ss : List (Nat × Int)) : D := .tup ((List.range (t.length + 1)).map (rangeD t ss))
def spRangesOf (mg : Str → Option Value) : DSp := fun args M Q E => ∃ (t : Tr) (ss : List (Nat × Int)) (d : D), args = [treeD t, d] ∧ PT (ss.map pushD) d ∧ TreeOk t ∧ SeenOk t ss ∧ (conf t ss = none → Q (rangesD t ss) M) ∧ ∀ p, conf t ss = some p → E (.ref (cls mg "Conflict")) [("pair", confD (some p))] M
theorem c_ranges_of (T : Tp K mg) : Cl P w K mg base "ranges_of" (7 + 1) ["tree", "seen"] (spRangesOf mg) := by
  obtain ⟨f, fd, F, hm⟩ := T.d_ranges_of.ex
  have S := sc_ranges_of
  have B := T.bn
  have c_range_of := @c_range_of P w K mg base T
  have c_require_peace := @c_require_peace P w K mg base T
  refine ⟨⟨f, fd, fnX F S (fun args M Q E h => by (repeat (obtain ⟨_, h⟩ := h)); subst_vars; rfl) (fun cdv A outer s H E hgd hr => ⟨_, (ds_cons (ds_expr (d_cl c_require_peace hgd (hr.mono (by first | decide | omega)) (d_cons (dv 0) (d_cons (dv 1) d_nil))))
  (ds_one (ds_ret (d_callTy o_tuple (by rfl) B.tuple b_tuple (d_cons (d_lcI (own := [("mark", 2)]) rfl S.nd (di_range1 (by rfl) B.range (d_cons (d_op o_add (d_callB o_len (by rfl) B.len b_len (d_cons (dv 0) d_nil)) d_int) d_nil)) (blkOk_by (N := ["tree", "seen", "mark"]) (sc := defScope s_ranges_of) (by decide +kernel)) (by decide) (fun _ _ _ _ _ => (dgn 2 S.nd)) (fun _ _ _ _ _ => dts_nil) (fun _ _ _ _ _ => (d_cl c_range_of hgd (hr.mono (by first | decide | omega)) (d_cons (dv 0) (d_cons (dv 1) (d_cons (dv 2) d_nil)))))) d_nil))))), fun args M Q E' hM hA h => ?_⟩), hm, F.kp, (F.binds (ps := ["tree", "seen"]) fun _ _ _ _ _ _ us hl => match us, hl with | [_, _], _ => rfl)⟩, ?_⟩
  rotate_left
  · exact fun args M Q Q' E E' w w' ⟨t, ss, d, a1, a0, a2, a3, k1, k2⟩ => ⟨t, ss, d, a1, a0, a2, a3, fun h => w _ _ (k1 h), fun p h => w' _ _ _ (k2 p h)⟩
  · obtain ⟨t, ss, d, rfl, hpt, ht, hs, k1, k2⟩ := h
    have ht1 := ht.1
    walk_at "go1"
    refine ⟨t, ss, d, rfl, hpt, ht, hs, fun hn => ?_, fun p hp => SeeX.keep (k2 p hp)⟩
    walk_at "go1"
    rw [show ((t.length : Int) + 1).toNat = t.length + 1 by omega]
    refine lc_rng (rangeD t ss) (st := stYes) (M := M) trivial (by omega) (fun j hj kk hk => ?_) ?_
    · walk_at "go1"
      exact ⟨t, ss, d, j, rfl, hpt, ht, hs, by omega, hk⟩
    · walk_at "go1"
      exact See.keep (k1 hn)
def earlyS (t : Tr) (ss : List (Nat × Int)) (m : Nat) : Int := maxI (0 :: ss.map fun p => p.2 - dist t p.1 m)
/-- the seen ones that a mark serves, by their places -/
def hitB (t : Tr) (ss : List (Nat × Int)) (m k : Nat) : Bool := decide (earlyS t ss m + dist t m (ss.getD k (0, 0)).1 = (ss.getD k (0, 0)).2)
/-- m marks serve all that were seen -/
def Cov (t : Tr) (ss : List (Nat × Int)) (m : Nat) : Prop := ∃ cs : List Nat, cs.length = m ∧ (∀ c ∈ cs, c ≤ t.length) ∧ ∀ i, i < ss.length → ∃ c ∈ cs, hitB t ss c i = true
theorem tick_some {ss : List (Nat × Int)} {m : Nat} {z : Int} (h : tickS ss m = some z) : (m, z) ∈ ss := by
  unfold tickS at h
  obtain ⟨p, hp, rfl⟩ := Option.map_eq_some_iff.mp h
  have h1 := List.mem_of_find?_eq_some hp
  have h2 : p.1 = m := by simpa using List.find?_some hp
  rw [← h2]
  exact h1
theorem tick_mem : ∀ {ss : List (Nat × Int)} {p : Nat × Int}, ss.Pairwise (fun p q => p.1 < q.1) → p ∈ ss → tickS ss p.1 = some p.2
  | q :: r, p, h, hp => by
    obtain ⟨h1, h2⟩ := List.pairwise_cons.mp h
    unfold tickS
    rw [List.find?_cons]
    rcases List.mem_cons.mp hp with e | hp
    · rw [e, decide_eq_true rfl]; rfl
    · rw [decide_eq_false (by have := h1 p hp; omega)]
      exact tick_mem h2 hp
theorem seenW_get {t : Tr} {ss : List (Nat × Int)} {m : Nat} (h : m ≤ t.length) : (seenW t ss)[m]? = some ((tickS ss m).getD 0, tickS ss m) := by
  unfold seenW
  rw [List.getElem?_map, List.getElem?_range (by omega)]
  rfl
theorem seenW_getD {t : Tr} {ss : List (Nat × Int)} {m : Nat} (h : m ≤ t.length) : (seenW t ss).getD m (0, none) = ((tickS ss m).getD 0, tickS ss m) := by
  rw [List.getD_eq_getElem?_getD, seenW_get h]
  rfl
theorem seenW_len (t : Tr) (ss : List (Nat × Int)) : (seenW t ss).length = t.length + 1 := by unfold seenW; simp
theorem seenW_ok {t : Tr} {ss : List (Nat × Int)} (h : SeenOk t ss) (hb : ∀ p ∈ ss, p.2 ≤ 1000000000) : WinOk t (seenW t ss) := by
  refine ⟨seenW_len t ss, fun w hw => ?_⟩
  obtain ⟨m, _, rfl⟩ := List.mem_map.mp hw
  cases e : tickS ss m with
  | none => exact ⟨Int.le_refl _, by show (0 : Int) ≤ _; decide, fun l hl => by cases hl⟩
  | some z =>
    have h1 := tick_some e
    have h2 := (h.2 _ h1).2.1
    have h3 := hb _ h1
    refine ⟨h2, by show z ≤ _; have h3 : z ≤ 1000000000 := h3; omega, fun l hl => ?_⟩
    cases hl
    exact ⟨Int.le_refl _, by have h3 : z ≤ 1000000000 := h3; omega⟩
theorem bad_false {t : Tr} {p q : Nat × Int} (h : bad t p q = false) : p.2 - q.2 ≤ dist t p.1 q.1 ∧ q.2 - p.2 ≤ dist t p.1 q.1 := by
  unfold bad at h
  have h := of_decide_eq_false h
  split at h <;> omega
theorem conf_peace {t : Tr} : ∀ {ss : List (Nat × Int)}, conf t ss = none → ∀ p ∈ ss, ∀ q ∈ ss, p.2 - q.2 ≤ dist t p.1 q.1
  | a :: r, h, p, hp, q, hq => by
    unfold conf at h
    split at h
    · cases h
    · next e =>
      have h1 : ∀ x ∈ r, bad t a x = false := fun x hx => by
        have := List.find?_eq_none.mp e x hx
        simpa using this
      rcases List.mem_cons.mp hp with e1 | hp <;> rcases List.mem_cons.mp hq with e2 | hq
      · rw [e1, e2, dist_self]; omega
      · rw [e1]; exact (bad_false (h1 q hq)).1
      · rw [e2, dist_comm]; exact (bad_false (h1 p hp)).2
      · exact conf_peace h p hp q hq
theorem pair_peace {t : Tr} {ss : List (Nat × Int)} (h : SeenOk t ss) (hc : conf t ss = none) : pairOf t (seenW t ss) = none := by
  refine pair_no fun i j hi hj => ?_
  rw [seenW_len] at hi hj
  cases e : apart t (seenW t ss) i j with
  | false => rfl
  | true =>
    obtain ⟨l, h1, h2⟩ := apart_iff.mp e
    rw [seenW_getD (by omega)] at h1 h2
    have hj' := tick_some h1
    have h3 := (h.2 _ hj').2.1
    have h4 := dist_nonneg t i j
    cases ei : tickS ss i with
    | none =>
      rw [ei] at h2
      have h2 : l + dist t i j < 0 := h2
      have h3 : 0 ≤ l := h3
      omega
    | some z =>
      rw [ei] at h2
      have h2 : l + dist t i j < z := h2
      have h5 : z - l ≤ dist t i j := conf_peace hc _ (tick_some ei) _ hj'
      omega
theorem earl_early {t : Tr} {ss : List (Nat × Int)} (h : SeenOk t ss) {x : Nat} (hx : x ≤ t.length) : earl t (seenW t ss) x = earlyS t ss x := by
  have h0 : 0 < (seenW t ss).length := by rw [seenW_len]; omega
  refine Int.le_antisymm (earl_le h0 fun k w e => ?_) ?_
  · have hk : k ≤ t.length := by
      have := (List.getElem?_eq_some_iff.mp e).1
      rw [seenW_len] at this
      omega
    rw [seenW_get hk] at e
    cases e
    have hd := dist_nonneg t x k
    have hz : (0 : Int) ≤ earlyS t ss x := le_maxI List.mem_cons_self
    cases ek : tickS ss k with
    | none => show (0 : Int) - _ ≤ _; omega
    | some z =>
      have : z - dist t k x ≤ earlyS t ss x := le_maxI (List.mem_cons_of_mem _ (List.mem_map.mpr ⟨_, tick_some ek, rfl⟩))
      rw [dist_comm] at this
      exact this
  · have hm : earlyS t ss x ∈ (0 :: ss.map fun p => p.2 - dist t p.1 x) := maxI_mem (by simp)
    rcases List.mem_cons.mp hm with e | hm
    · rw [e]
      have h1 := earl_least (t := t) (seenW_get (ss := ss) hx)
      refine Int.le_trans ?_ h1
      cases ex : tickS ss x with
      | none => exact Int.le_refl _
      | some z => exact (h.2 _ (tick_some ex)).2.1
    · obtain ⟨p, hp, e⟩ := List.mem_map.mp hm
      rw [← e]
      have h1 := earl_ge (t := t) (i := x) (seenW_get (ss := ss) (h.2 p hp).1)
      rw [tick_mem h.1 hp, dist_comm] at h1
      exact h1
/-- the seen mark at place i is served from c -/
theorem hit_part {t : Tr} {ss : List (Nat × Int)} (h : SeenOk t ss) {c i : Nat} (hc : c ≤ t.length) (hi : i < ss.length) : hitB t ss c i = inPart t (seenW t ss) ss[i].1 c := by
  have hp := List.getElem_mem hi
  unfold hitB inPart
  rw [seenW_getD (h.2 _ hp).1, tick_mem h.1 hp, earl_early h hc, List.getD_eq_getElem?_getD, List.getElem?_eq_getElem hi]
  show decide (earlyS t ss c + dist t c ss[i].1 = ss[i].2) = decide (earlyS t ss c + dist t c ss[i].1 ≤ ss[i].2)
  have h1 : ss[i].2 - dist t ss[i].1 c ≤ earlyS t ss c := le_maxI (List.mem_cons_of_mem _ (List.mem_map.mpr ⟨_, hp, rfl⟩))
  rw [dist_comm] at h1
  exact decide_eq_decide.mpr ⟨fun e => by omega, fun e => by omega⟩
theorem free_part {t : Tr} {ss : List (Nat × Int)} {m x : Nat} (hm : m ≤ t.length) (h : tickS ss m = none) : inPart t (seenW t ss) m x = true := by
  unfold inPart
  rw [seenW_getD hm, h]
theorem few_cov {t : Tr} {ss : List (Nat × Int)} (hs : SeenOk t ss) {ps : List (Nat × Int)} {ms : List Nat} (F : Few2 t (seenW t ss) ps ms) : Cov t ss ps.length := by
  refine ⟨ps.map Prod.fst, by rw [List.length_map], fun c hc => ?_, fun i hi => ?_⟩
  · obtain ⟨p, hp, rfl⟩ := List.mem_map.mp hc
    exact (F.push p hp).1
  · obtain ⟨p, hp, h⟩ := F.served ss[i].1 (hs.2 _ (List.getElem_mem hi)).1
    exact ⟨p.1, List.mem_map.mpr ⟨p, hp, rfl⟩, by rw [hit_part hs (F.push p hp).1 hi]; exact h⟩
theorem few_min {t : Tr} {ss : List (Nat × Int)} (hs : SeenOk t ss) (hc : conf t ss = none) {ps : List (Nat × Int)} {ms : List Nat} (F : Few2 t (seenW t ss) ps ms) {j : Nat} (h1 : 1 ≤ j) (h2 : j < ps.length) : ¬ Cov t ss j := by
  rintro ⟨cs, hl, hcs, hcv⟩
  have hp0 := pair_peace hs hc
  have hdis := (List.pairwise_flatMap.mp F.parts).2
  have hml := F.len
  -- every mark among ms was seen
  have hseen : ∀ m ∈ ms, tickS ss m ≠ none := fun m hm h => by
    have : ∃ m' ∈ ms, m' ≠ m := by
      refine Classical.byContradiction fun hn => ?_
      have hall : ∀ x ∈ ms, x ∈ [m] := fun x hx => by
        refine List.mem_singleton.mpr (Classical.byContradiction fun hne => hn ⟨x, hx, hne⟩)
      have := L2.nat_nodup_len ms [m] F.mnd hall
      rw [List.length_singleton] at this
      omega
    obtain ⟨m', hm', hne⟩ := this
    have ha : m' ∈ partL t (seenW t ss) m := partL_mem.mpr (partB_iff.mpr ⟨F.mle m' hm', free_part (F.mle m hm) h⟩)
    have hb : m' ∈ partL t (seenW t ss) m' := partL_mem.mpr (partB_iff.mpr ⟨F.mle m' hm', part_self hp0 (by rw [seenW_len]; have := F.mle m' hm'; omega)⟩)
    have hsym : ∀ a ∈ ms, ∀ b ∈ ms, a ≠ b → ∀ x ∈ partL t (seenW t ss) a, ∀ y ∈ partL t (seenW t ss) b, x ≠ y := fun a ha b hb hab => by
      obtain ⟨i, hi, ei⟩ := List.getElem_of_mem ha
      obtain ⟨k, hk, ek⟩ := List.getElem_of_mem hb
      have hg := List.pairwise_iff_getElem.mp hdis
      rcases Nat.lt_trichotomy i k with z | z | z
      · have := hg i k hi hk z
        rw [ei, ek] at this
        exact this
      · subst z
        exact absurd (ei.symm.trans ek) hab
      · have := hg k i hk hi z
        rw [ei, ek] at this
        exact fun x hx y hy e => this y hy x hx e.symm
    exact hsym m hm m' hm' (Ne.symm hne) _ ha _ hb rfl
  have hch : ∀ m : Nat, ∃ c, m ∈ ms → c ∈ cs ∧ c ∈ partL t (seenW t ss) m := fun m => by
    by_cases hm : m ∈ ms
    · cases e : tickS ss m with
      | none => exact absurd e (hseen m hm)
      | some z =>
        obtain ⟨i, hi, ei⟩ := List.getElem_of_mem (tick_some e)
        obtain ⟨c, hc1, hc2⟩ := hcv i hi
        refine ⟨c, fun _ => ⟨hc1, partL_mem.mpr (partB_iff.mpr ⟨hcs c hc1, ?_⟩)⟩⟩
        rw [hit_part hs (hcs c hc1) hi, ei] at hc2
        exact hc2
    · exact ⟨0, fun h => absurd h hm⟩
  obtain ⟨f, hf⟩ := Classical.axiomOfChoice hch
  have hnd : (ms.map f).Nodup := List.pairwise_map.mpr (List.Pairwise.imp_of_mem (fun {a b} ha hb h e => h (f a) (hf a ha).2 (f b) (hf b hb).2 e) hdis)
  have := L2.nat_nodup_len (ms.map f) cs hnd fun x hx => by
    obtain ⟨m, hm, rfl⟩ := List.mem_map.mp hx
    exact (hf m hm).1
  rw [List.length_map] at this
  omega
theorem least_of {p : Nat → Prop} : ∀ {n : Nat}, 1 ≤ n → p n → ∃ m, 1 ≤ m ∧ m ≤ n ∧ p m ∧ ∀ j, 1 ≤ j → j < m → ¬ p j := by
  intro n
  induction n using Nat.strongRecOn with
  | _ n ih =>
    intro h1 hp
    by_cases h : ∃ j, 1 ≤ j ∧ j < n ∧ p j
    · obtain ⟨j, a, b, c⟩ := h
      obtain ⟨m, m1, m2, m3, m4⟩ := ih j b a c
      exact ⟨m, m1, by omega, m3, m4⟩
    · exact ⟨n, h1, Nat.le_refl _, hp, fun j a b c => h ⟨j, a, b, c⟩⟩
/-- there is a least number of marks -/
theorem least_ex {t : Tr} (ht : TreeOk t) {ss : List (Nat × Int)} (hs : SeenOk t ss) (hc : conf t ss = none) : ∃ m, 1 ≤ m ∧ m ≤ 12 ∧ Cov t ss m ∧ ∀ j, 1 ≤ j → j < m → ¬ Cov t ss j := by
  have ht1 := ht.1
  have hcv : Cov t ss (t.length + 1) := ⟨List.range (t.length + 1), List.length_range, fun c h => by have := List.mem_range.mp h; omega, fun i hi => by
    have hp := (hs.2 _ (List.getElem_mem hi)).1
    refine ⟨ss[i].1, List.mem_range.mpr (by omega), ?_⟩
    rw [hit_part hs hp hi]
    exact part_self (pair_peace hs hc) (by rw [seenW_len]; omega)⟩
  obtain ⟨m, a, b, c, d⟩ := least_of (p := Cov t ss) (by omega) hcv
  exact ⟨m, a, by omega, c, d⟩
theorem least_few {t : Tr} {ss : List (Nat × Int)} (hs : SeenOk t ss) (hc : conf t ss = none) {m : Nat} (h : 1 ≤ m ∧ m ≤ 12 ∧ Cov t ss m ∧ ∀ j, 1 ≤ j → j < m → ¬ Cov t ss j) {ps : List (Nat × Int)} {ms : List Nat} (F : Few2 t (seenW t ss) ps ms) : ps.length = m := by
  have h0 : 1 ≤ ps.length := Nat.pos_of_ne_zero fun e => F.ne (List.eq_nil_of_length_eq_zero e)
  rcases Nat.lt_trichotomy ps.length m with e | e | e
  · exact (h.2.2.2 _ h0 e (few_cov hs F)).elim
  · exact e
  · exact (few_min hs hc F h.1 e h.2.2.1).elim
theorem low_le {t : Tr} {ss : List (Nat × Int)} {m : Nat} {b : Int} : lowS t ss m ≤ b ↔ 0 ≤ b ∧ ∀ p ∈ ss, p.2 - dist t p.1 m ≤ b := by
  unfold lowS
  constructor
  · intro h
    exact ⟨Int.le_trans (le_maxI List.mem_cons_self) h, fun p hp => Int.le_trans (le_maxI (List.mem_cons_of_mem _ (List.mem_map.mpr ⟨p, hp, rfl⟩))) h⟩
  · rintro ⟨h0, h1⟩
    have hm := maxI_mem (ns := 0 :: ss.map fun p => p.2 - dist t p.1 m) (List.cons_ne_nil _ _)
    rcases List.mem_cons.mp hm with e | hm
    · rw [e]; exact h0
    · obtain ⟨p, hp, e⟩ := List.mem_map.mp hm
      rw [← e]
      exact h1 p hp
theorem le_high {t : Tr} {ss : List (Nat × Int)} (hne : ss ≠ []) {m : Nat} {b : Int} : b ≤ highS t ss m ↔ ∀ p ∈ ss, b ≤ p.2 + dist t p.1 m := by
  unfold highS
  constructor
  · intro h p hp
    exact Int.le_trans h (minI_le (List.mem_map.mpr ⟨p, hp, rfl⟩))
  · intro h
    obtain ⟨p, hp, e⟩ := List.mem_map.mp (minI_mem (ns := ss.map fun p => p.2 + dist t p.1 m) (fun z => hne (List.map_eq_nil_iff.mp z)))
    rw [← e]
    exact h p hp
theorem low_ge {t : Tr} {ss : List (Nat × Int)} {m : Nat} {p : Nat × Int} (hp : p ∈ ss) : p.2 - dist t p.1 m ≤ lowS t ss m := (low_le.mp (Int.le_refl _)).2 p hp
theorem low_0 {t : Tr} {ss : List (Nat × Int)} {m : Nat} : 0 ≤ lowS t ss m := (low_le (b := lowS t ss m)).mp (Int.le_refl _) |>.1
theorem high_le {t : Tr} {ss : List (Nat × Int)} {m : Nat} {p : Nat × Int} (hp : p ∈ ss) : highS t ss m ≤ p.2 + dist t p.1 m := (le_high (List.ne_nil_of_mem hp)).mp (Int.le_refl _) p hp
theorem conf_of {t : Tr} : ∀ {ss : List (Nat × Int)}, (∀ p ∈ ss, ∀ q ∈ ss, p.2 - q.2 ≤ dist t p.1 q.1) → conf t ss = none
  | [], _ => rfl
  | p :: r, h => by
    have hf : r.find? (bad t p) = none := List.find?_eq_none.mpr fun q hq hb => by
      have h1 := h p List.mem_cons_self q (List.mem_cons_of_mem _ hq)
      have h2 := h q (List.mem_cons_of_mem _ hq) p List.mem_cons_self
      have h3 := dist_comm t p.1 q.1
      unfold bad at hb
      have hb := of_decide_eq_true hb
      split at hb <;> omega
    unfold conf
    rw [hf]
    exact conf_of fun a ha b hb => h a (List.mem_cons_of_mem _ ha) b (List.mem_cons_of_mem _ hb)
theorem low_high {t : Tr} {ss : List (Nat × Int)} (hs : SeenOk t ss) (hc : conf t ss = none) (hne : ss ≠ []) (m : Nat) : lowS t ss m ≤ highS t ss m := (le_high hne).mpr fun q hq => low_le.mpr ⟨by
  have := (hs.2 q hq).2.1
  have := dist_nonneg t q.1 m
  omega, fun p hp => by
  have h1 := conf_peace hc p hp q hq
  have h2 := dist_tri t p.1 m q.1
  have h3 := dist_comm t m q.1
  omega⟩
def more26 (ss : List (Nat × Int)) (m : Nat) (x : Int) : List (Nat × Int) := (ss ++ [(m, x)]).mergeSort fun a b => leD (pushD a) (pushD b)
theorem more_map (ss : List (Nat × Int)) (m : Nat) (x : Int) : ((ss ++ [(m, x)]).map pushD).mergeSort leD = (more26 ss m x).map pushD := by
  unfold more26
  rw [List.map_mergeSort (r := fun a b => leD (pushD a) (pushD b)) (s := leD) (f := pushD) (fun a _ b _ => rfl)]
theorem more_mem {ss : List (Nat × Int)} {m : Nat} {x : Int} {p : Nat × Int} : p ∈ more26 ss m x ↔ p ∈ ss ∨ p = (m, x) := by
  unfold more26
  rw [(List.mergeSort_perm _ _).mem_iff]
  simp
theorem more_ok {t : Tr} {ss : List (Nat × Int)} {m : Nat} {x : Int} (h : SeenOk t ss) (hm : m ≤ t.length) (hn : ∀ p ∈ ss, p.1 ≠ m) (h0 : 0 ≤ x) (h1 : x ≤ 2000000000) : SeenOk t (more26 ss m x) := by
  have hps := PySem.W.sort_pairwise (PySem.W.sortLe_total (PyProof.Rows.listOrd itemOrd) false fun p : Nat × Int => PySem.W.keyToks (toPy (pushD p))) (ss ++ [(m, x)])
  have hpm := List.mergeSort_perm (ss ++ [(m, x)]) fun a b => leD (pushD a) (pushD b)
  have hnd : ((ss ++ [(m, x)]).map Prod.fst).Nodup := by
    rw [List.map_append]
    refine List.nodup_append.mpr ⟨List.pairwise_map.mpr (h.1.imp fun {p q} hl e => by omega), by simp, fun a ha b hb e => ?_⟩
    obtain ⟨p, hp, rfl⟩ := List.mem_map.mp ha
    have hb : b = m := by simpa using hb
    exact hn p hp (e.trans hb)
  have hnd2 : ((more26 ss m x).map Prod.fst).Nodup := (hpm.map Prod.fst).nodup_iff.mpr hnd
  have hne : (more26 ss m x).Pairwise fun p q => p.1 ≠ q.1 := List.pairwise_map.mp hnd2
  have hle : (more26 ss m x).Pairwise fun p q => p.1 < q.1 ∨ (p.1 = q.1 ∧ p.2 ≤ q.2) := hps.imp fun h => push_le h
  refine ⟨(hle.and hne).imp fun {p q} hh => by omega, fun p hp => ?_⟩
  rcases more_mem.mp hp with hp | rfl
  · exact h.2 p hp
  · exact ⟨hm, h0, h1⟩
theorem more_conf {t : Tr} {ss : List (Nat × Int)} {m : Nat} {x : Int} (hc : conf t ss = none) (hne : ss ≠ []) (h0 : 0 ≤ x) : conf t (more26 ss m x) = none ↔ lowS t ss m ≤ x ∧ x ≤ highS t ss m := by
  constructor
  · intro h
    have hp := conf_peace h
    refine ⟨low_le.mpr ⟨h0, fun p hq => ?_⟩, (le_high hne).mpr fun p hq => ?_⟩
    · have := hp p (more_mem.mpr (.inl hq)) (m, x) (more_mem.mpr (.inr rfl))
      have this : p.2 - x ≤ dist t p.1 m := this
      omega
    · have := hp (m, x) (more_mem.mpr (.inr rfl)) p (more_mem.mpr (.inl hq))
      have this : x - p.2 ≤ dist t m p.1 := this
      have := dist_comm t m p.1
      omega
  · rintro ⟨h1, h2⟩
    refine conf_of fun p hp q hq => ?_
    rcases more_mem.mp hp with hp | rfl <;> rcases more_mem.mp hq with hq | rfl
    · exact conf_peace hc p hp q hq
    · have := low_ge (t := t) (m := m) hp
      show p.2 - x ≤ dist t p.1 m
      omega
    · have := high_le (t := t) (m := m) hq
      have := dist_comm t m q.1
      show x - q.2 ≤ dist t m q.1
      omega
    · have := dist_nonneg t m m
      show x - x ≤ dist t m m
      omega
theorem more_in {t : Tr} {ss : List (Nat × Int)} {m : Nat} {x : Int} (hne : ss ≠ []) (k : Nat) : lowS t ss k ≤ lowS t (more26 ss m x) k ∧ highS t (more26 ss m x) k ≤ highS t ss k :=
  ⟨low_le.mpr ⟨low_0, fun p hp => low_ge (more_mem.mpr (.inl hp))⟩, (le_high hne).mpr fun p hp => high_le (more_mem.mpr (.inl hp))⟩
theorem more_at {t : Tr} {ss : List (Nat × Int)} {m : Nat} {x : Int} (hc : conf t (more26 ss m x) = none) (h0 : 0 ≤ x) : lowS t (more26 ss m x) m = x ∧ highS t (more26 ss m x) m = x := by
  have hmx : (m, x) ∈ more26 ss m x := more_mem.mpr (.inr rfl)
  have hp := conf_peace hc
  have h1 : lowS t (more26 ss m x) m ≤ x := low_le.mpr ⟨h0, fun p hq => by
    have := hp p hq (m, x) hmx
    have this : p.2 - x ≤ dist t p.1 m := this
    omega⟩
  have h2 : x ≤ highS t (more26 ss m x) m := (le_high (List.ne_nil_of_mem hmx)).mpr fun p hq => by
    have := hp (m, x) hmx p hq
    have this : x - p.2 ≤ dist t m p.1 := this
    have := dist_comm t m p.1
    omega
  have h3 : x - dist t m m ≤ lowS t (more26 ss m x) m := low_ge hmx
  have h4 : highS t (more26 ss m x) m ≤ x + dist t m m := high_le hmx
  rw [dist_self] at h3 h4
  omega
theorem cov_mem {t : Tr} {ss : List (Nat × Int)} {n : Nat} : Cov t ss n ↔ ∃ cs : List Nat, cs.length = n ∧ (∀ c ∈ cs, c ≤ t.length) ∧ ∀ p ∈ ss, ∃ c ∈ cs, earlyS t ss c + dist t c p.1 = p.2 := by
  unfold Cov
  constructor
  · rintro ⟨cs, h1, h2, h3⟩
    refine ⟨cs, h1, h2, fun p hp => ?_⟩
    obtain ⟨i, hi, e⟩ := List.getElem_of_mem hp
    obtain ⟨c, hc, hb⟩ := h3 i hi
    refine ⟨c, hc, ?_⟩
    unfold hitB at hb
    rw [List.getD_eq_getElem?_getD, List.getElem?_eq_getElem hi, e] at hb
    exact of_decide_eq_true hb
  · rintro ⟨cs, h1, h2, h3⟩
    refine ⟨cs, h1, h2, fun i hi => ?_⟩
    obtain ⟨c, hc, e⟩ := h3 _ (List.getElem_mem hi)
    refine ⟨c, hc, ?_⟩
    unfold hitB
    rw [List.getD_eq_getElem?_getD, List.getElem?_eq_getElem hi]
    exact decide_eq_true e
theorem more_cov {t : Tr} {ss : List (Nat × Int)} {m : Nat} {x : Int} {n : Nat} (hne : ss ≠ []) (h : Cov t (more26 ss m x) n) : Cov t ss n := by
  obtain ⟨cs, h1, h2, h3⟩ := cov_mem.mp h
  refine cov_mem.mpr ⟨cs, h1, h2, fun p hp => ?_⟩
  obtain ⟨c, hc, e⟩ := h3 p (more_mem.mpr (.inl hp))
  refine ⟨c, hc, ?_⟩
  have a1 : p.2 - dist t p.1 c ≤ earlyS t ss c := low_ge hp
  have a2 : earlyS t ss c ≤ earlyS t (more26 ss m x) c := (more_in (m := m) (x := x) hne c).1
  have a3 := dist_comm t p.1 c
  omega
theorem least_mono {t : Tr} {ss zs : List (Nat × Int)} {a b : Nat} (hab : ∀ n, Cov t zs n → Cov t ss n) (h1 : 1 ≤ a ∧ a ≤ 12 ∧ Cov t ss a ∧ ∀ j, 1 ≤ j → j < a → ¬ Cov t ss j) (h2 : 1 ≤ b ∧ b ≤ 12 ∧ Cov t zs b ∧ ∀ j, 1 ≤ j → j < b → ¬ Cov t zs j) : a ≤ b := by
  by_cases h : b < a
  · exact absurd (hab b h2.2.2.1) (h1.2.2.2 b h2.1 h)
  · omega
/-- the falls of pushes, seen -/
theorem seen_cov {t : Tr} {ps ss : List (Nat × Int)} (hps : ∀ p ∈ ps, p.1 ≤ t.length ∧ 0 ≤ p.2) (hne : ps ≠ []) (h : ∀ p ∈ ss, p.2 = fallT t ps p.1) : Cov t ss ps.length := by
  refine cov_mem.mpr ⟨ps.map Prod.fst, List.length_map _, fun c hc => ?_, fun p hp => ?_⟩
  · obtain ⟨q, hq, rfl⟩ := List.mem_map.mp hc
    exact (hps q hq).1
  · obtain ⟨q, hq, e⟩ := fallT_mem (t := t) hne p.1
    refine ⟨q.1, List.mem_map.mpr ⟨q, hq, rfl⟩, ?_⟩
    have a1 : p.2 - dist t p.1 q.1 ≤ earlyS t ss q.1 := low_ge hp
    have a2 : earlyS t ss q.1 ≤ q.2 := low_le.mpr ⟨(hps q hq).2, fun r hr => by
      have := fallT_le (t := t) hq r.1
      rw [h r hr]
      have := dist_comm t r.1 q.1
      omega⟩
    have a3 := dist_comm t p.1 q.1
    have a4 := h p hp
    omega
/-- every mark seen -/
def allS (t : Tr) (ps : List (Nat × Int)) : List (Nat × Int) := (List.range (t.length + 1)).map fun i => (i, fallT t ps i)
theorem all_mem {t : Tr} {ps : List (Nat × Int)} {p : Nat × Int} : p ∈ allS t ps ↔ p.1 ≤ t.length ∧ p.2 = fallT t ps p.1 := by
  unfold allS
  rw [List.mem_map]
  constructor
  · rintro ⟨i, hi, rfl⟩
    exact ⟨by have := List.mem_range.mp hi; show i ≤ _; omega, rfl⟩
  · rintro ⟨h1, h2⟩
    exact ⟨p.1, List.mem_range.mpr (by omega), by rw [← h2]⟩
section
variable {t : Tr} {ps : List (Nat × Int)} (ht : TreeOk t) (hps : ∀ p ∈ ps, p.1 ≤ t.length ∧ 0 ≤ p.2) (hne : ps ≠ [])
include hps hne
theorem fall_nn (i : Nat) : 0 ≤ fallT t ps i := by
  obtain ⟨q, hq, e⟩ := fallT_mem (t := t) hne i
  have := (hps q hq).2
  have := dist_nonneg t q.1 i
  omega
theorem fall_lip (i j : Nat) (hi : i ≤ t.length) (hj : j ≤ t.length) : fallT t ps i ≤ fallT t ps j + dist t i j := by
  have := fallsT_lip (t := t) hne i j hi hj
  rwa [fallsT_getD t ps hi, fallsT_getD t ps hj] at this
theorem early_all {c : Nat} (hc : c ≤ t.length) : earlyS t (allS t ps) c = fallT t ps c := by
  have h1 : fallT t ps c - dist t c c ≤ earlyS t (allS t ps) c := low_ge (p := (c, fallT t ps c)) (all_mem.mpr ⟨hc, rfl⟩)
  have h2 : earlyS t (allS t ps) c ≤ fallT t ps c := low_le.mpr ⟨fall_nn hps hne c, fun p hp => by
    obtain ⟨h3, h4⟩ := all_mem.mp hp
    have := fall_lip hps hne p.1 c h3 hc
    rw [h4]
    omega⟩
  rw [dist_self] at h1
  omega
include ht
theorem cov_all : Cov t (allS t ps) (needP t (fallsT t ps)).length := by
  refine cov_mem.mpr ⟨(needP t (fallsT t ps)).map Prod.fst, List.length_map _, fun c hc => ?_, fun p hp => ?_⟩
  · obtain ⟨q, hq, rfl⟩ := List.mem_map.mp hc
    have := (List.getElem?_eq_some_iff.mp (mem_needP.mp hq).1).1
    rw [fallsT_len] at this
    omega
  · obtain ⟨h1, h2⟩ := all_mem.mp hp
    obtain ⟨q, hq, hb, e⟩ := need_source ht (fallsT_lip (t := t) hne) (fun i hi => by rw [fallsT_getD t ps hi]; exact fall_nn hps hne i) _ p.1 h1 (Nat.le_refl _)
    rw [fallsT_getD t ps h1, fallsT_getD t ps hq] at e
    refine ⟨q, List.mem_map.mpr ⟨(q, (fallsT t ps).getD q 0), mem_needP.mpr ⟨get_of (by show q < _; rw [fallsT_len]; omega), hb⟩, rfl⟩, ?_⟩
    rw [early_all hps hne hq, h2]
    exact e.symm
theorem cov_min {n : Nat} (h : Cov t (allS t ps) n) : (needP t (fallsT t ps)).length ≤ n := by
  obtain ⟨cs, h1, h2, h3⟩ := cov_mem.mp h
  have := L2.nat_nodup_len ((needP t (fallsT t ps)).map Prod.fst) cs (needP_nodup t _) fun m hm => by
    obtain ⟨q, hq, rfl⟩ := List.mem_map.mp hm
    obtain ⟨e1, hb⟩ := mem_needP.mp hq
    have hm := (List.getElem?_eq_some_iff.mp e1).1
    rw [fallsT_len] at hm
    obtain ⟨c, hc, e⟩ := h3 (q.1, fallT t ps q.1) (all_mem.mpr ⟨by show q.1 ≤ _; omega, rfl⟩)
    have e : earlyS t (allS t ps) c + dist t c q.1 = fallT t ps q.1 := e
    rw [early_all hps hne (h2 c hc)] at e
    by_cases hcm : c = q.1
    · rw [← hcm]; exact hc
    · have hf := need_far ht (fallsT_lip (t := t) hne) (h2 c hc) (by omega) hcm hb
      rw [fallsT_getD t ps (by omega), fallsT_getD t ps (h2 c hc)] at hf
      omega
  rw [List.length_map, h1] at this
  exact this
theorem need_least {m : Nat} (h : 1 ≤ m ∧ m ≤ 12 ∧ Cov t (allS t ps) m ∧ ∀ j, 1 ≤ j → j < m → ¬ Cov t (allS t ps) j) : m = (needP t (fallsT t ps)).length := by
  have h1 := cov_min ht hps hne h.2.2.1
  have h2 : 1 ≤ (needP t (fallsT t ps)).length := by
    obtain ⟨q, hq, hb, e⟩ := need_source ht (fallsT_lip (t := t) hne) (fun i hi => by rw [fallsT_getD t ps hi]; exact fall_nn hps hne i) _ 0 (Nat.zero_le _) (Nat.le_refl _)
    have hm : (q, (fallsT t ps).getD q 0) ∈ needP t (fallsT t ps) := mem_needP.mpr ⟨get_of (by show q < _; rw [fallsT_len]; omega), hb⟩
    exact List.length_pos_of_mem hm
  by_cases h3 : (needP t (fallsT t ps)).length < m
  · exact absurd (cov_all ht hps hne) (h.2.2.2 _ h2 h3)
  · omega
end
theorem all_ok {t : Tr} {ps : List (Nat × Int)} (hps : ∀ p ∈ ps, p.1 ≤ t.length ∧ 0 ≤ p.2) (hne : ps ≠ []) (hb : ∀ i, i ≤ t.length → fallT t ps i ≤ 900000000) : SeenOk t (allS t ps) ∧ conf t (allS t ps) = none ∧ allS t ps ≠ [] := by
  refine ⟨⟨?_, fun p hp => ?_⟩, conf_of fun p hp q hq => ?_, fun e => ?_⟩
  · unfold allS
    exact List.pairwise_map.mpr List.pairwise_lt_range
  · obtain ⟨h1, h2⟩ := all_mem.mp hp
    have := hb p.1 h1
    have := fall_nn hps hne (t := t) p.1
    exact ⟨h1, by omega, by omega⟩
  · obtain ⟨h1, h2⟩ := all_mem.mp hp
    obtain ⟨h3, h4⟩ := all_mem.mp hq
    have := fall_lip hps hne p.1 q.1 h1 h3
    omega
  · have := (all_mem (t := t) (ps := ps) (p := (0, fallT t ps 0))).mpr ⟨Nat.zero_le _, rfl⟩
    rw [e] at this
    cases this
theorem mem_seen {t : Tr} {ss : List (Nat × Int)} (h : SeenOk t ss) {i : Nat} {x : Int} : x ∈ lastsAt t (seenW t ss) i ↔ ∃ p ∈ ss, x = p.2 + dist t p.1 i := by
  constructor
  · intro hx
    obtain ⟨k, w, l, e1, e2, e3⟩ := mem_lasts.mp hx
    have hk := (List.getElem?_eq_some_iff.mp e1).1
    rw [seenW_len] at hk
    rw [seenW_get (by omega)] at e1
    cases e1
    exact ⟨(k, l), tick_some e2, by rw [e3, dist_comm]⟩
  · rintro ⟨p, hp, rfl⟩
    refine mem_lasts.mpr ⟨p.1, _, p.2, seenW_get (h.2 p hp).1, tick_mem h.1 hp, by rw [dist_comm]⟩
theorem late_seen {t : Tr} {ss : List (Nat × Int)} (h : SeenOk t ss) (i : Nat) : late t (seenW t ss) i = if ss = [] then none else some (highS t ss i) := by
  by_cases he : ss = []
  · rw [if_pos he]
    have hn : lastsAt t (seenW t ss) i = [] := List.eq_nil_iff_forall_not_mem.mpr fun x hx => by
      obtain ⟨p, hp, _⟩ := (mem_seen h).mp hx
      rw [he] at hp
      cases hp
    unfold late
    rw [if_pos hn]
  · rw [if_neg he]
    obtain ⟨p, hp⟩ := List.exists_mem_of_ne_nil _ he
    have hn : lastsAt t (seenW t ss) i ≠ [] := fun e => by
      have := (mem_seen (t := t) h (i := i)).mpr ⟨p, hp, rfl⟩
      rw [e] at this
      cases this
    unfold late
    rw [if_neg hn]
    refine congrArg some (minI_perm hn fun x => ?_)
    rw [mem_seen h, List.mem_map]
    constructor
    · rintro ⟨p, hp, rfl⟩
      exact ⟨p, hp, rfl⟩
    · rintro ⟨p, hp, rfl⟩
      exact ⟨p, hp, rfl⟩
theorem pl_ranges (t : Tr) (ss : List (Nat × Int)) : Pl 2 (rangesD t ss) := .tup fun d hd => by
  obtain ⟨i, _, rfl⟩ := List.mem_map.mp hd
  exact .tup fun d hd => by
    simp only [List.mem_cons, List.not_mem_nil, or_false] at hd
    rcases hd with rfl | rfl
    · exact .int _
    · split
      · exact .non
      · exact .int _
def tickC : Option Int → D
  | none => .lst [.int 0, .non]
  | some v => .lst [.int v, .int v]
def tickL (n : Nat) (zs : List (Nat × Int)) : List D := (List.range n).map fun i => tickC (tickS zs i)
theorem tickL_nil (n : Nat) : tickL n [] = List.replicate n (.lst [.int 0, .non]) := by
  unfold tickL
  refine List.ext_getElem (by simp) fun i h1 h2 => ?_
  rw [List.getElem_map, List.getElem_replicate]
  rfl
theorem tick_self {zs : List (Nat × Int)} {p : Nat × Int} (hn : ∀ q ∈ zs, q.1 < p.1) : tickS (zs ++ [p]) p.1 = some p.2 := by
  unfold tickS
  rw [List.find?_append, List.find?_eq_none.mpr fun q hq h => by
    have := hn q hq
    have := of_decide_eq_true h
    omega, Option.none_or, List.find?_cons_of_pos (by exact decide_eq_true rfl)]
  rfl
theorem tick_other {zs : List (Nat × Int)} {p : Nat × Int} {i : Nat} (h : i ≠ p.1) : tickS (zs ++ [p]) i = tickS zs i := by
  unfold tickS
  rw [List.find?_append, show [p].find? (fun q => decide (q.1 = i)) = none from List.find?_eq_none.mpr fun q hq hd => by
    have hq : q = p := by simpa using hq
    subst hq
    exact h (of_decide_eq_true hd).symm, Option.or_none]
theorem tickL_set {n : Nat} {zs : List (Nat × Int)} {p : Nat × Int} (hp : p.1 < n) (hn : ∀ q ∈ zs, q.1 < p.1) : (tickL n zs).set p.1 (.lst [.int p.2, .int p.2]) = tickL n (zs ++ [p]) := by
  unfold tickL
  refine List.ext_getElem (by simp) fun i h1 h2 => ?_
  rw [List.getElem_map, List.getElem_range, List.getElem_set]
  by_cases h : p.1 = i
  · rw [if_pos h, ← h, tick_self hn]
    rfl
  · rw [if_neg h, List.getElem_map, List.getElem_range, tick_other (fun e => h e.symm)]
theorem all_range {t : Tr} {ps : List (Nat × Int)} (hps : ∀ p ∈ ps, p.1 ≤ t.length ∧ 0 ≤ p.2) (hne : ps ≠ []) (ha : allS t ps ≠ []) {i : Nat} (hi : i ≤ t.length) : rangeD t (allS t ps) i = .tup [.int (fallT t ps i), .int (fallT t ps i)] := by
  have h1 : lowS t (allS t ps) i = fallT t ps i := early_all hps hne hi
  have hm : (i, fallT t ps i) ∈ allS t ps := all_mem.mpr ⟨hi, rfl⟩
  have h2 : highS t (allS t ps) i = fallT t ps i := by
    have a1 : highS t (allS t ps) i ≤ fallT t ps i + dist t i i := high_le hm
    have a2 : fallT t ps i ≤ highS t (allS t ps) i := (le_high ha).mpr fun p hp => by
      obtain ⟨h3, h4⟩ := all_mem.mp hp
      have := fall_lip hps hne i p.1 hi h3
      have := dist_comm t i p.1
      rw [h4]
      omega
    rw [dist_self] at a1
    omega
  unfold rangeD
  rw [if_neg ha, h1, h2]
theorem sort_alike (zs : List (Nat × Int)) : PySem.W.AllAlike ((zs.map pushD).map toPy) ∧ PySem.W.Sortable ((zs.map pushD).map toPy) := by
  have key : ∀ d ∈ (zs.map pushD).map toPy, ∃ a b : Int, d = .tuple [.int a, .int b] := fun d hd => by
    obtain ⟨e, he, rfl⟩ := List.mem_map.mp hd
    obtain ⟨p, _, rfl⟩ := List.mem_map.mp he
    exact ⟨_, _, rfl⟩
  refine ⟨fun d hd d' hd' => ?_, .inl fun d hd => ?_⟩
  · obtain ⟨a, b, rfl⟩ := key d hd
    obtain ⟨a', b', rfl⟩ := key d' hd'
    rfl
  · obtain ⟨a, b, rfl⟩ := key d hd
    exact ⟨_, _, rfl⟩
def spWith : DSp := fun args M Q _ => ∃ (t : Tr) (ss : List (Nat × Int)) (d : D) (m : Nat) (x : Int), args = [d, natD m, .int x] ∧ PT (ss.map pushD) d ∧ SeenOk t ss ∧ t.length ≤ 11 ∧ ∀ d', PT ((more26 ss m x).map pushD) d' → Q d' M
theorem c__law_with (T : Tp K mg) : Cl P w K mg base "_law_with" (0 + 1) ["_law_seen", "_law_mark", "_law_tick"] spWith := by
  obtain ⟨f, fd, F, hm⟩ := T.d__law_with.ex
  have S := sc__law_with
  have B := T.bn
  refine ⟨⟨f, fd, fnD F S (fun args M Q E h => by (repeat (obtain ⟨_, h⟩ := h)); subst_vars; rfl) (fun cdv A outer s H E hgd hr => ⟨_, (ds_one (ds_ret (d_tupP (by rfl) B.tuple (d_callB (o_sortT hr.units) (by rfl) B.sorted b_sorted (d_cons (d_op o_add (d_view (dv 0)) (d_tup (d_cons (d_tup (d_cons (dv 1) (d_cons (dv 2) d_nil))) d_nil))) d_nil))))), fun args M Q E' hM hA h => ?_⟩), hm, F.kp, (F.binds (ps := ["_law_seen", "_law_mark", "_law_tick"]) fun _ _ _ _ _ _ us hl => match us, hl with | [_, _, _], _ => rfl)⟩, ?_⟩
  rotate_left
  · exact fun args M Q Q' E E' w _ ⟨t, ss, d, m, x, a1, a2, a3, a4, k⟩ => ⟨t, ss, d, m, x, a1, a2, a3, a4, fun d' h => w _ _ (k d' h)⟩
  · obtain ⟨t, ss, d, m, x, rfl, hpt, hs, ht1, k⟩ := h
    have hsl := hs.len
    walk_at "go1"
    refine ⟨_, .inl hpt, ?_⟩
    walk_at "go1"
    have em : ss.map pushD ++ [D.tup [natD m, .int x]] = (ss ++ [(m, x)]).map pushD := by rw [List.map_append]; rfl
    obtain ⟨h1, h2⟩ := sort_alike (ss ++ [(m, x)])
    refine ⟨_, rfl, ?_, by rw [em]; exact h1, by rw [em]; exact h2, fun d hd => ?_, by rw [em, List.length_map, List.length_append, List.length_singleton]; omega, ?_⟩
    · rw [em]
      exact (PlOk.tup (h := 1) (ds := (ss ++ [(m, x)]).map pushD) fun d hd => by
        obtain ⟨p, _, rfl⟩ := List.mem_map.mp hd
        exact (pl_push p).ok').1
    · rw [em] at hd
      obtain ⟨p, _, rfl⟩ := List.mem_map.mp hd
      exact Nat.le_of_ble_eq_true rfl
    rw [em, more_map]
    walk_at "go1"
    intro d' hd
    exact See.keep (k d' hd)
/-- ranges that lie in others -/
def spInside : DSp := fun args M Q _ => ∃ (n : Nat) (A B C E : Nat → Int) (x : D), args = [x, .tup ((List.range n).map fun i => .tup [.int (C i), .int (E i)])] ∧ (x = .lst ((List.range n).map fun i => .tup [.int (A i), .int (B i)]) ∨ x = .tup ((List.range n).map fun i => .tup [.int (A i), .int (B i)])) ∧ n ≤ 12 ∧ (∀ i, i < n → C i ≤ A i ∧ B i ≤ E i) ∧ Q (.bl true) M
theorem at_rng {n : Nat} {f : Nat → D} {i : Nat} (h : i < n) : atI ((List.range n).map f) (i : Int) = some (f i) := atI_of (j := i) rfl (by rw [List.getElem?_map, List.getElem?_range h]; rfl)
theorem c__law_inside (T : Tp K mg) : Cl P w K mg base "_law_inside" (0 + 1) ["_law_some", "_law_others"] spInside := by
  obtain ⟨f, fd, F, hm⟩ := T.d__law_inside.ex
  have S := sc__law_inside
  have B := T.bn
  refine ⟨⟨f, fd, fnD F S (fun args M Q E h => by (repeat (obtain ⟨_, h⟩ := h)); subst_vars; rfl) (fun cdv A outer s H E hgd hr => ⟨_, (ds_cons (ds_forI (passes_of rfl) rfl (di_range1 (by rfl) B.range (d_cons (d_callB o_len (by rfl) B.len b_len (d_cons (dv 0) d_nil)) d_nil)) (dgn 2 S.nd) (ds_one (ds_if (DW.dt (dw_or (dt_cmp o_lt (d_ix (d_ix (dv 0) (dv 2) (fun _ _ => rfl)) d_int (fun _ _ => rfl)) (d_ix (d_ix (dv 1) (dv 2) (fun _ _ => rfl)) d_int (fun _ _ => rfl))) (dw_or1 (dt_cmp o_gt (d_ix (d_ix (dv 0) (dv 2) (fun _ _ => rfl)) d_int (fun _ _ => rfl)) (d_ix (d_ix (dv 1) (dv 2) (fun _ _ => rfl)) d_int (fun _ _ => rfl)))))) (ds_one (ds_ret d_bl)) ds_nil)))
  (ds_one (ds_ret d_bl))), fun args M Q E' hM hA h => ?_⟩), hm, F.kp, (F.binds (ps := ["_law_some", "_law_others"]) fun _ _ _ _ _ _ us hl => match us, hl with | [_, _], _ => rfl)⟩, ?_⟩
  rotate_left
  · exact fun args M Q Q' E E' w _ ⟨x0, x1, x2, x3, x4, x5, x6, x7, x8, x9, k⟩ => ⟨x0, x1, x2, x3, x4, x5, x6, x7, x8, x9, w _ _ k⟩
  · obtain ⟨n, A, B, C, E, x, rfl, hx, hn, h, k⟩ := h
    rcases hx with rfl | rfl
    · walk_at "go1"
      rw [List.length_range, show ((n : Nat) : Int).toNat = n from rfl]
      refine ⟨⟨by omega, by omega⟩, ?_⟩
      refine ⟨fun done todo ρ M' => done ++ todo = rng 0 n ∧ M' = M ∧ ∃ y : Option D, ρ = ⟨[some (.lst ((List.range n).map fun i => .tup [.int (A i), .int (B i)])), some (.tup ((List.range n).map fun i => .tup [.int (C i), .int (E i)])), y], noX⟩, ⟨rfl, rfl, none, rfl⟩, fun _ _ _ _ _ => trivial, ?_, ?_⟩
      · rintro done d todo ρ M' ⟨e, rfl, y, rfl⟩
        obtain ⟨rfl, hlt⟩ := rng_mid e
        obtain ⟨h1, h2⟩ := h done.length hlt
        have a1 : atI ((List.range n).map fun i => D.tup [.int (A i), .int (B i)]) (done.length : Int) = some (.tup [.int (A done.length), .int (B done.length)]) := at_rng (f := fun i => D.tup [.int (A i), .int (B i)]) hlt
        have a2 : atI ((List.range n).map fun i => D.tup [.int (C i), .int (E i)]) (done.length : Int) = some (.tup [.int (C done.length), .int (E done.length)]) := at_rng (f := fun i => D.tup [.int (C i), .int (E i)]) hlt
        walk_at "go1"
        rw [a1]
        walk_at "go1"
        rw [a2]
        walk_at "go1"
        rw [decide_eq_false (show ¬ A done.length < C done.length by omega)]
        walk_at "go1"
        rw [a1]
        walk_at "go1"
        rw [a2]
        walk_at "go1"
        rw [decide_eq_false (show ¬ E done.length < B done.length by omega)]
        walk_at "go1"
        exact ⟨by rw [← e, Int.zero_add]; simp, trivial, _, rfl⟩
      · rintro done ρ M' ⟨e, rfl, y, rfl⟩
        walk_at "go1"
        exact See.keep k
    · walk_at "go1"
      rw [List.length_range, show ((n : Nat) : Int).toNat = n from rfl]
      refine ⟨⟨by omega, by omega⟩, ?_⟩
      refine ⟨fun done todo ρ M' => done ++ todo = rng 0 n ∧ M' = M ∧ ∃ y : Option D, ρ = ⟨[some (.tup ((List.range n).map fun i => .tup [.int (A i), .int (B i)])), some (.tup ((List.range n).map fun i => .tup [.int (C i), .int (E i)])), y], noX⟩, ⟨rfl, rfl, none, rfl⟩, fun _ _ _ _ _ => trivial, ?_, ?_⟩
      · rintro done d todo ρ M' ⟨e, rfl, y, rfl⟩
        obtain ⟨rfl, hlt⟩ := rng_mid e
        obtain ⟨h1, h2⟩ := h done.length hlt
        have a1 : atI ((List.range n).map fun i => D.tup [.int (A i), .int (B i)]) (done.length : Int) = some (.tup [.int (A done.length), .int (B done.length)]) := at_rng (f := fun i => D.tup [.int (A i), .int (B i)]) hlt
        have a2 : atI ((List.range n).map fun i => D.tup [.int (C i), .int (E i)]) (done.length : Int) = some (.tup [.int (C done.length), .int (E done.length)]) := at_rng (f := fun i => D.tup [.int (C i), .int (E i)]) hlt
        walk_at "go1"
        rw [a1]
        walk_at "go1"
        rw [a2]
        walk_at "go1"
        rw [decide_eq_false (show ¬ A done.length < C done.length by omega)]
        walk_at "go1"
        rw [a1]
        walk_at "go1"
        rw [a2]
        walk_at "go1"
        rw [decide_eq_false (show ¬ E done.length < B done.length by omega)]
        walk_at "go1"
        exact ⟨by rw [← e, Int.zero_add]; simp, trivial, _, rfl⟩
      · rintro done ρ M' ⟨e, rfl, y, rfl⟩
        walk_at "go1"
        exact See.keep k
theorem seq_mid {A B : DTS} {D : DEnds} {ρ : Dn} {M : Sto} (P : Dn → Sto → Prop) (h1 : ∀ nx : Dn → Sto → Prop, (∀ ρ' M', P ρ' M' → nx ρ' M') → A { D with nx := nx } ρ M) (h2 : ∀ ρ' M', P ρ' M' → B D ρ' M') : dSeq A B D ρ M := h1 (B D) h2
structure Seen26 (t : Tr) (ss : List (Nat × Int)) : Prop where
  ok : SeenOk t ss
  cf : conf t ss = none
  ne : ss ≠ []
  hi : ∀ p ∈ ss, p.2 ≤ 900000000
theorem range_ne {t : Tr} {ss : List (Nat × Int)} (h : ss ≠ []) (m : Nat) : rangeD t ss m = .tup [.int (lowS t ss m), .int (highS t ss m)] := by
  unfold rangeD
  rw [if_neg h]
theorem ranges_ne {t : Tr} {ss : List (Nat × Int)} (h : ss ≠ []) : rangesD t ss = .tup ((List.range (t.length + 1)).map fun i => .tup [.int (lowS t ss i), .int (highS t ss i)]) := congrArg D.tup (List.map_congr_left fun i _ => range_ne h i)
def spOne (mg : Str → Option Value) : DSp := fun args M Q _ => ∃ (t : Tr) (ss : List (Nat × Int)) (d : D) (m : Nat), args = [treeD t, d, rangesD t ss, natD m] ∧ PT (ss.map pushD) d ∧ TreeOk t ∧ Seen26 t ss ∧ m ≤ t.length ∧ (∀ p ∈ ss, p.1 ≠ m) ∧ Q (.bl true) M
@[reducible] def rowO (t : Tr) (sd : D) (ss : List (Nat × Int)) (m : Nat) (ys : List (Option D)) : Dn := ⟨some (treeD t) :: some sd :: some (rangesD t ss) :: some (natD m) :: some (.int (lowS t ss m)) :: some (.int (highS t ss m)) :: ys, noX⟩
def invO (t : Tr) (sd : D) (ss : List (Nat × Int)) (m : Nat) (sm : List Int) (L : List D) (M0 : Sto) : List D → List D → Dn → Sto → Prop := fun done todo ρ M => done ++ todo = L ∧ M = M0 ∧ ∃ (y7 y8 y9 : Option D), ρ = rowO t sd ss m [some (.lst (sm.map D.int)), y7, y8, y9]
theorem nm26 {i : Nat} {a : D} {ρ : Dn} {M : Sto} {Q : Dn → Sto → Prop} (h : Q ⟨ρ.v.set i (some a), ρ.x⟩ M) : dgName i a ρ M Q := h
theorem c__law_one_right (T : Tp K mg) : Cl P w K mg base "_law_one_right" (12 + 1) ["_law_tree_here", "_law_seen", "_law_ranges", "_law_mark"] (spOne mg) := by
  obtain ⟨f, fd, F, hm⟩ := T.d__law_one_right.ex
  have S := sc__law_one_right
  have B := T.bn
  have c__law_inside := @c__law_inside P w K mg base T
  have c__law_with := @c__law_with P w K mg base T
  have c_fewest_behind := @c_fewest_behind P w K mg base T
  have c_find_conflict := @c_find_conflict P w K mg base T
  have c_ranges_of := @c_ranges_of P w K mg base T
  refine ⟨⟨f, fd, fnD F S (fun args M Q E h => by (repeat (obtain ⟨_, h⟩ := h)); subst_vars; rfl) (fun cdv A outer s H E hgd hr => ⟨_, (ds_cons (ds_asg (d_ix (dv 2) (dv 3) (fun _ _ => rfl)) (dg_tupL (n := 2) rfl (dgs_cons (dgn 4 S.nd) (dgs_cons (dgn 5 S.nd) dgs_nil))))
  (ds_cons (dss 6 S.nd (d_lst (d_cons (d_callB (o_max2 rfl) (by rfl) B.max b_max (d_cons d_int (d_cons (d_op o_sub (dv 4) d_int) d_nil))) (d_cons (dv 4) (d_cons (d_op o_fdiv (d_op o_add (dv 4) (dv 5)) d_int) (d_cons (dv 5) (d_cons (d_op o_add (dv 5) d_int) d_nil)))))))
  (ds_cons (ds_forI (passes_of rfl) rfl (di_seq (d_op o_add (dv 6) (d_listRgW (by rfl) B.list (by rfl) B.range rfl (dv 4) (d_callB (o_min2 rfl) (by rfl) B.min b_min (d_cons (dv 5) (d_cons (d_op o_add (dv 4) d_int) d_nil)))))) (dgn 7 S.nd) (ds_cons (dss 8 S.nd (d_cl c__law_with hgd (hr.mono (by first | decide | omega)) (d_cons (dv 1) (d_cons (dv 3) (d_cons (dv 7) d_nil)))))
  (ds_cons (ds_if (dt_cmp (o_ne hr.units) (d_cmp o_isN (d_cl c_find_conflict hgd (hr.mono (by first | decide | omega)) (d_cons (dv 0) (d_cons (dv 8) d_nil))) d_non) (d_chain o_le o_le (dv 4) (dv 7) (dv 5) (fun h1 h2 h3 h4 h5 => pe_chain h1 h2 h3 h4 h5))) (ds_one (ds_ret d_bl)) ds_nil)
  (ds_one (ds_if (dt_chain o_le o_le (dv 4) (dv 7) (dv 5)) (ds_cons (dss 9 S.nd (d_cl c_ranges_of hgd (hr.mono (by first | decide | omega)) (d_cons (dv 0) (d_cons (dv 8) d_nil))))
  (ds_cons (ds_if (DW.dt (dw_or (dt_not (dt_val (d_cl c__law_inside hgd (hr.mono (by first | decide | omega)) (d_cons (dv 9) (d_cons (dv 2) d_nil))))) (dw_or1 (dt_cmp (o_ne hr.units) (d_ix (dv 9) (dv 3) (fun _ _ => rfl)) (d_tup (d_cons (dv 7) (d_cons (dv 7) d_nil))))))) (ds_one (ds_ret d_bl)) ds_nil)
  (ds_one (ds_if (dt_cmp o_lt (d_cl c_fewest_behind hgd (hr.mono (by first | decide | omega)) (d_cons (dv 0) (d_cons (dv 8) d_nil))) (d_cl c_fewest_behind hgd (hr.mono (by first | decide | omega)) (d_cons (dv 0) (d_cons (dv 1) d_nil)))) (ds_one (ds_ret d_bl)) ds_nil)))) ds_nil)))))
  (ds_one (ds_ret d_bl))))), fun args M Q E' hM hA h => ?_⟩), hm, F.kp, (F.binds (ps := ["_law_tree_here", "_law_seen", "_law_ranges", "_law_mark"]) fun _ _ _ _ _ _ us hl => match us, hl with | [_, _, _, _], _ => rfl)⟩, ?_⟩
  rotate_left
  · exact fun args M Q Q' E E' w _ ⟨x0, x1, x2, x3, x4, x5, x6, x7, x8, x9, k⟩ => ⟨x0, x1, x2, x3, x4, x5, x6, x7, x8, x9, w _ _ k⟩
  · obtain ⟨t, ss, sd, m, rfl, hpt, ht, hS, hm, hnm, k⟩ := h
    have ht1 := ht.1
    have hs := hS.ok
    have hl0 := low_0 (t := t) (ss := ss) (m := m)
    have hlh := low_high hs hS.cf hS.ne m
    have hhb : highS t ss m ≤ 950000000 := by
      obtain ⟨p, hp⟩ := List.exists_mem_of_ne_nil _ hS.ne
      have h1 := high_le (t := t) (m := m) hp
      have h2 := hS.hi p hp
      have h3 := dist_le ht p.1 m
      have h4 := (hs.2 p hp).1
      omega
    have a1 : atI ((List.range (t.length + 1)).map (rangeD t ss)) (m : Int) = some (.tup [.int (lowS t ss m), .int (highS t ss m)]) := by
      rw [← range_ne hS.ne]
      exact at_rng (f := rangeD t ss) (by omega)
    refine seq_mid (fun ρ M' => ρ = rowO t sd ss m [none, none, none, none] ∧ M' = M) (fun nx hnx => ?_) ?_
    · walk_at "go1"
      rw [a1]
      walk_at "go1"
      exact hnx _ _ ⟨rfl, rfl⟩
    rintro ρ M' ⟨rfl, rfl⟩
    refine seq_mid (fun ρ M2 => ∃ sm : List Int, ρ = rowO t sd ss m [some (.lst (sm.map D.int)), none, none, none] ∧ M2 = M' ∧ sm.length ≤ 5 ∧ ∀ x ∈ sm, 0 ≤ x ∧ x ≤ highS t ss m + 1) (fun nx hnx => ?_) ?_
    · walk_at "go1"
      refine hnx _ _ ⟨[if lowS t ss m - 1 > 0 then lowS t ss m - 1 else 0, lowS t ss m, (lowS t ss m + highS t ss m) / 2, highS t ss m, highS t ss m + 1], rfl, rfl, Nat.le_refl 5, fun x hx => ?_⟩
      simp only [List.mem_cons, List.not_mem_nil, or_false] at hx
      rcases hx with rfl | rfl | rfl | rfl | rfl
      · split <;> omega
      · omega
      · omega
      · omega
      · omega
    rintro ρ M2 ⟨sm, rfl, rfl, hsm1, hsm⟩
    have h5 : (if lowS t ss m + 5 < highS t ss m then lowS t ss m + 5 else highS t ss m) ≤ highS t ss m ∧ (if lowS t ss m + 5 < highS t ss m then lowS t ss m + 5 else highS t ss m) ≤ lowS t ss m + 5 ∧ 0 ≤ (if lowS t ss m + 5 < highS t ss m then lowS t ss m + 5 else highS t ss m) := by
      split <;> refine ⟨?_, ?_, ?_⟩ <;> omega
    walk_at "go1"
    generalize (if lowS t ss m + 5 < highS t ss m then lowS t ss m + 5 else highS t ss m) = h5v at h5 ⊢
    refine ⟨by rw [rng_length]; omega, ?_⟩
    refine ⟨invO t sd ss m sm (sm.map D.int ++ rng (lowS t ss m) (h5v - lowS t ss m).toNat) M2, ⟨rfl, rfl, none, none, none, rfl⟩, fun _ _ _ _ _ => trivial, ?_, ?_⟩
    rotate_left
    · rintro done ρ M3 ⟨_, rfl, y7, y8, y9, rfl⟩
      walk_at "go1"
      exact See.keep k
    rintro done d todo ρ M3 ⟨e, rfl, y7, y8, y9, rfl⟩
    have hd : ∃ x : Int, d = .int x ∧ 0 ≤ x ∧ x ≤ highS t ss m + 1 := by
      have hmem : d ∈ sm.map D.int ++ rng (lowS t ss m) (h5v - lowS t ss m).toNat := by rw [← e]; simp
      rcases List.mem_append.mp hmem with h | h
      · obtain ⟨x, hx, rfl⟩ := List.mem_map.mp h
        exact ⟨x, rfl, hsm x hx⟩
      · unfold rng at h
        obtain ⟨i, hi, rfl⟩ := List.mem_map.mp h
        have := List.mem_range.mp hi
        exact ⟨_, rfl, by omega, by omega⟩
    obtain ⟨x, rfl, hx0, hx1⟩ := hd
    have hok := more_ok hs hm hnm hx0 (by omega)
    have fin : ∀ y8 y9 : Option D, invO t sd ss m sm (sm.map D.int ++ rng (lowS t ss m) (h5v - lowS t ss m).toNat) M3 (done ++ [.int x]) todo (rowO t sd ss m [some (.lst (sm.map D.int)), some (.int x), y8, y9]) M3 := fun _ _ => ⟨by rw [← e]; simp, rfl, _, _, _, rfl⟩
    refine nm26 ?_
    refine seq_mid (fun ρ M' => ∃ d', PT ((more26 ss m x).map pushD) d' ∧ ρ = rowO t sd ss m [some (.lst (sm.map D.int)), some (.int x), some d', y9] ∧ M' = M3) (fun nx hnx => ?_) ?_
    · walk_at "go1"
      refine ⟨t, ss, sd, m, x, rfl, hpt, hs, ht1, fun d' hd => ?_⟩
      walk_at "go1"
      exact hnx _ _ ⟨d', hd, rfl, rfl⟩
    rintro ρ M' ⟨d', hd, rfl, rfl⟩
    have hci := more_conf (t := t) (m := m) (x := x) hS.cf hS.ne hx0
    by_cases hin : lowS t ss m ≤ x ∧ x ≤ highS t ss m
    rotate_left
    · obtain ⟨p, hp⟩ : ∃ p, conf t (more26 ss m x) = some p := by
        cases hcf : conf t (more26 ss m x) with
        | none => exact absurd (hci.mp hcf) hin
        | some p => exact ⟨p, rfl⟩
      have fin2 := fin (some d') y9
      walk_at "go1"
      refine ⟨t, more26 ss m x, d', rfl, hd, ht, hok, ?_⟩
      rw [hp, show confD (some p) = .tup [natD p.1, natD p.2] from rfl]
      walk_at "go1"
      by_cases hi1 : lowS t ss m ≤ x
      · have hi2 : ¬ x ≤ highS t ss m := fun h => hin ⟨hi1, h⟩
        rw [decide_eq_true hi1]
        walk_at "go1"
        rw [decide_eq_false hi2]
        walk_at "go1"
        refine ⟨(Pl.bl false).eqOk (by decide) _, (Pl.bl false).eqOk (by decide) _, ?_⟩
        rw [show PyData.eqv (toPy (D.bl false)) (toPy (D.bl false)) = true from rfl]
        walk_at "go1"
        rw [decide_eq_true hi1]
        walk_at "go1"
        rw [decide_eq_false hi2]
        walk_at "go1"
        exact fin2
      · rw [decide_eq_false hi1]
        walk_at "go1"
        refine ⟨(Pl.bl false).eqOk (by decide) _, (Pl.bl false).eqOk (by decide) _, ?_⟩
        rw [show PyData.eqv (toPy (D.bl false)) (toPy (D.bl false)) = true from rfl]
        walk_at "go1"
        rw [decide_eq_false hi1]
        walk_at "go1"
        exact fin2
    have cf := hci.mpr hin
    have hne2 : more26 ss m x ≠ [] := fun z => by
      have := (more_mem (ss := ss) (m := m) (x := x) (p := (m, x))).mpr (.inr rfl)
      rw [z] at this
      cases this
    obtain ⟨hm1, hm2⟩ := more_at cf hx0
    have a2 : atI ((List.range (t.length + 1)).map (rangeD t (more26 ss m x))) (m : Int) = some (.tup [.int x, .int x]) := by
      have e0 := range_ne (t := t) hne2 m
      rw [hm1, hm2] at e0
      rw [← e0]
      exact at_rng (f := rangeD t (more26 ss m x)) (by omega)
    have hws := seenW_ok hs fun p hp => by have := hS.hi p hp; omega
    have hwm := seenW_ok hok fun p hp => by
      rcases more_mem.mp hp with hp | rfl
      · have := hS.hi p hp; omega
      · show x ≤ 1000000000
        omega
    obtain ⟨la, hla⟩ := least_ex ht hs hS.cf
    obtain ⟨lb, hlb⟩ := least_ex ht hok cf
    have hab := least_mono (fun n h => more_cov hS.ne h) hla hlb
    refine seq_mid (fun ρ M4 => ρ = rowO t sd ss m [some (.lst (sm.map D.int)), some (.int x), some d', y9] ∧ M4 = M') (fun nx hnx => ?_) ?_
    · have fin2 := hnx _ _ ⟨rfl, rfl⟩
      walk_at "go1"
      refine ⟨t, more26 ss m x, d', rfl, hd, ht, hok, ?_⟩
      rw [cf, show confD none = .non from rfl]
      walk_at "go1"
      rw [decide_eq_true hin.1]
      walk_at "go1"
      rw [decide_eq_true hin.2]
      walk_at "go1"
      refine ⟨(Pl.bl true).eqOk (by decide) _, (Pl.bl true).eqOk (by decide) _, ?_⟩
      exact fin2
    rintro ρ M4 ⟨rfl, rfl⟩
    have fin2 := fin (some d') (some (rangesD t (more26 ss m x)))
    walk_at "go1"
    rw [decide_eq_true hin.1]
    walk_at "go1"
    rw [decide_eq_true hin.2]
    walk_at "go1"
    refine ⟨t, more26 ss m x, d', rfl, hd, ht, hok, fun _ => ?_, fun p hp => by rw [cf] at hp; cases hp⟩
    walk_at "go1"
    refine ⟨t.length + 1, lowS t (more26 ss m x), highS t (more26 ss m x), lowS t ss, highS t ss, _, by rw [ranges_ne hS.ne], .inr (by rw [ranges_ne hne2]), by omega, fun i hi => more_in hS.ne i, ?_⟩
    walk_at "go1"
    rw [a2]
    walk_at "go1"
    refine ⟨(pl_ints [x, x]).eqOk (by decide) _, (pl_ints [x, x]).eqOk (by decide) _, ?_⟩
    rw [show PyData.eqv (toPy (.tup [.int x, .int x])) (toPy (.tup [.int x, .int x])) = true from (pl_ints [x, x]).same]
    walk_at "go1"
    refine ⟨t, more26 ss m x, d', rfl, hd, ht, hok, hwm, fun _ => ⟨pair_peace hok cf, fun ps1 ms1 F1 => ?_⟩, fun p hp => by rw [cf] at hp; cases hp⟩
    walk_at "go1"
    refine ⟨t, ss, sd, rfl, hpt, ht, hs, hws, fun _ => ⟨pair_peace hs hS.cf, fun ps2 ms2 F2 => ?_⟩, fun p hp => by rw [hS.cf] at hp; cases hp⟩
    rw [least_few hok cf hlb F1, least_few hs hS.cf hla F2]
    walk_at "go1"
    rw [decide_eq_false (show ¬ ((lb : Nat) : Int) < ((la : Nat) : Int) by omega)]
    walk_at "go1"
    exact fin2
def inv26 (ns : List Int) (cs : List Int) : List D → List D → Dn → Sto → Prop := fun done todo ρ M => done ++ todo = rng 0 4 ∧ ∃ (n : Int) (rs : List Int) (R : Sto) (y2 y3 y4 y5 y6 y7 y8 y9 y10 y11 y12 y13 y14 y15 y16 : Option D), ρ = ⟨[some (.scr ns), some (.ref 1), y2, y3, y4, y5, y6, y7, y8, y9, y10, y11, y12, y13, y14, y15, y16, none, none], noX⟩ ∧ M = dkC cs n rs ++ R ∧ GoodC (200 * todo.length) cs n rs
@[reducible] def row26 (ns : List Int) (tn : Nat) (t : Tr) (ps : List (Nat × Int)) (ys : List (Option D)) : Dn := ⟨some (.scr ns) :: some (.ref 1) :: some (natD tn) :: some (treeD t) :: some (.tup (ps.map pushD)) :: some (.tup ((fallsT t ps).map D.int)) :: some (.lst (rng 0 (t.length + 1))) :: ys, noX⟩
structure Seen3 (t : Tr) (ps ss : List (Nat × Int)) : Prop where
  asc : ss.Pairwise fun p q => p.1 < q.1
  mem : ∀ p ∈ ss, p ∈ allS t ps
theorem dist_le26 {t : Tr} (ht : TreeOk t) {i j : Nat} (hi : i ≤ t.length) (hj : j ≤ t.length) : dist t i j ≤ 22000000 := by
  have h1 := dist_le ht i j
  have h2 := ht.1
  omega
theorem fall_26 {t : Tr} (ht : TreeOk t) {ps : List (Nat × Int)} (hne : ps ≠ []) (hb : ∀ p ∈ ps, PushC t 1000000 p) {i : Nat} (hi : i ≤ t.length) : fallT t ps i ≤ 23000000 := by
  obtain ⟨q, hq⟩ := List.exists_mem_of_ne_nil _ hne
  have h1 := fallT_le (t := t) hq i
  have h2 := hb q hq
  have h3 := dist_le26 ht h2.1 hi
  have h4 := h2.2.2
  omega
theorem Seen3.ok {t : Tr} (ht : TreeOk t) {ps ss : List (Nat × Int)} (hne : ps ≠ []) (hb : ∀ p ∈ ps, PushC t 1000000 p) (h : Seen3 t ps ss) (h0 : ss ≠ []) : Seen26 t ss := by
  have hps : ∀ p ∈ ps, p.1 ≤ t.length ∧ 0 ≤ p.2 := fun p hp => ⟨(hb p hp).1, (hb p hp).2.1⟩
  obtain ⟨a1, a2, a3⟩ := all_ok (t := t) hps hne fun i hi => by have := fall_26 ht hne hb hi; omega
  have hc := conf_peace a2
  refine ⟨⟨h.asc, fun p hp => a1.2 p (h.mem p hp)⟩, conf_of fun p hp q hq => hc p (h.mem p hp) q (h.mem q hq), h0, fun p hp => ?_⟩
  obtain ⟨b1, b2⟩ := all_mem.mp (h.mem p hp)
  have := fall_26 ht hne hb b1
  omega
theorem falls_get {t : Tr} {ps : List (Nat × Int)} {i : Nat} (h : i ≤ t.length) : (fallsT t ps)[i]? = some (fallT t ps i) := by
  unfold fallsT
  rw [List.getElem?_map, List.getElem?_range (by omega)]
  rfl
theorem lc_dkC {st : Sto → Prop} {step : D → Sto → (Option D → Sto → Prop) → Prop} {ds : List D} {cs : List Int} {n : Int} {rs : List Int} {R : Sto} {Q : List D → Sto → Prop} (f : D → D) (b c : Nat) (hst : ∀ M, st M) (g : GoodC (b + c * ds.length) cs n rs) (hm : ds.length ≤ 100000)
    (hs : ∀ (d : D) (n : Int) (rs : List Int) (rest : Nat), d ∈ ds → GoodC (b + c * rest + c) cs n rs → ∀ k : Option D → Sto → Prop, (∀ (o : Option D) (n' : Int) (rs' : List Int), (o = none ∨ o = some (f d)) → GoodC (b + c * rest) cs n' rs' → k o (dkC cs n' rs' ++ R)) → step d (dkC cs n rs ++ R) k)
    (q : ∀ (ys : List D) (n' : Int) (rs' : List Int), ys.Sublist (ds.map f) → GoodC b cs n' rs' → Q ys (dkC cs n' rs' ++ R)) : lcI st step ds (dkC cs n rs ++ R) Q := by
  refine ⟨fun done todo acc M => done ++ todo = ds ∧ acc.Sublist (done.map f) ∧ ∃ (n : Int) (rs : List Int), M = dkC cs n rs ++ R ∧ GoodC (b + c * todo.length) cs n rs, ⟨rfl, List.Sublist.refl _, n, rs, rfl, g⟩, fun _ _ _ M _ => hst M, ?_, ?_⟩
  · rintro done d todo acc M ⟨e, hsub, n, rs, rfl, g⟩
    have hlen := congrArg List.length e
    rw [List.length_append, List.length_cons] at hlen
    have hl : acc.length ≤ done.length := by simpa using hsub.length_le
    rw [List.length_cons, Nat.mul_add, Nat.mul_one, ← Nat.add_assoc] at g
    refine hs d n rs todo.length (by rw [← e]; simp) g _ fun o n' rs' ho g' => ?_
    rcases ho with rfl | rfl
    · exact ⟨by rw [List.append_assoc]; exact e, by rw [List.map_append]; exact hsub.trans (List.sublist_append_left _ _), n', rs', rfl, g'⟩
    · exact ⟨by omega, by rw [List.append_assoc]; exact e, by rw [List.map_append]; exact hsub.append (List.Sublist.refl _), n', rs', rfl, g'⟩
  · rintro done acc M ⟨e, hsub, n, rs, rfl, g⟩
    rw [List.append_nil] at e
    rw [e] at hsub
    exact q acc n rs hsub g
def F26 (t : Tr) (ps : List (Nat × Int)) : D → D
  | .int i => .tup [.int i, .int (fallT t ps i.toNat)]
  | d => d
theorem rng_mem26 {n : Nat} {d : D} (h : d ∈ rng 0 n) : ∃ i : Nat, i < n ∧ d = .int (i : Int) := by
  unfold rng at h
  obtain ⟨i, hi, rfl⟩ := List.mem_map.mp h
  exact ⟨i, List.mem_range.mp hi, by rw [Int.zero_add]⟩
theorem map_all (t : Tr) (ps : List (Nat × Int)) : (rng 0 (t.length + 1)).map (F26 t ps) = (allS t ps).map pushD := by
  unfold rng allS
  rw [List.map_map, List.map_map]
  refine List.map_congr_left fun i _ => ?_
  show F26 t ps (.int (0 + (i : Int))) = pushD (i, fallT t ps i)
  rw [Int.zero_add]
  rfl
theorem all_asc (t : Tr) (ps : List (Nat × Int)) : (allS t ps).Pairwise fun p q => p.1 < q.1 := by
  unfold allS
  exact List.pairwise_map.mpr List.pairwise_lt_range
theorem falls_at {t : Tr} {ps : List (Nat × Int)} {i : Nat} (h : i ≤ t.length) : atI ((fallsT t ps).map D.int) (i : Int) = some (.int (fallT t ps i)) := atI_of (j := i) rfl (by rw [List.getElem?_map, falls_get h]; rfl)
abbrev LEVEL : Nat := 30 + 1
set_option maxHeartbeats 4000000 in
theorem law_fn (T : Tp K mg) {f : Addr} {fd : FuncData} (F : Fun K "law" "law" s_law f fd) (base : Heap) : FnG P w K mg base (CXd P w) LEVEL f fd ["_law_script"] (spOf K spLaw) := by
  have S := sc_law
  have B := T.bn
  have c__law_draws := @c__law_draws P w K mg base T
  have c__law_inside := @c__law_inside P w K mg base T
  have c__law_next := @c__law_next P w K mg base T
  have c__law_one_right := @c__law_one_right P w K mg base T
  have c__law_pushes := @c__law_pushes P w K mg base T
  have c__law_tree := @c__law_tree P w K mg base T
  have c_earliest := @c_earliest P w K mg base T
  have c_falls_of := @c_falls_of P w K mg base T
  have c_fewest_behind := @c_fewest_behind P w K mg base T
  have c_latest := @c_latest P w K mg base T
  have c_needed_pushes := @c_needed_pushes P w K mg base T
  have c_ranges_of := @c_ranges_of P w K mg base T
  refine fnD F S (fun args M Q E h => by (repeat (obtain ⟨_, h⟩ := h)); subst_vars; rfl) (fun cdv A outer s H E hgd hr => ⟨_, (ds_cons (dss 1 S.nd (d_cl c__law_draws hgd (hr.mono (by first | decide | omega)) (d_cons (dv 0) d_nil)))
  (ds_cons (ds_forI (passes_of rfl) rfl (di_range1 (by rfl) B.range (d_cons d_int d_nil)) (dgn 2 S.nd) (ds_cons (dss 3 S.nd (d_cl c__law_tree hgd (hr.mono (by first | decide | omega)) (d_cons (dv 1) (d_cons d_int (d_cons (d_ix (d_lst (d_cons d_int (d_cons (d_op o_pow d_int d_int) d_nil))) (d_op o_mod (dv 2) d_int) (fun _ _ => rfl)) d_nil)))))
  (ds_cons (dss 4 S.nd (d_cl c__law_pushes hgd (hr.mono (by first | decide | omega)) (d_cons (dv 1) (d_cons (dv 3) (d_cons d_int (d_cons (d_ix (d_lst (d_cons d_int (d_cons (d_op o_pow d_int d_int) d_nil))) (d_op o_mod (dv 2) d_int) (fun _ _ => rfl)) d_nil))))))
  (ds_cons (ds_asg (d_tup (d_cons (d_cl c_falls_of hgd (hr.mono (by first | decide | omega)) (d_cons (dv 3) (d_cons (dv 4) d_nil))) (d_cons (d_listRg (by rfl) B.list (by rfl) B.range rfl (d_op o_add (d_callB o_len (by rfl) B.len b_len (d_cons (dv 3) d_nil)) d_int)) d_nil))) (dg_tup (n := 2) rfl (dgs_cons (dgn 5 S.nd) (dgs_cons (dgn 6 S.nd) dgs_nil))))
  (ds_cons (dss 7 S.nd (d_tupP (by rfl) B.tuple (d_lcI (own := [("_law_mark", 8)]) rfl S.nd (di_seq (dv 6)) (blkOk_by (N := ["_law_script", "_law_drawn", "_law_turn", "_law_tree_here", "_law_pushes_here", "_law_falls", "_law_marks", "_law_seen", "_law_mark", "_law_ranges", "_law_known", "_law_tick", "_law_ticks", "_law_windows", "_law_early", "_law_late", "_law_every", "_law_least", "_law_last"]) (sc := defScope s_law) (by decide +kernel)) (by decide) (fun _ _ _ _ _ => (dgn 8 S.nd)) (fun _ _ _ _ _ => (dts_one (dt_cmp (o_eq hr.units) (d_cl c__law_next hgd (hr.mono (by first | decide | omega)) (d_cons (dv 1) (d_cons d_int d_nil))) d_int))) (fun _ _ _ _ _ => (d_tup (d_cons (dv 8) (d_cons (d_ix (dv 5) (dv 8) (fun _ _ => rfl)) d_nil)))))))
  (ds_cons (ds_if (dt_cmp (o_eq hr.units) (d_view (dv 7)) (d_tup d_nil)) (ds_one (dss 7 S.nd (d_dispP (d_cons (d_tup (d_cons d_int (d_cons (d_ix (dv 5) d_int (fun _ _ => rfl)) d_nil))) d_nil)))) ds_nil)
  (ds_cons (dsp2 9 10 S.nd (d_cons (d_cl c_ranges_of hgd (hr.mono (by first | decide | omega)) (d_cons (dv 3) (d_cons (dv 7) d_nil))) (d_cons (d_lcI (own := [("_law_mark", 8), ("_law_tick", 11)]) rfl S.nd (di_seq (d_view (dv 7))) (blkOk_by (N := ["_law_script", "_law_drawn", "_law_turn", "_law_tree_here", "_law_pushes_here", "_law_falls", "_law_marks", "_law_seen", "_law_mark", "_law_ranges", "_law_known", "_law_tick", "_law_ticks", "_law_windows", "_law_early", "_law_late", "_law_every", "_law_least", "_law_last"]) (sc := defScope s_law) (by decide +kernel)) (by decide) (fun _ _ _ _ _ => (dg_tup (n := 2) rfl (dgs_cons (dgn 8 S.nd) (dgs_cons (dgn 11 S.nd) dgs_nil)))) (fun _ _ _ _ _ => dts_nil) (fun _ _ _ _ _ => (dv 8))) d_nil)))
  (ds_cons (ds_if (dt_not (dt_val (d_cl c__law_inside hgd (hr.mono (by first | decide | omega)) (d_cons (d_lcI (own := [("_law_tick", 11)]) rfl S.nd (di_seq (dv 5)) (blkOk_by (N := ["_law_script", "_law_drawn", "_law_turn", "_law_tree_here", "_law_pushes_here", "_law_falls", "_law_marks", "_law_seen", "_law_mark", "_law_ranges", "_law_known", "_law_tick", "_law_ticks", "_law_windows", "_law_early", "_law_late", "_law_every", "_law_least", "_law_last"]) (sc := defScope s_law) (by decide +kernel)) (by decide) (fun _ _ _ _ _ => (dgn 11 S.nd)) (fun _ _ _ _ _ => dts_nil) (fun _ _ _ _ _ => (d_tup (d_cons (dv 11) (d_cons (dv 11) d_nil))))) (d_cons (dv 9) d_nil))))) (ds_one (ds_ret d_bl)) ds_nil)
  (ds_cons (ds_if (dt_not (dt_chain o_le o_le d_int (d_cl c_fewest_behind hgd (hr.mono (by first | decide | omega)) (d_cons (dv 3) (d_cons (dv 7) d_nil))) (d_callB o_len (by rfl) B.len b_len (d_cons (dv 4) d_nil)))) (ds_one (ds_ret d_bl)) ds_nil)
  (ds_cons (ds_forI (passes_of rfl) rfl (di_seq (dv 6)) (dgn 8 S.nd) (ds_one (ds_if (DW.dt (dw_and (dt_cmp (o_notin hr.units) (dv 8) (dv 10)) (dw_and1 (dt_not (dt_val (d_cl c__law_one_right hgd (hr.mono (by first | decide | omega)) (d_cons (dv 3) (d_cons (dv 7) (d_cons (dv 9) (d_cons (dv 8) d_nil)))))))))) (ds_one (ds_ret d_bl)) ds_nil)))
  (ds_cons (dss 12 S.nd (d_op o_mulM (d_lst (d_cons (d_lst (d_cons d_int (d_cons d_non d_nil))) d_nil)) (d_callB o_len (by rfl) B.len b_len (d_cons (dv 6) d_nil))))
  (ds_cons (ds_forI (passes_of rfl) rfl (di_seq (d_view (dv 7))) (dg_tup (n := 2) rfl (dgs_cons (dgn 8 S.nd) (dgs_cons (dgn 11 S.nd) dgs_nil))) (ds_one (ds_asg (d_lst (d_cons (dv 11) (d_cons (dv 11) d_nil))) (dg_sub (dv 12) (dv 8)))))
  (ds_cons (dss 13 S.nd (d_callTy o_tuple (by rfl) B.tuple b_tuple (d_cons (d_lcI (own := [("_law_least", 17), ("_law_last", 18)]) rfl S.nd (di_seq (dv 12)) (blkOk_by (N := ["_law_script", "_law_drawn", "_law_turn", "_law_tree_here", "_law_pushes_here", "_law_falls", "_law_marks", "_law_seen", "_law_mark", "_law_ranges", "_law_known", "_law_tick", "_law_ticks", "_law_windows", "_law_early", "_law_late", "_law_every", "_law_least", "_law_last"]) (sc := defScope s_law) (by decide +kernel)) (by decide) (fun _ _ _ _ _ => (dg_tupL (n := 2) rfl (dgs_cons (dgn 17 S.nd) (dgs_cons (dgn 18 S.nd) dgs_nil)))) (fun _ _ _ _ _ => dts_nil) (fun _ _ _ _ _ => (d_tup (d_cons (dv 17) (d_cons (dv 18) d_nil))))) d_nil)))
  (ds_cons (ds_asg (d_tup (d_cons (d_cl c_earliest hgd (hr.mono (by first | decide | omega)) (d_cons (dv 3) (d_cons (dv 13) d_nil))) (d_cons (d_cl c_latest hgd (hr.mono (by first | decide | omega)) (d_cons (dv 3) (d_cons (dv 13) d_nil))) d_nil))) (dg_tup (n := 2) rfl (dgs_cons (dgn 14 S.nd) (dgs_cons (dgn 15 S.nd) dgs_nil))))
  (ds_cons (ds_if (dt_cmp (o_ne hr.units) (dv 9) (d_callTy o_tuple (by rfl) B.tuple b_tuple (d_cons (d_lcI (own := [("_law_mark", 8)]) rfl S.nd (di_seq (dv 6)) (blkOk_by (N := ["_law_script", "_law_drawn", "_law_turn", "_law_tree_here", "_law_pushes_here", "_law_falls", "_law_marks", "_law_seen", "_law_mark", "_law_ranges", "_law_known", "_law_tick", "_law_ticks", "_law_windows", "_law_early", "_law_late", "_law_every", "_law_least", "_law_last"]) (sc := defScope s_law) (by decide +kernel)) (by decide) (fun _ _ _ _ _ => (dgn 8 S.nd)) (fun _ _ _ _ _ => dts_nil) (fun _ _ _ _ _ => (d_tup (d_cons (d_ix (dv 14) (dv 8) (fun _ _ => rfl)) (d_cons (d_ix (dv 15) (dv 8) (fun _ _ => rfl)) d_nil))))) d_nil))) (ds_one (ds_ret d_bl)) ds_nil)
  (ds_cons (dss 16 S.nd (d_tupP (by rfl) B.tuple (d_lcI (own := [("_law_mark", 8)]) rfl S.nd (di_seq (dv 6)) (blkOk_by (N := ["_law_script", "_law_drawn", "_law_turn", "_law_tree_here", "_law_pushes_here", "_law_falls", "_law_marks", "_law_seen", "_law_mark", "_law_ranges", "_law_known", "_law_tick", "_law_ticks", "_law_windows", "_law_early", "_law_late", "_law_every", "_law_least", "_law_last"]) (sc := defScope s_law) (by decide +kernel)) (by decide) (fun _ _ _ _ _ => (dgn 8 S.nd)) (fun _ _ _ _ _ => dts_nil) (fun _ _ _ _ _ => (d_tup (d_cons (dv 8) (d_cons (d_ix (dv 5) (dv 8) (fun _ _ => rfl)) d_nil)))))))
  (ds_cons (ds_if (dt_cmp (o_ne hr.units) (d_cl c_ranges_of hgd (hr.mono (by first | decide | omega)) (d_cons (dv 3) (d_cons (dv 16) d_nil))) (d_callTy o_tuple (by rfl) B.tuple b_tuple (d_cons (d_lcI (own := [("_law_tick", 11)]) rfl S.nd (di_seq (dv 5)) (blkOk_by (N := ["_law_script", "_law_drawn", "_law_turn", "_law_tree_here", "_law_pushes_here", "_law_falls", "_law_marks", "_law_seen", "_law_mark", "_law_ranges", "_law_known", "_law_tick", "_law_ticks", "_law_windows", "_law_early", "_law_late", "_law_every", "_law_least", "_law_last"]) (sc := defScope s_law) (by decide +kernel)) (by decide) (fun _ _ _ _ _ => (dgn 11 S.nd)) (fun _ _ _ _ _ => dts_nil) (fun _ _ _ _ _ => (d_tup (d_cons (dv 11) (d_cons (dv 11) d_nil))))) d_nil))) (ds_one (ds_ret d_bl)) ds_nil)
  (ds_one (ds_if (dt_cmp (o_ne hr.units) (d_cl c_fewest_behind hgd (hr.mono (by first | decide | omega)) (d_cons (dv 3) (d_cons (dv 16) d_nil))) (d_callB o_len (by rfl) B.len b_len (d_cons (d_cl c_needed_pushes hgd (hr.mono (by first | decide | omega)) (d_cons (dv 3) (d_cons (dv 5) d_nil))) d_nil))) (ds_one (ds_ret d_bl)) ds_nil)))))))))))))))))))
  (ds_one (ds_ret d_bl)))), fun args M Q E' hM hA h => ?_⟩)
  obtain ⟨ns, rfl, rfl, hl, k⟩ := h
  walk_at "go1"
  refine ⟨ns, rfl, rfl, hl, fun cs rs g => ?_⟩
  walk_at "go1"
  refine ⟨inv26 ns cs, ⟨rfl, 0, rs, [], _, _, _, _, _, _, _, _, _, _, _, _, _, _, _, rfl, (List.append_nil _).symm, g.le (by decide)⟩, fun _ _ _ _ _ => trivial, ?_, ?_⟩
  rotate_left
  · rintro done ρ M ⟨e, n, rs, R, y2, y3, y4, y5, y6, y7, y8, y9, y10, y11, y12, y13, y14, y15, y16, rfl, rfl, g⟩
    walk_at "go1"
    exact See.keep (k _)
  rintro done d todo ρ M ⟨e, n, rs, R, y2, y3, y4, y5, y6, y7, y8, y9, y10, y11, y12, y13, y14, y15, y16, rfl, rfl, g⟩
  have e1 := e
  obtain ⟨rfl, hlt⟩ := rng_at e
  rw [List.length_cons, Nat.mul_add] at g
  refine nm26 ?_
  have hm2 : (done.length : Int) % 2 = 0 ∨ (done.length : Int) % 2 = 1 := by omega
  refine seq_mid (fun ρ M => ∃ (n : Int) (rs : List Int) (t : Tr), ρ = ⟨[some (.scr ns), some (.ref 1), some (natD done.length), some (treeD t), y4, y5, y6, y7, y8, y9, y10, y11, y12, y13, y14, y15, y16, none, none], noX⟩ ∧ M = dkC cs n rs ++ R ∧ TreeOk t ∧ GoodC (200 * todo.length + 120) cs n rs) (fun nx hnx => ?_) ?_
  · have hlg : ∃ l : Nat, 1 ≤ l ∧ l ≤ 1000000 ∧ atI [D.int 5, D.int 1000000] ((done.length : Int) % 2) = some (.int l) := by
      rcases hm2 with h | h <;> rw [h]
      · exact ⟨5, by decide, by decide, atI_0 _ _⟩
      · exact ⟨1000000, by decide, by decide, atI_1 _ _ _⟩
    obtain ⟨long, lg1, lg2, elg⟩ := hlg
    walk_at "go1"
    rw [elg]
    walk_at "go1"
    refine ⟨cs, n, rs, R, 8, long, 200 * todo.length + 120, rfl, rfl, g.le (by omega), by omega, by omega, lg1, lg2, fun t n1 rs1 ht _ _ g1 => ?_⟩
    walk_at "go1"
    exact hnx _ _ ⟨n1, rs1, t, rfl, rfl, ht, g1⟩
  clear g
  rintro ρ M ⟨n, rs, t, rfl, rfl, ht, g⟩
  have ht1 := ht.1
  refine seq_mid (fun ρ M => ∃ (n : Int) (rs : List Int) (ps : List (Nat × Int)), ρ = ⟨[some (.scr ns), some (.ref 1), some (natD done.length), some (treeD t), some (.tup (ps.map pushD)), y5, y6, y7, y8, y9, y10, y11, y12, y13, y14, y15, y16, none, none], noX⟩ ∧ M = dkC cs n rs ++ R ∧ ps ≠ [] ∧ ps.length ≤ 18 ∧ (∀ p ∈ ps, PushC t 1000000 p) ∧ GoodC (200 * todo.length + 60) cs n rs) (fun nx hnx => ?_) ?_
  · have hlt2 : ∃ l : Nat, l ≤ 1000000 ∧ atI [D.int 9, D.int 1000000] ((done.length : Int) % 2) = some (.int l) := by
      rcases hm2 with h | h <;> rw [h]
      · exact ⟨9, by decide, atI_0 _ _⟩
      · exact ⟨1000000, by decide, atI_1 _ _ _⟩
    obtain ⟨late, lt2, elt⟩ := hlt2
    walk_at "go1"
    rw [elt]
    walk_at "go1"
    refine ⟨cs, n, rs, R, t, 4, late, 200 * todo.length + 60, rfl, rfl, g.le (by omega), ht, by omega, by omega, by omega, fun ps n1 rs1 hne hl18 hps g1 => ?_⟩
    walk_at "go1"
    exact hnx _ _ ⟨n1, rs1, ps, rfl, rfl, hne, hl18, fun p hp => ⟨(hps p hp).1, (hps p hp).2.1, by have := (hps p hp).2.2; omega⟩, g1⟩
  clear g
  rintro ρ M ⟨n, rs, ps, rfl, rfl, hne, hl18, hpc, g⟩
  have hps : ∀ p ∈ ps, p.1 ≤ t.length ∧ 0 ≤ p.2 := fun p hp => ⟨(hpc p hp).1, (hpc p hp).2.1⟩
  have hfl := fallsT_len t ps
  refine seq_mid (fun ρ M => ρ = row26 ns done.length t ps [y7, y8, y9, y10, y11, y12, y13, y14, y15, y16, none, none] ∧ M = dkC cs n rs ++ R) (fun nx hnx => ?_) ?_
  · walk_at "go1"
    refine ⟨t, ps, rfl, ht, ⟨hne, by omega, fun p hp => ⟨(hpc p hp).1, (hpc p hp).2.1, by have := (hpc p hp).2.2; omega⟩⟩, ?_⟩
    walk_at "go1"
    rw [show ((t.length : Int) + 1).toNat = t.length + 1 by omega]
    exact hnx _ _ ⟨rfl, rfl⟩
  rintro ρ M ⟨rfl, rfl⟩
  refine seq_mid (fun ρ M => ∃ (n : Int) (rs : List Int) (ss : List (Nat × Int)) (sd : D), ρ = row26 ns done.length t ps [some sd, y8, y9, y10, y11, y12, y13, y14, y15, y16, none, none] ∧ M = dkC cs n rs ++ R ∧ PT (ss.map pushD) sd ∧ Seen3 t ps ss ∧ GoodC (200 * todo.length) cs n rs) (fun nx hnx => ?_) ?_
  · walk_at "go1"
    refine lc_dkC (F26 t ps) (200 * todo.length) 1 (fun _ => trivial) (g.le (by rw [rng_length]; omega)) (by rw [rng_length]; omega) (fun d n rs rest hd g kk hk => ?_) fun ys n rs hsub g => ?_
    · obtain ⟨i, hi, rfl⟩ := rng_mem26 hd
      have hfa := falls_at (ps := ps) (show i ≤ t.length by omega)
      walk_at "go1"
      refine ⟨cs, n, rs, R, 2, 200 * todo.length + 1 * rest, rfl, rfl, g, by decide, by decide, fun r n rs r0 r1 g => ?_⟩
      walk_at "go1"
      refine ite_dec (fun h => ?_) (fun h => ?_)
      · walk_at "go1"
        rw [hfa]
        walk_at "go1"
        exact hk (some _) n rs (.inr rfl) g
      · exact hk none n rs (.inl rfl) g
    intro d' hpt
    rw [map_all] at hsub
    obtain ⟨zs, hz, rfl⟩ := List.sublist_map_iff.mp hsub
    refine nm26 ?_
    exact hnx _ _ ⟨n, rs, zs, d', rfl, rfl, hpt, ⟨(all_asc t ps).sublist hz, fun p hp => hz.subset hp⟩, g⟩
  clear g
  rintro ρ M ⟨n, rs, ss0, sd0, rfl, rfl, hpt0, hS0, g⟩
  refine seq_mid (fun ρ M => ∃ (ss : List (Nat × Int)) (sd : D), ρ = row26 ns done.length t ps [some sd, y8, y9, y10, y11, y12, y13, y14, y15, y16, none, none] ∧ M = dkC cs n rs ++ R ∧ PT (ss.map pushD) sd ∧ Seen3 t ps ss ∧ ss ≠ []) (fun nx hnx => ?_) ?_
  · have hf0 : atI ((fallsT t ps).map D.int) 0 = some (.int (fallT t ps 0)) := falls_at (ps := ps) (i := 0) (Nat.zero_le t.length)
    walk_at "go1"
    refine ⟨_, .inl hpt0, ?_⟩
    walk_at "go1"
    refine ⟨(pl_ps ss0).eqOk (by decide) _, pl_unit.eqOk (by decide) _, ?_⟩
    rw [eqv_unit, ps_nil]
    by_cases he : ss0 = []
    · rw [decide_eq_true he]
      walk_at "go1"
      rw [hf0]
      walk_at "go1"
      intro d' hd
      refine nm26 ?_
      exact hnx _ _ ⟨[(0, fallT t ps 0)], d', rfl, rfl, hd, ⟨List.pairwise_singleton _ _, fun p hp => by
        have hp : p = (0, fallT t ps 0) := by simpa using hp
        rw [hp]
        exact all_mem.mpr ⟨Nat.zero_le _, rfl⟩⟩, by simp⟩
    · rw [decide_eq_false he]
      walk_at "go1"
      exact hnx _ _ ⟨ss0, sd0, rfl, rfl, hpt0, hS0, he⟩
  clear hpt0 hS0
  rintro ρ M ⟨ss, sd, rfl, rfl, hpt, hS3, hss⟩
  have hS := hS3.ok ht hne hpc hss
  have hs := hS.ok
  have hsl := hs.len
  have hw := seenW_ok hs fun p hp => by have := hS.hi p hp; omega
  have hp0 := pair_peace hs hS.cf
  refine seq_mid (fun ρ M => ρ = row26 ns done.length t ps [some sd, y8, some (rangesD t ss), some (.lst (ss.map fun p => natD p.1)), y11, y12, y13, y14, y15, y16, none, none] ∧ M = dkC cs n rs ++ R) (fun nx hnx => ?_) ?_
  · walk_at "go1"
    refine ⟨t, ss, sd, rfl, hpt, ht, hs, fun _ => ?_, fun p hp => by rw [hS.cf] at hp; cases hp⟩
    walk_at "go1"
    refine ⟨_, .inl hpt, ?_⟩
    walk_at "go1"
    refine lc_mapL pushD (fun p => natD p.1) (L := ss) (st := stYes) trivial (by omega) (fun p hp kk hk => ?_) ?_
    · walk_at "go1"
      exact hk
    walk_at "go1"
    exact hnx _ _ ⟨rfl, rfl⟩
  rintro ρ M ⟨rfl, rfl⟩
  refine seq_mid (fun ρ M => ρ = row26 ns done.length t ps [some sd, y8, some (rangesD t ss), some (.lst (ss.map fun p => natD p.1)), y11, y12, y13, y14, y15, y16, none, none] ∧ M = dkC cs n rs ++ R) (fun nx hnx => ?_) ?_
  · have fin := hnx _ _ ⟨rfl, rfl⟩
    walk_at "go1"
    refine lc_mapL D.int (fun v => D.tup [.int v, .int v]) (L := fallsT t ps) (st := stYes) trivial (by omega) (fun p hp kk hk => ?_) ?_
    · walk_at "go1"
      exact hk
    walk_at "go1"
    refine ⟨t.length + 1, fallT t ps, fallT t ps, lowS t ss, highS t ss, _, by rw [ranges_ne hss], .inl ?_, by omega, fun i hi => ⟨low_le.mpr ⟨fall_nn hps hne i, fun p hp => ?_⟩, (le_high hss).mpr fun p hp => ?_⟩, ?_⟩
    · unfold fallsT
      rw [List.map_map]
      rfl
    · obtain ⟨h1, h2⟩ := all_mem.mp (hS3.mem p hp)
      have := fall_lip hps hne p.1 i h1 (by omega)
      rw [h2]
      omega
    · obtain ⟨h1, h2⟩ := all_mem.mp (hS3.mem p hp)
      have := fall_lip hps hne i p.1 (by omega) h1
      have := dist_comm t i p.1
      rw [h2]
      omega
    walk_at "go1"
    exact fin
  rintro ρ M ⟨rfl, rfl⟩
  obtain ⟨lm, hlm⟩ := least_ex ht hs hS.cf
  have hlm2 : lm ≤ ps.length := by
    have hcv := seen_cov (ss := ss) hps hne fun p hp => (all_mem.mp (hS3.mem p hp)).2
    by_cases h : ps.length < lm
    · exact absurd hcv (hlm.2.2.2 _ (List.length_pos_iff.mpr hne) h)
    · omega
  refine seq_mid (fun ρ M => ρ = row26 ns done.length t ps [some sd, y8, some (rangesD t ss), some (.lst (ss.map fun p => natD p.1)), y11, y12, y13, y14, y15, y16, none, none] ∧ M = dkC cs n rs ++ R) (fun nx hnx => ?_) ?_
  · have fin := hnx _ _ ⟨rfl, rfl⟩
    walk_at "go1"
    refine ⟨t, ss, sd, rfl, hpt, ht, hs, hw, fun _ => ⟨hp0, fun ps2 ms2 F => ?_⟩, fun p hp => by rw [hS.cf] at hp; cases hp⟩
    rw [least_few hs hS.cf hlm F]
    walk_at "go1"
    rw [decide_eq_true (show (1 : Int) ≤ (lm : Int) by have := hlm.1; omega)]
    walk_at "go1"
    rw [decide_eq_true (show (lm : Int) ≤ (ps.length : Int) by omega)]
    walk_at "go1"
    exact fin
  rintro ρ M ⟨rfl, rfl⟩
  refine seq_mid (fun ρ M => ∃ (y : Option D), ρ = row26 ns done.length t ps [some sd, y, some (rangesD t ss), some (.lst (ss.map fun p => natD p.1)), y11, y12, y13, y14, y15, y16, none, none] ∧ M = dkC cs n rs ++ R) (fun nx hnx => ?_) ?_
  · have fin := fun (y : Option D) => hnx (row26 ns done.length t ps [some sd, y, some (rangesD t ss), some (.lst (ss.map fun p => natD p.1)), y11, y12, y13, y14, y15, y16, none, none]) _ ⟨y, rfl, rfl⟩
    walk_at "go1"
    refine ⟨fun dn td ρ M' => dn ++ td = rng 0 (t.length + 1) ∧ M' = dkC cs n rs ++ R ∧ ∃ (y : Option D), ρ = row26 ns done.length t ps [some sd, y, some (rangesD t ss), some (.lst (ss.map fun p => natD p.1)), y11, y12, y13, y14, y15, y16, none, none], ⟨rfl, rfl, _, rfl⟩, fun _ _ _ _ _ => trivial, ?_, ?_⟩
    rotate_left
    · rintro dn ρ M' ⟨_, rfl, y, rfl⟩
      exact fin y
    rintro dn d td ρ M' ⟨e2, rfl, y, rfl⟩
    have e3 := e2
    obtain ⟨rfl, hlt2⟩ := rng_at e2
    have hkn : fVs (ss.map fun p => natD p.1) = some ((ss.map Prod.fst).map fun (i : Nat) => V.int (i : Int)) := by
      rw [← fVs_nats, List.map_map]
      rfl
    refine nm26 ?_
    walk_at "go1"
    rw [hkn, show fV (natD dn.length) = some (V.int (dn.length : Int)) from rfl]
    walk_at "go1"
    rw [inV_nats]
    by_cases hk : dn.length ∈ ss.map Prod.fst
    · rw [decide_eq_true hk]
      walk_at "go1"
      exact ⟨by rw [← e3]; simp, trivial, _, rfl⟩
    · rw [decide_eq_false hk]
      walk_at "go1"
      refine ⟨t, ss, sd, dn.length, rfl, hpt, ht, hS, by omega, fun p hp e => hk (List.mem_map.mpr ⟨p, hp, e⟩), ?_⟩
      walk_at "go1"
      exact ⟨by rw [← e3]; simp, trivial, _, rfl⟩
  rintro ρ M ⟨y, rfl, rfl⟩
  clear y8
  have fin0 : ∀ (y' y11' y12' y13' y14' y15' y16' : Option D) (c : Cell), inv26 ns cs (done ++ [natD done.length]) todo (row26 ns done.length t ps [some sd, y', some (rangesD t ss), some (.lst (ss.map fun p => natD p.1)), y11', y12', y13', y14', y15', y16', none, none]) ((dkC cs n rs ++ R) ++ [c]) := fun _ _ _ _ _ _ _ c => ⟨by rw [← e1]; simp, n, rs, R ++ [c], _, _, _, _, _, _, _, _, _, _, _, _, _, _, _, rfl, List.append_assoc _ _ _, g⟩
  generalize dkC cs n rs ++ R = M0 at fin0 ⊢
  refine seq_mid (fun ρ M => ρ = row26 ns done.length t ps [some sd, y, some (rangesD t ss), some (.lst (ss.map fun p => natD p.1)), y11, some (.ref M0.length), y13, y14, y15, y16, none, none] ∧ M = M0 ++ [.lst (tickL (t.length + 1) [])]) (fun nx hnx => ?_) ?_
  · walk_at "go1"
    rw [rng_length]
    refine ⟨by omega, by omega, ?_⟩
    refine nm26 ?_
    rw [show (List.replicate ((t.length + 1 : Nat) : Int).toNat [D.lst [D.int 0, D.non]]).flatten = tickL (t.length + 1) [] by rw [tickL_nil, Int.toNat_natCast]; simp]
    exact hnx _ _ ⟨rfl, rfl⟩
  rintro ρ M ⟨rfl, rfl⟩
  refine seq_mid (fun ρ M => ∃ (y y2 : Option D), ρ = row26 ns done.length t ps [some sd, y, some (rangesD t ss), some (.lst (ss.map fun p => natD p.1)), y2, some (.ref M0.length), y13, y14, y15, y16, none, none] ∧ M = M0 ++ [.lst (tickL (t.length + 1) ss)]) (fun nx hnx => ?_) ?_
  · have fin := fun (y y2 : Option D) => hnx (row26 ns done.length t ps [some sd, y, some (rangesD t ss), some (.lst (ss.map fun p => natD p.1)), y2, some (.ref M0.length), y13, y14, y15, y16, none, none]) _ ⟨y, y2, rfl, rfl⟩
    walk_at "go1"
    refine ⟨_, .inl hpt, ?_⟩
    refine ⟨fun dn td ρ M' => ∃ (zs : List (Nat × Int)) (ts : List (Nat × Int)) (y y2 : Option D), dn = zs.map pushD ∧ td = ts.map pushD ∧ zs ++ ts = ss ∧ M' = M0 ++ [.lst (tickL (t.length + 1) zs)] ∧ ρ = row26 ns done.length t ps [some sd, y, some (rangesD t ss), some (.lst (ss.map fun p => natD p.1)), y2, some (.ref M0.length), y13, y14, y15, y16, none, none], ⟨[], ss, _, _, rfl, rfl, rfl, rfl, rfl⟩, fun _ _ _ _ _ => trivial, ?_, ?_⟩
    rotate_left
    · rintro dn ρ M' ⟨zs, ts, y, y2, rfl, hts, hzs, rfl, rfl⟩
      have hts := List.map_eq_nil_iff.mp hts.symm
      rw [hts, List.append_nil] at hzs
      rw [hzs]
      exact fin y y2
    rintro dn d td ρ M' ⟨zs, ts, y, y2, rfl, hts, hzs, rfl, rfl⟩
    match ts, hts with
    | [], hts => cases hts
    | p :: r, hts =>
      injection hts with h1 h2
      subst h1 h2
      have hp : p ∈ ss := by rw [← hzs]; simp
      have hpl := (hs.2 p hp).1
      have hlt := List.pairwise_append.mp (hzs ▸ hS3.asc)
      have hset := tickL_set (n := t.length + 1) (zs := zs) (p := p) (by omega) fun q hq => hlt.2.2 q hq p List.mem_cons_self
      have htl : (tickL (t.length + 1) zs).length = t.length + 1 := by unfold tickL; simp
      walk_at "go1"
      rw [htl, ixN_of (by omega) (by omega), show ((p.1 : Int)).toNat = p.1 by omega]
      walk_at "go1"
      exact ⟨zs ++ [p], r, _, _, by simp, rfl, by rw [← hzs]; simp, by rw [hset], rfl⟩
  rintro ρ M ⟨y, y2, rfl, rfl⟩
  refine seq_mid (fun ρ M => ρ = row26 ns done.length t ps [some sd, y, some (rangesD t ss), some (.lst (ss.map fun p => natD p.1)), y2, some (.ref M0.length), some (winsD (seenW t ss)), y14, y15, y16, none, none] ∧ M = M0 ++ [.lst (tickL (t.length + 1) ss)]) (fun nx hnx => ?_) ?_
  · have fin := hnx _ _ ⟨rfl, rfl⟩
    rw [show winsD (seenW t ss) = D.tup (List.map (fun i => winD ((tickS ss i).getD 0, tickS ss i)) (List.range (t.length + 1))) by unfold winsD seenW; rw [List.map_map]; rfl] at fin
    walk_at "go1"
    refine lc_mapL (fun i => tickC (tickS ss i)) (fun i => winD ((tickS ss i).getD 0, tickS ss i)) (L := List.range (t.length + 1)) (st := fun M' => M'[M0.length]? = some (Cell.lst (tickL (t.length + 1) ss))) ?_ (by simp; omega) (fun i _ kk hk => ?_) ?_
    · simp
    · cases hi : tickS ss i with
      | none =>
        rw [hi] at hk
        rw [show tickC none = .lst [.int 0, .non] from rfl]
        walk_at "go1"
        exact hk
      | some z =>
        rw [hi] at hk
        rw [show tickC (some z) = .lst [.int z, .int z] from rfl]
        walk_at "go1"
        exact hk
    walk_at "go1"
    exact fin
  rintro ρ M ⟨rfl, rfl⟩
  generalize hM1 : M0 ++ [Cell.lst (tickL (t.length + 1) ss)] = M1
  have fin1 : ∀ (y' y11' y12' y13' y14' y15' y16' : Option D), inv26 ns cs (done ++ [natD done.length]) todo (row26 ns done.length t ps [some sd, y', some (rangesD t ss), some (.lst (ss.map fun p => natD p.1)), y11', y12', y13', y14', y15', y16', none, none]) M1 := fun _ _ _ _ _ _ _ => by rw [← hM1]; exact fin0 _ _ _ _ _ _ _ _
  clear fin0 hM1
  have hea : (earls t (seenW t ss)).map D.int = (List.range (t.length + 1)).map fun i => D.int (lowS t ss i) := by
    unfold earls
    rw [List.map_map, seenW_len]
    exact List.map_congr_left fun i hi => congrArg D.int (earl_early hs (by have := List.mem_range.mp hi; omega))
  have hla : ((List.range (seenW t ss).length).map fun i => optD (late t (seenW t ss) i)) = (List.range (t.length + 1)).map fun i => D.int (highS t ss i) := by
    rw [seenW_len]
    refine List.map_congr_left fun i _ => ?_
    rw [late_seen hs, if_neg hss]
  refine seq_mid (fun ρ M => ρ = row26 ns done.length t ps [some sd, y, some (rangesD t ss), some (.lst (ss.map fun p => natD p.1)), y2, some (.ref M0.length), some (winsD (seenW t ss)), some (.tup ((List.range (t.length + 1)).map fun i => D.int (lowS t ss i))), some (.tup ((List.range (t.length + 1)).map fun i => D.int (highS t ss i))), y16, none, none] ∧ M = M1) (fun nx hnx => ?_) ?_
  · have fin := hnx _ _ ⟨rfl, rfl⟩
    walk_at "go1"
    refine ⟨t, seenW t ss, rfl, ht, hw, fun _ => ?_, fun p hp => by rw [hp0] at hp; cases hp⟩
    walk_at "go1"
    refine ⟨t, seenW t ss, rfl, ht, hw, fun _ => ?_, fun p hp => by rw [hp0] at hp; cases hp⟩
    rw [hea, show latesD t (seenW t ss) = D.tup ((List.range (t.length + 1)).map fun i => D.int (highS t ss i)) from congrArg D.tup hla]
    walk_at "go1"
    exact fin
  rintro ρ M1 ⟨rfl, rfl⟩
  have a1 := fun (i : Nat) (hi : i < t.length + 1) => at_rng (f := fun i => D.int (lowS t ss i)) hi
  have a2 := fun (i : Nat) (hi : i < t.length + 1) => at_rng (f := fun i => D.int (highS t ss i)) hi
  have hpr := pl_ranges t ss
  refine seq_mid (fun ρ M => ∃ (y y2 y12 y13 y14 y15 : Option D), ρ = row26 ns done.length t ps [some sd, y, some (rangesD t ss), some (.lst (ss.map fun p => natD p.1)), y2, y12, y13, y14, y15, y16, none, none] ∧ M = M1) (fun nx hnx => ?_) ?_
  · have fin := fun (u1 u2 u3 u4 u5 u6 : Option D) => hnx (row26 ns done.length t ps [some sd, u1, some (rangesD t ss), some (.lst (ss.map fun p => natD p.1)), u2, u3, u4, u5, u6, y16, none, none]) M1 ⟨u1, u2, u3, u4, u5, u6, rfl, rfl⟩
    walk_at "go1"
    refine lc_rng (rangeD t ss) (st := stYes) trivial (by omega) (fun i hi kk hk => ?_) ?_
    · rw [range_ne hss] at hk
      walk_at "go1"
      rw [a1 i hi]
      walk_at "go1"
      rw [a2 i hi]
      walk_at "go1"
      exact hk
    walk_at "go1"
    refine ⟨hpr.eqOk (by decide) _, hpr.eqOk (by decide) _, ?_⟩
    rw [hpr.same]
    walk_at "go1"
    exact fin _ _ _ _ _ _
  rintro ρ M1 ⟨y, y2, y12, y13, y14, y15, rfl, rfl⟩
  obtain ⟨b1, b2, b3⟩ := all_ok (t := t) hps hne fun i hi => by have := fall_26 ht hne hpc hi; omega
  have b0 := seenW_ok b1 fun p hp => by
    obtain ⟨c1, c2⟩ := all_mem.mp hp
    have := fall_26 ht hne hpc c1
    omega
  have b4 := pair_peace b1 b2
  obtain ⟨lb, hlb⟩ := least_ex ht b1 b2
  refine seq_mid (fun ρ M => ∃ (y y2 ev : Option D) (ed : D), ρ = row26 ns done.length t ps [some sd, y, some (rangesD t ss), some (.lst (ss.map fun p => natD p.1)), y2, y12, y13, y14, y15, some ed, none, none] ∧ PT ((allS t ps).map pushD) ed ∧ M = M1) (fun nx hnx => ?_) ?_
  · have fin := fun (u1 : Option D) ed hed => hnx (row26 ns done.length t ps [some sd, u1, some (rangesD t ss), some (.lst (ss.map fun p => natD p.1)), y2, y12, y13, y14, y15, some ed, none, none]) M1 ⟨u1, y2, none, ed, rfl, hed, rfl⟩
    walk_at "go1"
    refine lc_rng (fun i => pushD (i, fallT t ps i)) (st := stYes) trivial (by omega) (fun i hi kk hk => ?_) ?_
    · walk_at "go1"
      rw [falls_at (ps := ps) (show i ≤ t.length by omega)]
      walk_at "go1"
      exact hk
    intro d' hd'
    refine nm26 ?_
    exact fin _ d' (by unfold allS; rw [List.map_map]; exact hd')
  rintro ρ M1 ⟨y, y2, ev, ed, rfl, hed, rfl⟩
  have hall : rangesD t (allS t ps) = .tup ((fallsT t ps).map fun v => D.tup [.int v, .int v]) := by
    refine congrArg D.tup ?_
    unfold fallsT
    rw [List.map_map]
    exact List.map_congr_left fun i hi => all_range hps hne b3 (by have := List.mem_range.mp hi; omega)
  have hpa := pl_ranges t (allS t ps)
  rw [hall] at hpa
  refine seq_mid (fun ρ M => ∃ (y y2 : Option D), ρ = row26 ns done.length t ps [some sd, y, some (rangesD t ss), some (.lst (ss.map fun p => natD p.1)), y2, y12, y13, y14, y15, some ed, none, none] ∧ M = M1) (fun nx hnx => ?_) ?_
  · have fin := fun (u1 u2 : Option D) => hnx (row26 ns done.length t ps [some sd, u1, some (rangesD t ss), some (.lst (ss.map fun p => natD p.1)), u2, y12, y13, y14, y15, some ed, none, none]) M1 ⟨u1, u2, rfl, rfl⟩
    walk_at "go1"
    refine ⟨t, allS t ps, ed, rfl, hed, ht, b1, fun _ => ?_, fun p hp => by rw [b2] at hp; cases hp⟩
    rw [hall]
    walk_at "go1"
    refine lc_mapL D.int (fun v => D.tup [.int v, .int v]) (L := fallsT t ps) (st := stYes) trivial (by omega) (fun v hv kk hk => ?_) ?_
    · walk_at "go1"
      exact hk
    walk_at "go1"
    refine ⟨hpa.eqOk (by decide) _, hpa.eqOk (by decide) _, ?_⟩
    rw [hpa.same]
    walk_at "go1"
    exact fin _ _
  rintro ρ M1 ⟨y, y2, rfl, rfl⟩
  have fin := fin1 y y2 y12 y13 y14 y15 (some ed)
  walk_at "go1"
  refine ⟨t, allS t ps, ed, rfl, hed, ht, b1, b0, fun _ => ⟨b4, fun ps2 ms2 F => ?_⟩, fun p hp => by rw [b2] at hp; cases hp⟩
  rw [least_few b1 b2 hlb F, need_least ht hps hne hlb]
  walk_at "go1"
  refine ⟨t, fallsT t ps, rfl, ht, hfl, ?_⟩
  rw [needed_P]
  walk_at "go1"
  exact fin
theorem sp_start : ∀ (K : PySem.W.Frag) (H : Hp) (a : Addr) (ns : List Int), ns.length ≤ 63 → (∀ p ∈ Tk K, H p.1 = some (.tbl #[])) → SqL K H a (ns.map V.int) → spOf K spLaw [.ref a] H (fun v _ => v = .bl true) fun _ _ _ => False := fun K H a ns hl hT hS => scr_start hT hS fun Q hQ E' => ⟨ns, rfl, rfl, hl, hQ⟩
theorem law_binds {K : PySem.W.Frag} {f : Addr} {fd : FuncData} (F : Fun K "law" "law" s_law f fd) (s : Shared) (v : Value) : BindsTo s fd ⟨[v], []⟩ [("_law_script", v)] := by
  obtain ⟨oc, od, kV, doc, pm, an, cdv, ct, osl, rfl, _⟩ := F.ex
  exact .of_eq rfl
end
theorem all_mk {P : Program} {w : World} {K : PySem.W.Frag} {h : Heap} {mg : Str → Option Value} {fa : Addr} (X : K.In h) (G : h.Ns mainGlobals mg) (hfa : mg "law" = some (.ref fa)) (c : SaysH hCk hFn hTs w K)
    : ∃ fd : FuncData, (∀ (s : Shared) (v : Value), BindsTo s fd ⟨[v], []⟩ [("_law_script", v)]) ∧ ∀ base : Heap, K.In base → base.Ns mainGlobals mg → FnG P w K mg base (CXd P w) LEVEL fa fd ["_law_script"] (spOf K spLaw) := by
  have gs_ : gsB K = true := (c.fact 59 (f := gsB) (by kernel_rfl))
  have h_NoTable : mg "NoTable" = some (.ref (He.ga K "NoTable")) := He.glo_ok X G (c.fact 62 (f := fun K => (He.Fa.glo "NoTable").ok K) (by kernel_rfl))
  have e_NoTable : cls mg "NoTable" = He.ga K "NoTable" := cls_of h_NoTable
  have h_FallError : mg "FallError" = some (.ref (He.ga K "FallError")) := He.glo_ok X G (c.fact 63 (f := fun K => (He.Fa.glo "FallError").ok K) (by kernel_rfl))
  have e_FallError : cls mg "FallError" = He.ga K "FallError" := cls_of h_FallError
  have h_Conflict : mg "Conflict" = some (.ref (He.ga K "Conflict")) := He.glo_ok X G (c.fact 64 (f := fun K => (He.Fa.glo "Conflict").ok K) (by kernel_rfl))
  have e_Conflict : cls mg "Conflict" = He.ga K "Conflict" := cls_of h_Conflict
  have x_NoTable := c.exc gs_ 65 66 37 (eb := .value) (C := "NoTable") (f := "pair") (q := "NoTable.__init__") (st := si_NoTable) (by kernel_rfl) (by kernel_rfl) (by kernel_rfl) sci_NoTable ⟨_, _, _, _, rfl⟩ (.inl rfl) (.inl rfl) (fun _ _ _ _ _ _ us hl => match us, hl with | [_, _], _ => rfl) (by decide) (by decide)
  have x_Conflict := c.exc gs_ 67 68 38 (eb := .value) (C := "Conflict") (f := "pair") (q := "Conflict.__init__") (st := si_Conflict) (by kernel_rfl) (by kernel_rfl) (by kernel_rfl) sci_Conflict ⟨_, _, _, _, rfl⟩ (.inl rfl) (.inl rfl) (fun _ _ _ _ _ _ us hl => match us, hl with | [_, _], _ => rfl) (by decide) (by decide)
  have T : Tp K mg := ⟨⟨He.free_ok X G (c.fact 0 (f := fun K => (He.Fa.free "abs").ok K) (by kernel_rfl)), He.free_ok X G (c.fact 1 (f := fun K => (He.Fa.free "all").ok K) (by kernel_rfl)), He.free_ok X G (c.fact 2 (f := fun K => (He.Fa.free "any").ok K) (by kernel_rfl)), He.free_ok X G (c.fact 3 (f := fun K => (He.Fa.free "bool").ok K) (by kernel_rfl)), He.free_ok X G (c.fact 4 (f := fun K => (He.Fa.free "dict").ok K) (by kernel_rfl)), He.free_ok X G (c.fact 5 (f := fun K => (He.Fa.free "enumerate").ok K) (by kernel_rfl)), He.free_ok X G (c.fact 6 (f := fun K => (He.Fa.free "int").ok K) (by kernel_rfl)), He.free_ok X G (c.fact 7 (f := fun K => (He.Fa.free "isinstance").ok K) (by kernel_rfl)), He.free_ok X G (c.fact 8 (f := fun K => (He.Fa.free "len").ok K) (by kernel_rfl)), He.free_ok X G (c.fact 9 (f := fun K => (He.Fa.free "list").ok K) (by kernel_rfl)), He.free_ok X G (c.fact 10 (f := fun K => (He.Fa.free "max").ok K) (by kernel_rfl)), He.free_ok X G (c.fact 11 (f := fun K => (He.Fa.free "min").ok K) (by kernel_rfl)), He.free_ok X G (c.fact 12 (f := fun K => (He.Fa.free "range").ok K) (by kernel_rfl)), He.free_ok X G (c.fact 13 (f := fun K => (He.Fa.free "repr").ok K) (by kernel_rfl)), He.free_ok X G (c.fact 14 (f := fun K => (He.Fa.free "set").ok K) (by kernel_rfl)), He.free_ok X G (c.fact 15 (f := fun K => (He.Fa.free "sorted").ok K) (by kernel_rfl)), He.free_ok X G (c.fact 16 (f := fun K => (He.Fa.free "str").ok K) (by kernel_rfl)), He.free_ok X G (c.fact 17 (f := fun K => (He.Fa.free "sum").ok K) (by kernel_rfl)), He.free_ok X G (c.fact 18 (f := fun K => (He.Fa.free "tuple").ok K) (by kernel_rfl)), He.free_ok X G (c.fact 19 (f := fun K => (He.Fa.free "zip").ok K) (by kernel_rfl)), He.free_ok X G (c.fact 20 (f := fun K => (He.Fa.free "LookupError").ok K) (by kernel_rfl)), He.free_ok X G (c.fact 21 (f := fun K => (He.Fa.free "ValueError").ok K) (by kernel_rfl))⟩,
    c.df X G 22 0 (by kernel_rfl) (by kernel_rfl),
    c.df X G 23 1 (by kernel_rfl) (by kernel_rfl),
    c.df X G 24 2 (by kernel_rfl) (by kernel_rfl),
    c.df X G 25 3 (by kernel_rfl) (by kernel_rfl),
    c.df X G 26 4 (by kernel_rfl) (by kernel_rfl),
    c.df X G 27 5 (by kernel_rfl) (by kernel_rfl),
    c.df X G 28 6 (by kernel_rfl) (by kernel_rfl),
    c.df X G 29 7 (by kernel_rfl) (by kernel_rfl),
    c.df X G 30 8 (by kernel_rfl) (by kernel_rfl),
    c.df X G 31 9 (by kernel_rfl) (by kernel_rfl),
    c.df X G 32 10 (by kernel_rfl) (by kernel_rfl),
    c.df X G 33 11 (by kernel_rfl) (by kernel_rfl),
    c.df X G 34 12 (by kernel_rfl) (by kernel_rfl),
    c.df X G 35 13 (by kernel_rfl) (by kernel_rfl),
    c.df X G 36 14 (by kernel_rfl) (by kernel_rfl),
    c.df X G 37 15 (by kernel_rfl) (by kernel_rfl),
    c.df X G 38 16 (by kernel_rfl) (by kernel_rfl),
    c.df X G 39 17 (by kernel_rfl) (by kernel_rfl),
    c.df X G 40 18 (by kernel_rfl) (by kernel_rfl),
    c.df X G 41 19 (by kernel_rfl) (by kernel_rfl),
    c.df X G 42 20 (by kernel_rfl) (by kernel_rfl),
    c.df X G 43 21 (by kernel_rfl) (by kernel_rfl),
    c.df X G 44 22 (by kernel_rfl) (by kernel_rfl),
    c.df X G 45 23 (by kernel_rfl) (by kernel_rfl),
    c.df X G 46 24 (by kernel_rfl) (by kernel_rfl),
    c.df X G 47 25 (by kernel_rfl) (by kernel_rfl),
    c.df X G 48 26 (by kernel_rfl) (by kernel_rfl),
    c.df X G 49 27 (by kernel_rfl) (by kernel_rfl),
    c.df X G 50 28 (by kernel_rfl) (by kernel_rfl),
    c.df X G 51 29 (by kernel_rfl) (by kernel_rfl),
    c.df X G 52 30 (by kernel_rfl) (by kernel_rfl),
    c.df X G 53 31 (by kernel_rfl) (by kernel_rfl),
    c.df X G 54 32 (by kernel_rfl) (by kernel_rfl),
    c.df X G 55 33 (by kernel_rfl) (by kernel_rfl),
    c.df X G 56 34 (by kernel_rfl) (by kernel_rfl),
    c.df X G 57 35 (by kernel_rfl) (by kernel_rfl),
    c.df X G 58 36 (by kernel_rfl) (by kernel_rfl),
    He.int_ok X G (c.fact 60 (f := fun K => (He.Fa.int "MAX_PUSHES" 20).ok K) (by kernel_rfl)),
    He.int_ok X G (c.fact 61 (f := fun K => (He.Fa.int "MAX_TICK" 1000000000).ok K) (by kernel_rfl)),
    by rw [e_NoTable]; exact h_NoTable,
    by rw [e_FallError]; exact h_FallError,
    by rw [e_Conflict]; exact h_Conflict,
    by rw [e_NoTable]; exact x_NoTable.1,
    by rw [e_NoTable]; exact x_NoTable.2,
    by rw [e_Conflict]; exact x_Conflict.1,
    by rw [e_Conflict]; exact x_Conflict.2⟩
  obtain ⟨f, fd, F, hm⟩ := T.d_law.ex
  rw [hfa] at hm
  cases hm
  exact ⟨fd, fun s v => law_binds F s v, fun base _ _ => law_fn T F base⟩
end Law
open PySem PySem.W PySem.Calls PyProof.Rows in
set_option maxRecDepth 100000 in
set_option maxHeartbeats 0 in
theorem PySem.Challenge.cw_marktopples_k26_whole_seen_ranges_holds : PySem.Challenge.rw_marktopples_k26_whole_seen_ranges.Holds := by
  w_on; o_law
  refine HandSHeadRun.head_any (r := (OpenLaw.row PySem.Challenge.rw_marktopples_k26_whole_seen_ranges)) (q := view (OpenLaw.row PySem.Challenge.rw_marktopples_k26_whole_seen_ranges).prog [49]) (H := Law.hHook) (ob := Law.hOb) (M := 12000) (loose := Law.hLoose) (d := HandSHeadRun.topDef (OpenLaw.row PySem.Challenge.rw_marktopples_k26_whole_seen_ranges).prog 49) (kwd := []) Law.hOb_eq (by kernel_rfl) (fun s => by kernel_rfl) Law.hRun (by kernel_rfl) (by kernel_rfl) (by kernel_rfl) (by rfl) (by first | assumption | decide +kernel) (by decide +kernel) ⟨rfl, rfl, rfl, rfl, rfl, by decide +kernel⟩ ?hw ?hc
  case hw => w_witness2
  case hc =>
    refine DL.walkGE (l := PySem.Challenge.rw_marktopples_k26_whole_seen_ranges) (n := 63) (k := Law.LEVEL) (x := "_law_script") (sp := fun K => DL.spOf K DL.spLaw) rfl (by decide) (by kernel_rfl) ⟨rfl, by decide, by decide⟩ ?F Law.sp_start
    intro w mg fa h Y G hmg0
    obtain ⟨K, KX, c, TH⟩ := Y
    have e : (HandSHeadRun.topDef (OpenLaw.row PySem.Challenge.rw_marktopples_k26_whole_seen_ranges).prog 49).name = ("law" : PySem.Str) := by kernel_rfl
    rw [e] at hmg0
    obtain ⟨fd, hb, hF⟩ := Law.all_mk KX G hmg0 c
    exact ⟨K, fd, KX, TH, hb, hF⟩
