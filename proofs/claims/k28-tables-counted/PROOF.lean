import PyProof.Rows.All
import Wide.All
import OpenK.AllK
import Wide.FinOn
import HandS.ForMost
import HandS.ForExc
import HandS.HotCalls
import HandS.ExcInit
import HandS.ExcInitHot
import HandS.ExcField
import KE.KExcIs
import HandS.TupAny
import HandS.Star
import HandS.IsInst
import HandS.TupMul
import HandS.Zip
import HandS.Style
import KE.GoesEnum
import HandS.Conv
import HandS.IsInst
import HandS.TupLe
import KE.GoesMore
import KE.KDictZip
import PyProof.ZipIter
import PyProof.MeetsSeq2
import HandS.Zip
import KE.KStar
import HandS.Star
import HandS.Deep
import HandS.MakeKwOnly
import PyProof.RowDictHeap
import HandS.Property
import PyProof.StrLawsRepr
import KE.KUnpackStar
import PyProof.RulesMatch
import KE.KCallOwn
import HandS.FStr
import KE.KStateDown
import HandS.Head0
import HandS.Head1
import HandS.Head2
import HandS.HeadHook1
import HandS.HeadHook2
import HandS.HeadHook3
import KE.KExcInit
import PyProof.ExcBaseAll.LookupError
import HandS.SetFor
import HandS.Text
import HandS.Iter
import HandS.Flow
import HandS.Codes
import HandS.HeadNt
import HandS.MethStar
import KE.KSuper
import PyProof.Rows.RegReprOcc
import KE.KIntText
import KE.DataMinMax
import KE.DataFind
import KE.KOpsOwn
import PyProof.InstNe
import HandS.RaiseFrom
import HandS.Finally
import HandS.Lambda
import HandS.Nested
import KE.KNestM
import KE.KWithOwn
import HandS.Wide
import PySem.Challenge.RW_marktopples_k28_tables_counted
set_option Elab.async false
set_option linter.all false
set_option maxRecDepth 100000
namespace DL
open PySem PySem.Spec PyProof.Rows L2
def markObj (P : Addr) (q : Str) : Obj := { cls := .none, data := .fields #[.ref P, .str q 0] }
def markOf : Obj → Option (Addr × Str)
  | ⟨.none, none, .fields ⟨[.ref P, .str q _]⟩, _⟩ => some (P, q)
  | _ => none
def Tk (K : PySem.W.Frag) : List (Addr × Str) := K.filterMap fun q => markOf q.2
/-- a list of addresses, each written out -/
def frL {α : Type} : List Addr → (List Addr → α) → α
  | [], k => k []
  | a :: r, k => HandSHeadRun.frNat a fun a => frL r fun r => k (a :: r)
/-- a list, its cells written out -/
def frC {α β : Type} : List α → (List α → β) → β
  | [], k => k []
  | a :: r, k => frC r fun r => k (a :: r)
theorem frC_eq {α β : Type} : ∀ (l : List α) (k : List α → β), frC l k = k l
  | [], _ => rfl
  | a :: r, k => by
    show frC r (fun r => k (a :: r)) = _
    rw [frC_eq r]
def frObj {β : Type} (o : Obj) (k : Obj → β) : β := match o with
  | ⟨c, d, .dict es n, sl⟩ => frC es.toList fun l => k ⟨c, d, .dict ⟨l⟩ n, sl⟩
  | o => k o
theorem frObj_eq {β : Type} (o : Obj) (k : Obj → β) : frObj o k = k o := by
  obtain ⟨c, d, dt, sl⟩ := o
  cases dt <;> first | rfl | exact frC_eq _ _
/-- the objects at these addresses -/
def frK {β : Type} (g : Addr → Option Obj) : List Addr → (PySem.W.Frag → β) → β
  | [], k => k []
  | a :: r, k => match g a with
    | some o => frObj o fun o => frK g r fun K => k ((a, o) :: K)
    | none => frK g r k
theorem frK_eq {β : Type} (g : Addr → Option Obj) : ∀ (as : List Addr) (k : PySem.W.Frag → β), frK g as k = k (He.frG g as)
  | [], _ => rfl
  | a :: r, k => by
    show (match g a with
      | some o => frObj o fun o => frK g r fun K => k ((a, o) :: K)
      | none => frK g r k) = _
    unfold He.frG
    rw [List.filterMap_cons]
    cases e : g a with
    | some o =>
      show frObj o (fun o => frK g r fun K => k ((a, o) :: K)) = _
      rw [frObj_eq, frK_eq g r] <;> rfl
    | none =>
      show frK g r k = _
      rw [frK_eq g r] <;> rfl
/-- what an object names: a dict's entries of these names alone, a property's getter -/
def refsM (ms : List Str) (o : Obj) : List Addr := match o.data with
  | .func fd => He.refV fd.code ++ He.refV fd.kwdefaults ++ fd.closure.map (·.2)
  | .cls cd => cd.ns :: cd.mro.flatMap He.refV
  | .dict es _ => es.toList.flatMap fun e => match ms.any fun m => e.key.isStr m with
    | true => He.refV e.val
    | false => []
  | .fields vs => (match o.cls with
    | .type t => (match (decide (t = "property") || decide (t = "classmethod")) with
      | true => vs.toList.flatMap He.refV
      | false => [])
    | _ => [])
  | _ => []
def memA (a : Addr) : List Addr → Bool
  | [] => false
  | b :: r => Nat.beq a b || memA a r
def addA : List Addr → List Addr → List Addr
  | [], acc => acc
  | a :: r, acc => match memA a acc with
    | true => addA r acc
    | false => addA r (acc ++ [a])
/-- n steps on from these addresses -/
def walkA (g : Addr → Option Obj) (ms : List Str) : Nat → List Addr → List Addr
  | 0, as => as
  | n + 1, as => frL (addA (as.flatMap fun a => match g a with
    | some o => refsM ms o
    | none => []) as) fun as => walkA g ms n as
/-- the module's names xs, and what is reached from them -/
def asH (g : Addr → Option Obj) (xs ms : List Str) : List Addr := frK g [mainGlobals] fun K0 => frL (xs.map fun x => He.ga K0 x) fun as => sysModules :: cStatics :: mainGlobals :: walkA g ms 4 (addA as [])
structure HDef where
  at_ : PySem.W.Frag → Addr
  name : Str
  qual : Str
  st : Stmt
  kwd : List (Str × He.Dv) := []
  clo : List Str := []
def HDef.kws (K : PySem.W.Frag) (d : HDef) : List (Str × V) := d.kwd.map fun q => (q.1, q.2.v K)
def fnH (K : PySem.W.Frag) (a : Addr) : He.FnW := match K.lookup a with
  | some ⟨_, _, .func fd, _⟩ => some (fd.name, fd.qualname, fd.params, fd.body, fd.scope, fd.globals, fd.closure.map fun q => (q.1, 0), fd.builtins)
  | _ => none
def HDef.val (d : HDef) : He.FnW := some (d.name, d.qual, defArgs d.st, .stmts (defBody d.st), defScope d.st, mainGlobals, d.clo.map fun x => (x, 0), builtinsNs)
def HDef.ok (K : PySem.W.Frag) (d : HDef) : Bool := PySem.W.keepIn K (.ref (d.at_ K)) && (match K.lookup (d.at_ K) with
  | some ⟨_, _, .func fd, _⟩ => PySem.W.codeIn K fd.code d.qual && (He.dflB K fd.defaults [] && He.kwdB K fd.kwdefaults (d.kws K))
  | _ => false)
theorem HDef.funD {K : PySem.W.Frag} {d : HDef} (hcl : d.clo = []) (e : fnH K (d.at_ K) = d.val) (c : d.ok K = true) : ∃ fd, FunD K d.name d.qual (defArgs d.st) (defBody d.st) (defScope d.st) [] (d.kws K) (d.at_ K) fd := by
  obtain ⟨kp, c2⟩ := He.ba c
  unfold fnH at e
  cases q : K.lookup (d.at_ K) with
  | none =>
    rw [q] at c2
    cases c2
  | some o =>
    obtain ⟨oc, od, dt, osl⟩ := o
    rw [q] at c2 e
    cases dt with
    | func fd =>
      obtain ⟨n1, n2, n3, n4, n5, n6, n7, n8, n9, n10, n11, n12, n13, n14, n15⟩ := fd
      have e2 : (some (n1, n2, n3, n4, n5, n6, n7.map fun q => (q.1, 0), n15) : He.FnW) = some (d.name, d.qual, defArgs d.st, .stmts (defBody d.st), defScope d.st, mainGlobals, d.clo.map fun x => (x, 0), builtinsNs) := e
      simp only [Option.some.injEq, Prod.mk.injEq] at e2
      obtain ⟨h1, h2, h3, h4, h5, h6, h7', h8⟩ := e2
      have h7 : n7 = [] := by
        rw [hcl, List.map_nil] at h7'
        exact List.map_eq_nil_iff.mp h7'
      subst h1 h2 h3 h4 h5 h6 h7 h8
      have c3 : (PySem.W.codeIn K n13 d.qual && (He.dflB K n8 [] && He.kwdB K n9 (d.kws K))) = true := c2
      obtain ⟨k1, k2⟩ := He.ba c3
      obtain ⟨k3, k4⟩ := He.ba k2
      exact ⟨_, ⟨oc, od, n8, n9, n10, n11, n12, n13, n14, osl, rfl, q, k1, He.dflB_ok k3, He.kwdB_ok k4⟩, kp⟩
    | _ => cases c2
theorem fun_ofD {K : PySem.W.Frag} {x qual : Str} {st : Stmt} {kws : List (Str × V)} {f : Addr} {fd : FuncData} (F : FunD K x qual (defArgs st) (defBody st) (defScope st) [] kws f fd) : Fun K x qual st f fd := by
  obtain ⟨oc, od, dV, kV, doc, pm, an, cdv, ct, osl, e, lk, hc, hd, _⟩ := F.ex
  obtain rfl : dV = .none := by
    rcases hd with ⟨_, h⟩ | ⟨h, _⟩
    · exact h
    · exact absurd rfl h
  exact ⟨⟨oc, od, kV, doc, pm, an, cdv, ct, osl, e, lk, hc⟩, F.kp⟩
/-- objects that look like marks are left out -/
def noMk {β : Type} : PySem.W.Frag → (PySem.W.Frag → β) → β
  | [], k => k []
  | q :: r, k => match markOf q.2 with
    | none => noMk r fun K => k (q :: K)
    | some _ => noMk r k
def cutMk : PySem.W.Frag → PySem.W.Frag
  | [] => []
  | q :: r => match markOf q.2 with
    | none => q :: cutMk r
    | some _ => cutMk r
theorem noMk_eq {β : Type} : ∀ (K : PySem.W.Frag) (k : PySem.W.Frag → β), noMk K k = k (cutMk K)
  | [], _ => rfl
  | q :: r, k => by
    unfold noMk cutMk
    cases markOf q.2 with
    | none => exact noMk_eq r _
    | some _ => exact noMk_eq r _
def appMk {β : Type} : PySem.W.Frag → PySem.W.Frag → (PySem.W.Frag → β) → β
  | [], m, k => k m
  | q :: r, m, k => appMk r m fun K => k (q :: K)
theorem appMk_eq {β : Type} : ∀ (K m : PySem.W.Frag) (k : PySem.W.Frag → β), appMk K m k = k (K ++ m)
  | [], _, _ => rfl
  | q :: r, m, k => by
    unfold appMk
    rw [appMk_eq r] <;> rfl
/-- a def's code object, its table, the name of its lambdas -/
def tabAt (K : PySem.W.Frag) (f : Addr) : Option (Addr × Addr × Str) := match K.lookup f with
  | some ⟨_, _, .func fd, _⟩ => (match fd.code with
    | .ref c => (match K.lookup c with
      | some ⟨_, _, .fields vs, _⟩ => (match (vs[11]? : Option Value) with
        | some (.ref P) => some (c, P, fd.qualname ++ ".<locals>." ++ "<lambda>")
        | _ => none)
      | _ => none)
    | _ => none)
  | _ => none
theorem tabAt_in {K : PySem.W.Frag} {f c P : Addr} {q : Str} (h : tabAt K f = some (c, P, q)) : ∃ o, K.lookup c = some o := by
  unfold tabAt at h
  split at h
  · split at h
    · split at h
      · next e2 =>
        split at h
        · cases h
          exact ⟨_, e2⟩
        · cases h
      · cases h
    · cases h
  · cases h
def frMk {β : Type} (K : PySem.W.Frag) : List (PySem.W.Frag → Addr) → (PySem.W.Frag → β) → β
  | [], k => k []
  | a :: r, k => match tabAt K (a K) with
    | some (c, P, q) => HandSHeadRun.frNat c fun c => HandSHeadRun.frNat P fun P => frMk K r fun ms => k ((c, markObj P q) :: ms)
    | none => frMk K r k
def mksOf (K : PySem.W.Frag) : List (PySem.W.Frag → Addr) → PySem.W.Frag
  | [] => []
  | a :: r => match tabAt K (a K) with
    | some (c, P, q) => (c, markObj P q) :: mksOf K r
    | none => mksOf K r
theorem frMk_eq {β : Type} (K : PySem.W.Frag) : ∀ (l : List (PySem.W.Frag → Addr)) (k : PySem.W.Frag → β), frMk K l k = k (mksOf K l)
  | [], _ => rfl
  | a :: r, k => by
    unfold frMk mksOf
    split
    · rw [HandSHeadRun.frNat_eq, HandSHeadRun.frNat_eq, frMk_eq K r]
    · exact frMk_eq K r _
def mkK (lm : List (PySem.W.Frag → Addr)) (K : PySem.W.Frag) : PySem.W.Frag := cutMk K ++ mksOf (cutMk K) lm
def frAll {β : Type} (lm : List (PySem.W.Frag → Addr)) (K : PySem.W.Frag) (k : PySem.W.Frag → β) : β := noMk K fun K1 => frMk K1 lm fun ms => appMk K1 ms k
theorem frAll_eq {β : Type} (lm : List (PySem.W.Frag → Addr)) (K : PySem.W.Frag) (k : PySem.W.Frag → β) : frAll lm K k = k (mkK lm K) := by
  unfold frAll mkK
  rw [noMk_eq, frMk_eq, appMk_eq]
theorem cutMk_mem {q : Addr × Obj} : ∀ {K : PySem.W.Frag}, q ∈ cutMk K → q ∈ K
  | [], h => h
  | p :: r, h => by
    unfold cutMk at h
    split at h
    · rcases List.mem_cons.mp h with z | z
      · rw [z]; exact List.mem_cons_self
      · exact List.mem_cons_of_mem _ (cutMk_mem z)
    · exact List.mem_cons_of_mem _ (cutMk_mem h)
theorem mksOf_mem {K : PySem.W.Frag} {a : Addr} {o : Obj} : ∀ {l : List (PySem.W.Frag → Addr)}, (a, o) ∈ mksOf K l → ∃ u, K.lookup a = some u
  | [], h => by cases h
  | x :: r, h => by
    unfold mksOf at h
    split at h
    · next c P q e =>
      rcases List.mem_cons.mp h with z | z
      · cases z
        exact tabAt_in e
      · exact mksOf_mem z
    · exact mksOf_mem h
theorem look_mem {a : Addr} {o : Obj} : ∀ {l : List (Addr × Obj)}, l.lookup a = some o → (a, o) ∈ l
  | [], h => by cases h
  | (b, u) :: r, h => by
    rw [List.lookup_cons] at h
    split at h
    · next e =>
      cases h
      have e2 : a = b := by simpa using e
      rw [e2]
      exact List.mem_cons_self
    · exact List.mem_cons_of_mem _ (look_mem h)
theorem look_app {a : Addr} {o : Obj} : ∀ {l m : List (Addr × Obj)}, (l ++ m).lookup a = some o → l.lookup a = some o ∨ (l.lookup a = none ∧ m.lookup a = some o)
  | [], _, h => .inr ⟨rfl, h⟩
  | (b, u) :: r, m, h => by
    rw [List.cons_append, List.lookup_cons] at h
    rw [List.lookup_cons]
    split at h
    · exact .inl h
    · exact look_app h
theorem mkK_in {lm : List (PySem.W.Frag → Addr)} {K : PySem.W.Frag} {h : Heap} (X : ∀ a o, (a, o) ∈ K → h.get? a = some o) : (mkK lm K).In h := fun a o e => by
  rcases look_app (show (cutMk K ++ mksOf (cutMk K) lm).lookup a = some o from e) with e | ⟨e1, e2⟩
  · exact X a o (cutMk_mem (look_mem e))
  · obtain ⟨u, e3⟩ := mksOf_mem (look_mem e2)
    rw [e1] at e3
    cases e3
theorem frG_memb {g : Addr → Option Obj} {as : List Addr} {a : Addr} {o : Obj} (h : (a, o) ∈ He.frG g as) : g a = some o := by
  unfold He.frG at h
  obtain ⟨b, _, e⟩ := List.mem_filterMap.mp h
  cases hb : g b with
  | none => rw [hb] at e; cases e
  | some u => rw [hb] at e; cases e; exact hb
def isTab : Obj → Bool
  | ⟨.none, none, .fields ⟨[]⟩, ⟨[]⟩⟩ => true
  | _ => false
theorem isTab_eq {o : Obj} (h : isTab o = true) : o = { cls := .none, data := .fields #[] } := by
  unfold isTab at h
  split at h
  · rfl
  · cases h
def tbGood (g : Addr → Option Obj) (K : PySem.W.Frag) (p : Addr × Str) : Bool := (match g p.1 with
  | some o => isTab o
  | none => false) && ((K.lookup p.1).isNone && K.any fun e => PySem.W.codeHdIn K e.1 p.1)
def tbsGood (g : Addr → Option Obj) (K : PySem.W.Frag) : Bool := (Tk K).all (tbGood g K)
/-- the tables of the marks: empty, not known, each of a code object -/
def TabsH (K : PySem.W.Frag) (h : Heap) : Prop := ∀ p ∈ Tk K, h.get? p.1 = some { cls := .none, data := .fields #[] } ∧ K.lookup p.1 = none ∧ ∃ c, PySem.W.codeHdIn K c p.1 = true
theorem tbsGood_ok {K : PySem.W.Frag} {h : Heap} (e : tbsGood h.get? K = true) : TabsH K h := fun p hp => by
  obtain ⟨e1, e2⟩ := He.ba (List.all_eq_true.mp e p hp)
  obtain ⟨e3, e4⟩ := He.ba e2
  refine ⟨?_, Option.isNone_iff_eq_none.mp e3, ?_⟩
  · cases q : h.get? p.1 with
    | none => rw [q] at e1; cases e1
    | some o => rw [q] at e1; rw [isTab_eq e1]
  · obtain ⟨x, _, hx⟩ := List.any_eq_true.mp e4
    exact ⟨x.1, hx⟩
abbrev AlH : Type := Bool × List He.FnW × List (Option (List (Option (Str × Int))))
def obsH (ck : List (PySem.W.Frag → Bool)) (fn : List HDef) (ts : List He.Tab) (K : PySem.W.Frag) : AlH := ((ck.all fun f => f K) && fn.all fun d => d.ok K, fn.map fun d => fnH K (d.at_ K), ts.map fun t => He.dicW K (t.1 K))
def valH (fn : List HDef) (ts : List He.Tab) (w : World) : AlH := (true, fn.map HDef.val, ts.map fun t => some (He.keysIn w.params t.2))
def SaysH (ck : List (PySem.W.Frag → Bool)) (fn : List HDef) (ts : List He.Tab) (w : World) (K : PySem.W.Frag) : Prop := obsH ck fn ts K = valH fn ts w
def obsHG (xs ms : List Str) (lm : List (PySem.W.Frag → Addr)) (ck : List (PySem.W.Frag → Bool)) (fn : List HDef) (ts : List He.Tab) (g : Addr → Option Obj) : AlH × Bool := frK g (asH g xs ms) fun K0 => frAll lm K0 fun K => (obsH ck fn ts K, tbsGood g K)
def hookH (xs ms : List Str) (lm : List (PySem.W.Frag → Addr)) (ck : List (PySem.W.Frag → Bool)) (fn : List HDef) (ts : List He.Tab) : PySem.W.Hook where
  α := AlH × Bool
  obs := fun s => obsHG xs ms lm ck fn ts s.heap.get?
  val := fun w => (valH fn ts w, true)
  says := fun w h => ∃ K : PySem.W.Frag, K.In h ∧ SaysH ck fn ts w K ∧ TabsH K h
  of := fun w s e => by
    have e2 : (obsH ck fn ts (mkK lm (He.frG s.heap.get? (asH s.heap.get? xs ms))), tbsGood s.heap.get? (mkK lm (He.frG s.heap.get? (asH s.heap.get? xs ms)))) = (valH fn ts w, true) := by
      refine Eq.trans ?_ e
      show _ = frK s.heap.get? (asH s.heap.get? xs ms) fun K0 => frAll lm K0 fun K => (obsH ck fn ts K, tbsGood s.heap.get? K)
      rw [frK_eq, frAll_eq]
    exact ⟨_, mkK_in fun a o h => frG_memb h, congrArg (fun z : AlH × Bool => z.1) e2, tbsGood_ok (congrArg (fun z : AlH × Bool => z.2) e2)⟩
  keeps := fun _ _ _ ⟨K, hK, c, t⟩ k => ⟨K, PySem.W.Frag.In.keeps hK k, c, fun p hp => ⟨k _ _ (t p hp).1, (t p hp).2⟩⟩
theorem obsHG_eq {xs ms : List Str} {lm : List (PySem.W.Frag → Addr)} {ck : List (PySem.W.Frag → Bool)} {fn : List HDef} {ts : List He.Tab} {g : Addr → Option Obj} {s : Shared} (h : ∀ a, g a = s.heap.get? a) : obsHG xs ms lm ck fn ts g = (hookH xs ms lm ck fn ts).obs s := by
  have e : g = s.heap.get? := funext h
  rw [e] <;> rfl
/-- the statements of a class -/
def cdBody (s : Stmt) : List Stmt := match s with
  | .ClassDef _ _ _ b _ _ _ _ _ _ _ => b
  | _ => []
def gsB (K : PySem.W.Frag) : Bool := He.eqO (PySem.W.specialIn K (.builtin "object.__class__") "__get__") (some (some (.builtin "getset_descriptor.__get__"))) && decide (PySem.W.takesIn K (.builtin "object.__class__") = some true)
/-- the built-in class above it -/
inductive Eb where
  | value | lookup
def Eb.new : Eb → String
  | .value => "ValueError.__new__"
  | .lookup => "LookupError.__new__"
def Eb.bm : Eb → List Value
  | .value => [.type "ValueError", .type "Exception", .type "BaseException", .type "object"]
  | .lookup => [.type "LookupError", .type "Exception", .type "BaseException", .type "object"]
def excXIn (b : Eb) (K : PySem.W.Frag) (C : Addr) : Bool := match K.lookup C with
  | some ⟨.type "type", _, .cls cd, sl⟩ => (match cd.mro, sl.toList with
    | .ref C' :: bm, [_, _, _, _, some (.builtin n), _] => C' == C && (n == b.new && (!cd.hasDel && (cd.hasDict && PySem.W.excTail b.bm bm)))
    | _, _ => false)
  | _ => false
def initA (K : PySem.W.Frag) (C : Str) : Addr := He.ma K (He.ga K C) "__init__"
/-- what isinstance asks of it -/
def exiB (C : Str) (K : PySem.W.Frag) : Bool := He.eqO (PySem.W.findIn K (.ref (He.ga K C)) "__getattribute__") (some (some (.builtin "BaseException.__getattribute__"))) && (He.eqO (PySem.W.findIn K (.ref (He.ga K C)) "__getattr__") (some none) &&
  (PySem.W.keepIn K (.ref (He.ga K C)) && (decide (PySem.W.subIn K (.ref (He.ga K C)) (.type "BaseException") = some true) && (decide (PySem.W.typeIn K (.ref (He.ga K C)) = some (.type "type")) && (PySem.W.hasDictIn K (He.ga K C) &&
  (He.eqO (PySem.W.findIn K (.ref (He.ga K C)) "__class__") (some (some (.builtin "object.__class__"))) && decide (PySem.W.mroIn K (He.ga K C) (.type "object") = some true)))))))
def excB (eb : Eb) (C f : Str) (K : PySem.W.Frag) : Bool := excXIn eb K (He.ga K C) && (He.eqO (PySem.W.findIn K (.ref (He.ga K C)) "__setattr__") (some (some (.builtin "object.__setattr__"))) &&
  (He.eqO (PySem.W.findIn K (.ref (He.ga K C)) f) (some none) && (He.eqO (PySem.W.findIn K (.ref (He.ga K C)) "__init__") (some (some (.ref (initA K C)))) && decide (PySem.W.typeIn K (.ref (initA K C)) = some (.type "function")))))
/-- a class of a name: own or built in -/
inductive Cn where
  | own (x : Str) | blt (t : String)
def Cn.v (K : PySem.W.Frag) : Cn → Value
  | .own x => .ref (He.ga K x)
  | .blt t => .type t
def exmB (C : Str) (x : Cn) (b : Bool) (K : PySem.W.Frag) : Bool := decide (PySem.W.exmOne K (.ref (He.ga K C)) (x.v K) = some b)
def kitHB (C : Str) (xs : List Cn) (b : Bool) (K : PySem.W.Frag) : Bool := decide (PySem.W.kitAny K (.ref (He.ga K C)) (xs.map (Cn.v K)) = some b)
end DL
namespace Law
open PySem PySem.Spec PyProof.Rows L2 DL
def topS (i : Nat) : Stmt := PySem.Challenge.pw_marktopples_k28_tables_counted.main.body.getD i (.Pass ⟨0, 0, 0, 0⟩)
abbrev s_sums_of : Stmt := topS 9
abbrev s_sum_between : Stmt := topS 10
abbrev s_count_tables : Stmt := topS 11
abbrev s__law_draws : Stmt := topS 13
abbrev s__law_next : Stmt := topS 14
abbrev s__law_tree : Stmt := topS 15
abbrev s__law_rows : Stmt := topS 16
abbrev s__law_falls : Stmt := topS 17
abbrev s__law_pushes : Stmt := topS 18
abbrev s__law_windows : Stmt := topS 19
abbrev s__law_tables : Stmt := topS 20
abbrev s__law_told : Stmt := topS 21
abbrev s__law_below : Stmt := topS 22
abbrev s__law_right : Stmt := topS 23
abbrev s_law : Stmt := topS 24
abbrev si_NoLast : Stmt := (cdBody (topS 7)).getD 0 (.Pass ⟨0, 0, 0, 0⟩)
abbrev si_TooLarge : Stmt := (cdBody (topS 3)).getD 0 (.Pass ⟨0, 0, 0, 0⟩)
set_option pp.maxSteps 300
set_option pp.deepTerms false
def hXs_0 : List (Str) := ["sums_of", "sum_between", "count_tables", "_law_draws", "_law_next", "_law_tree", "_law_rows", "_law_falls", "_law_pushes", "_law_windows", "_law_tables", "_law_told", "_law_below", "_law_right", "law", "NoLast", "FallError", "TooLarge", "BadPushes", "Conflict", "NoTable"]
def hXs : List (Str) := hXs_0
def hMs_0 : List (Str) := ["__init__"]
def hMs : List (Str) := hMs_0
def hCk_0 : List (PySem.W.Frag → Bool) := [fun K => (He.Fa.free "abs").ok K, fun K => (He.Fa.free "all").ok K, fun K => (He.Fa.free "any").ok K, fun K => (He.Fa.free "bool").ok K, fun K => (He.Fa.free "dict").ok K, fun K => (He.Fa.free "enumerate").ok K, fun K => (He.Fa.free "int").ok K, fun K => (He.Fa.free "isinstance").ok K, fun K => (He.Fa.free "len").ok K, fun K => (He.Fa.free "list").ok K, fun K => (He.Fa.free "max").ok K, fun K => (He.Fa.free "min").ok K, fun K => (He.Fa.free "range").ok K, fun K => (He.Fa.free "repr").ok K, fun K => (He.Fa.free "set").ok K, fun K => (He.Fa.free "sorted").ok K, fun K => (He.Fa.free "str").ok K, fun K => (He.Fa.free "sum").ok K, fun K => (He.Fa.free "tuple").ok K, fun K => (He.Fa.free "zip").ok K, fun K => (He.Fa.free "LookupError").ok K, fun K => (He.Fa.free "ValueError").ok K, fun K => (He.Fa.glo "sums_of").ok K, fun K => (He.Fa.glo "sum_between").ok K, fun K => (He.Fa.glo "count_tables").ok K, fun K => (He.Fa.glo "_law_draws").ok K, fun K => (He.Fa.glo "_law_next").ok K, fun K => (He.Fa.glo "_law_tree").ok K, fun K => (He.Fa.glo "_law_rows").ok K, fun K => (He.Fa.glo "_law_falls").ok K]
def hCk_1 : List (PySem.W.Frag → Bool) := [fun K => (He.Fa.glo "_law_pushes").ok K, fun K => (He.Fa.glo "_law_windows").ok K, fun K => (He.Fa.glo "_law_tables").ok K, fun K => (He.Fa.glo "_law_told").ok K, fun K => (He.Fa.glo "_law_below").ok K, fun K => (He.Fa.glo "_law_right").ok K, fun K => (He.Fa.glo "law").ok K, gsB, fun K => (He.Fa.int "SMALL_TICK" 300).ok K, fun K => (He.Fa.glo "NoLast").ok K, fun K => (He.Fa.glo "FallError").ok K, fun K => (He.Fa.glo "TooLarge").ok K, fun K => (He.Fa.glo "BadPushes").ok K, fun K => (He.Fa.glo "Conflict").ok K, fun K => (He.Fa.glo "NoTable").ok K, exiB "NoLast", excB .value "NoLast" "mark", exmB "NoLast" (.own "FallError") true, kitHB "NoLast" [.own "NoLast"] true, kitHB "NoLast" [.own "TooLarge"] false, kitHB "NoLast" [.own "BadPushes", .own "Conflict", .own "NoTable", .blt "LookupError"] false, exiB "TooLarge", excB .value "TooLarge" "bound", exmB "TooLarge" (.own "FallError") true, kitHB "TooLarge" [.own "NoLast"] false, kitHB "TooLarge" [.own "TooLarge"] true, kitHB "TooLarge" [.own "BadPushes", .own "Conflict", .own "NoTable", .blt "LookupError"] false]
def hCk : List (PySem.W.Frag → Bool) := hCk_0 ++ hCk_1
def hFn_0 : List (HDef) := [⟨fun K => He.ga K "sums_of", "sums_of", "sums_of", s_sums_of, [], []⟩, ⟨fun K => He.ga K "sum_between", "sum_between", "sum_between", s_sum_between, [], []⟩, ⟨fun K => He.ga K "count_tables", "count_tables", "count_tables", s_count_tables, [], []⟩, ⟨fun K => He.ga K "_law_draws", "_law_draws", "_law_draws", s__law_draws, [], []⟩, ⟨fun K => He.ga K "_law_next", "_law_next", "_law_next", s__law_next, [], []⟩, ⟨fun K => He.ga K "_law_tree", "_law_tree", "_law_tree", s__law_tree, [], []⟩, ⟨fun K => He.ga K "_law_rows", "_law_rows", "_law_rows", s__law_rows, [], []⟩, ⟨fun K => He.ga K "_law_falls", "_law_falls", "_law_falls", s__law_falls, [], []⟩, ⟨fun K => He.ga K "_law_pushes", "_law_pushes", "_law_pushes", s__law_pushes, [], []⟩, ⟨fun K => He.ga K "_law_windows", "_law_windows", "_law_windows", s__law_windows, [], []⟩, ⟨fun K => He.ga K "_law_tables", "_law_tables", "_law_tables", s__law_tables, [], []⟩, ⟨fun K => He.ga K "_law_told", "_law_told", "_law_told", s__law_told, [], []⟩, ⟨fun K => He.ga K "_law_below", "_law_below", "_law_below", s__law_below, [], []⟩, ⟨fun K => He.ga K "_law_right", "_law_right", "_law_right", s__law_right, [], []⟩, ⟨fun K => He.ga K "law", "law", "law", s_law, [], []⟩, ⟨fun K => initA K "NoLast", "__init__", "NoLast.__init__", si_NoLast, [], []⟩, ⟨fun K => initA K "TooLarge", "__init__", "TooLarge.__init__", si_TooLarge, [], []⟩]
def hFn : List (HDef) := hFn_0
def hTs_0 : List (He.Tab) := []
def hTs : List (He.Tab) := hTs_0
def hLm_0 : List (PySem.W.Frag → Addr) := []
def hLm : List (PySem.W.Frag → Addr) := hLm_0
def hLoose_0 : List (Str) := ["SMALL_TICK", "FallError", "TooLarge", "BadPushes", "NoTable", "Conflict", "NoLast", "sums_of", "sum_between", "count_tables", "_law_draws", "_law_next", "_law_tree", "_law_rows", "_law_falls", "_law_pushes", "_law_windows", "_law_tables", "_law_told", "_law_below", "_law_right"]
def hLoose : List (Str) := hLoose_0
abbrev hR : PySem.W.OpenRow := PySem.W.OpenLaw.row PySem.Challenge.rw_marktopples_k28_tables_counted
abbrev hHook : PySem.W.Hook := hookH hXs hMs hLm hCk hFn hTs
def hOb (s : PySem.W.SharedT) : AlH × Bool := obsHG hXs hMs hLm hCk hFn hTs (HandSHeadRun.getT s)
theorem hOb_eq (s : PySem.W.SharedT) : hOb s = hHook.obs s.abs := obsHG_eq (HandSHeadRun.getT_eq s)
theorem hRun (w : World) : HandSHeadRun.RunEq hR (PySem.W.view hR.prog [24]) hHook hOb 12000 hLoose w := by
  intro os
  kernel_rfl
end Law
namespace DL
open PySem PySem.Spec PyProof.Rows L2
/-- a datum: tuples, lists and dicts that nobody changes are trees; what is changed is a place in the store -/
inductive D where
  | non | bl (b : Bool) | int (i : Int) | str (x : Str)
  | tup (ds : List D) | lst (ds : List D) | dct (ks : List Key) (ds : List D) | ref (n : Nat) | scr (ns : List Int)
  | exo (a : Addr) (c : Value) (o : Option Addr) (ks : List Str) (ds : List D)
  | clo (f : Addr) (fo : List (Addr × HO)) (vs : List V) (ds : List D)
mutual
inductive Rp (K : PySem.W.Frag) (F : Hp) (al : List Addr) : V → D → Prop
  | non : Rp K F al .non .non
  | bl (b : Bool) : Rp K F al (.bl b) (.bl b)
  | int (i : Int) : Rp K F al (.int i) (.int i)
  | str (x : Str) : Rp K F al (.str x) (.str x)
  | tup {a : Addr} {xs : List V} {ds : List D} : F a = some (.tup xs) → Rps K F al xs ds → Rp K F al (.ref a) (.tup ds)
  | lst {a : Addr} {xs : List V} {ds : List D} : F a = some (.lst xs) → Rps K F al xs ds → Rp K F al (.ref a) (.lst ds)
  | dct {a : Addr} {ks : List Key} {xs : List V} {ds : List D} : F a = some (.dK (ks.zip xs)) → ks.length = xs.length → Rps K F al xs ds → Rp K F al (.ref a) (.dct ks ds)
  | ref {n : Nat} {a : Addr} : al[n]? = some a → Rp K F al (.ref a) (.ref n)
  | scr {a : Addr} {ns : List Int} : SqL K F a (ns.map V.int) → Rp K F al (.ref a) (.scr ns)
  | exo0 (a : Addr) (c : Value) : Rp K F al (.ref a) (.exo a c none [] [])
  | exo {a : Addr} {c : Value} {q : Addr} {ks : List Str} {xs : List V} {ds : List D} : F q = some (.xd (ks.zip xs)) → ks.length = xs.length → Rps K F al xs ds → Rp K F al (.ref a) (.exo a c (some q) ks ds)
  | clo {f : Addr} {fo : List (Addr × HO)} {vs : List V} {ds : List D} : (∀ p ∈ fo, F p.1 = some p.2) → Rps K F al vs ds → Rp K F al (.ref f) (.clo f fo vs ds)
inductive Rps (K : PySem.W.Frag) (F : Hp) (al : List Addr) : List V → List D → Prop
  | nil : Rps K F al [] []
  | cons {v : V} {vs : List V} {d : D} {ds : List D} : Rp K F al v d → Rps K F al vs ds → Rps K F al (v :: vs) (d :: ds)
end
/-- what stood stands -/
def Sm (H H' : Hp) : Prop := ∀ b o, H b = some o → H' b = some o
theorem Sm.refl (H : Hp) : Sm H H := fun _ _ h => h
theorem Sm.trans {H H1 H2 : Hp} (a : Sm H H1) (b : Sm H1 H2) : Sm H H2 := fun c o h => b c o (a c o h)
theorem Sm.rd {H H' : Hp} {a : Addr} {u : HO} (e : Sm H H') (h : Rd H a u) : Rd H' a u := by
  rcases h with h | ⟨o, h⟩
  · exact Or.inl (e a _ h)
  · exact Or.inr ⟨o, e a _ h⟩
theorem Sm.l {K : PySem.W.Frag} {H H' : Hp} {a : Addr} {xs : List V} (e : Sm H H') (h : SqL K H a xs) : SqL K H' a xs := by
  rcases h with h | h
  · exact Or.inl (e.rd h)
  · exact Or.inr h
theorem Sm.t {K : PySem.W.Frag} {H H' : Hp} {a : Addr} {xs : List V} (e : Sm H H') (h : SqT K H a xs) : SqT K H' a xs := by
  rcases h with h | h
  · exact Or.inl (e.rd h)
  · exact Or.inr h
theorem Sm.new {H : Hp} {p : Addr} {o : HO} (h : H p = none) : Sm H (upd H p o) := fun b u e => by
  rw [upd_ne (ne_of_none e h)]
  exact e
theorem Sm.free {H H' : Hp} (e : Sm H H') {l : Addr} (h : H' l = none) : H l = none := by
  cases q : H l with
  | none => rfl
  | some o => rw [e l o q] at h; cases h
structure Ext (al : List Addr) (F : Hp) (al' : List Addr) (F' : Hp) : Prop where
  al : ∃ be, al' = al ++ be
  sm : Sm F F'
theorem Ext.refl (al : List Addr) (F : Hp) : Ext al F al F := ⟨⟨[], by simp⟩, Sm.refl F⟩
theorem Ext.trans {al al1 al2 : List Addr} {F F1 F2 : Hp} (a : Ext al F al1 F1) (b : Ext al1 F1 al2 F2) : Ext al F al2 F2 := by
  obtain ⟨b1, e1⟩ := a.al
  obtain ⟨b2, e2⟩ := b.al
  exact ⟨⟨b1 ++ b2, by rw [e2, e1, List.append_assoc]⟩, a.sm.trans b.sm⟩
theorem Ext.get {al al' : List Addr} {F F' : Hp} (e : Ext al F al' F') {n : Nat} {a : Addr} (h : al[n]? = some a) : al'[n]? = some a := by
  obtain ⟨be, rfl⟩ := e.al
  rw [List.getElem?_append_left (List.getElem?_eq_some_iff.mp h).1]
  exact h
section
variable {K : PySem.W.Frag} {F F' : Hp} {al al' : List Addr}
mutual
theorem Rp.ext (e : Ext al F al' F') : ∀ {d : D} {v : V}, Rp K F al v d → Rp K F' al' v d
  | .non, _, h => by cases h; exact .non
  | .bl _, _, h => by cases h; exact .bl _
  | .int _, _, h => by cases h; exact .int _
  | .str _, _, h => by cases h; exact .str _
  | .tup _, _, h => by
    cases h with
    | tup a b => exact .tup (e.sm _ _ a) (Rps.ext e b)
  | .lst _, _, h => by
    cases h with
    | lst a b => exact .lst (e.sm _ _ a) (Rps.ext e b)
  | .dct _ _, _, h => by
    cases h with
    | dct a l b => exact .dct (e.sm _ _ a) l (Rps.ext e b)
  | .ref _, _, h => by
    cases h with
    | ref a => exact .ref (e.get a)
  | .scr _, _, h => by
    cases h with
    | scr a => exact .scr (e.sm.l a)
  | .exo _ _ _ _ _, _, h => by
    cases h with
    | exo0 => exact .exo0 _ _
    | exo a l b => exact .exo (e.sm _ _ a) l (Rps.ext e b)
  | .clo _ _ _ _, _, h => by
    cases h with
    | clo a b => exact .clo (fun p hp => e.sm _ _ (a p hp)) (Rps.ext e b)
theorem Rps.ext (e : Ext al F al' F') : ∀ {ds : List D} {vs : List V}, Rps K F al vs ds → Rps K F' al' vs ds
  | [], _, h => by cases h; exact .nil
  | _ :: _, _, h => by
    cases h with
    | cons a b => exact .cons (Rp.ext e a) (Rps.ext e b)
end
theorem Rps.length : ∀ {ds : List D} {vs : List V}, Rps K F al vs ds → vs.length = ds.length
  | [], _, h => by cases h; rfl
  | _ :: _, _, h => by
    cases h with
    | cons a b => rw [List.length_cons, List.length_cons, b.length]
theorem Rps.append : ∀ {ds es : List D} {vs us : List V}, Rps K F al vs ds → Rps K F al us es → Rps K F al (vs ++ us) (ds ++ es)
  | [], _, _, _, h, g => by cases h; exact g
  | _ :: _, _, _, _, h, g => by
    cases h with
    | cons a b => exact .cons a (b.append g)
theorem Rps.get : ∀ {ds : List D} {vs : List V} {i : Nat} {d : D}, Rps K F al vs ds → ds[i]? = some d → ∃ v, vs[i]? = some v ∧ Rp K F al v d
  | [], _, _, _, h, e => by simp at e
  | _ :: _, _, 0, _, h, e => by
    cases h with
    | cons a b => simp at e; subst e; exact ⟨_, rfl, a⟩
  | _ :: _, _, i + 1, d, h, e => by
    cases h with
    | cons a b =>
      obtain ⟨v, h1, h2⟩ := Rps.get (i := i) (d := d) b (by simpa using e)
      exact ⟨v, by simpa using h1, h2⟩
theorem Rps.set {v : V} {d : D} (h : Rp K F al v d) : ∀ {ds : List D} {vs : List V} (i : Nat), Rps K F al vs ds → Rps K F al (vs.set i v) (ds.set i d)
  | [], _, _, g => by cases g; exact .nil
  | _ :: _, _, 0, g => by
    cases g with
    | cons a b => exact .cons h b
  | _ :: _, _, i + 1, g => by
    cases g with
    | cons a b => exact .cons a (Rps.set h i b)
theorem Rps.take : ∀ {ds : List D} {vs : List V} (n : Nat), Rps K F al vs ds → Rps K F al (vs.take n) (ds.take n)
  | _, _, 0, _ => by simp; exact .nil
  | [], _, n + 1, h => by cases h; exact .nil
  | _ :: _, _, n + 1, h => by
    cases h with
    | cons a b => exact .cons a (Rps.take n b)
theorem Rps.drop : ∀ {ds : List D} {vs : List V} (n : Nat), Rps K F al vs ds → Rps K F al (vs.drop n) (ds.drop n)
  | _, _, 0, h => h
  | [], _, n + 1, h => by cases h; exact .nil
  | _ :: _, _, n + 1, h => by
    cases h with
    | cons a b => exact Rps.drop n b
theorem Rps.split : ∀ {ds es : List D} {vs : List V}, Rps K F al vs (ds ++ es) → ∃ us ws, vs = us ++ ws ∧ Rps K F al us ds ∧ Rps K F al ws es
  | [], es, vs, h => ⟨[], vs, rfl, .nil, h⟩
  | d :: ds, es, _, h => by
    cases h with
    | cons a b =>
      obtain ⟨us, ws, e, h1, h2⟩ := Rps.split b
      exact ⟨_ :: us, ws, by rw [e]; rfl, .cons a h1, h2⟩
theorem Rps.ints : ∀ {ns : List Int} {vs : List V}, Rps K F al vs (ns.map D.int) → vs = ns.map V.int
  | [], _, h => by cases h; rfl
  | n :: ns, _, h => by
    cases h with
    | cons a b => cases a; rw [b.ints]; rfl
theorem Rps.of_ints : ∀ {ns : List Int}, Rps K F al (ns.map V.int) (ns.map D.int)
  | [] => .nil
  | _ :: _ => .cons (.int _) .of_ints
end
inductive Cell where
  | lst (ds : List D) | ins (C : Addr) (fs : List (Str × D)) | gone
abbrev Sto := List Cell
def CellOk (K : PySem.W.Frag) (F : Hp) (al : List Addr) (H : Hp) (a : Addr) : Cell → Prop
  | .lst ds => ∃ xs, H a = some (.lst xs) ∧ Rps K F al xs ds
  | .ins C fs => ∃ dx vs, H a = some (.ins C dx vs) ∧ vs.map (·.1) = fs.map (·.1) ∧ Rps K F al (vs.map (·.2)) (fs.map (·.2))
  | .gone => ∃ o, H a = some o
theorem CellOk.some {K : PySem.W.Frag} {F : Hp} {al : List Addr} {H : Hp} {a : Addr} {c : Cell} (h : CellOk K F al H a c) : ∃ o, H a = some o := by
  cases c with
  | lst ds => obtain ⟨xs, e, _⟩ := h; exact ⟨_, e⟩
  | ins C fs => obtain ⟨dx, vs, e, _⟩ := h; exact ⟨_, e⟩
  | gone => exact h
theorem CellOk.ext {K : PySem.W.Frag} {F F' : Hp} {al al' : List Addr} {H H' : Hp} {a : Addr} {c : Cell} (h : CellOk K F al H a c) (e : Ext al F al' F') (s : H' a = H a) : CellOk K F' al' H' a c := by
  cases c with
  | lst ds => obtain ⟨xs, q, r⟩ := h; exact ⟨xs, s.trans q, r.ext e⟩
  | ins C fs => obtain ⟨dx, vs, q, n, r⟩ := h; exact ⟨dx, vs, s.trans q, n, r.ext e⟩
  | gone => obtain ⟨o, q⟩ := h; exact ⟨o, s.trans q⟩
/-- the table at P: each code object that it tells bears the name q -/
def TbOk (F H : Hp) (P : Addr) (q : Str) : Prop := ∃ ps : Array Value, H P = some (.tbl ps) ∧ TriplesOk ps.toList ∧ ∀ (pos : Pos) (cv : Value), codeAmong pos ps.toList = some cv → ∃ c, cv = .ref c ∧ F c = some (LamX.CodeO c q)
structure TbAt (al : List Addr) (F G H : Hp) (p : Addr × Str) : Prop where
  ok : TbOk F H p.1 p.2
  nf : F p.1 = none
  ng : G p.1 = none
  na : p.1 ∉ al
def Tb (K : PySem.W.Frag) (al : List Addr) (F G H : Hp) : Prop := ∀ p ∈ Tk K, TbAt al F G H p
theorem TbOk.to {F F' H H' : Hp} {P : Addr} {q : Str} (t : TbOk F H P q) (h : H' P = H P) (s : Sm F F') : TbOk F' H' P q := by
  obtain ⟨ps, h1, h2, h3⟩ := t
  exact ⟨ps, h.trans h1, h2, fun pos cv e => let ⟨c, e1, e2⟩ := h3 pos cv e; ⟨c, e1, s _ _ e2⟩⟩
theorem Tb.to {K : PySem.W.Frag} {al al' : List Addr} {F F' G G' H H' : Hp} (t : Tb K al F G H) (s : Sm F F') (h : ∀ P, (∃ o, H P = some o) → F P = none → G P = none → P ∉ al → H' P = H P ∧ F' P = none ∧ G' P = none ∧ P ∉ al') : Tb K al' F' G' H' := fun p hp => by
  have z := t p hp
  obtain ⟨ps, h1, _⟩ := z.ok
  obtain ⟨a, b, c, d⟩ := h p.1 ⟨_, h1⟩ z.nf z.ng z.na
  exact ⟨z.ok.to a s, b, c, d⟩
theorem ne_some {H : Hp} {p P : Addr} (h : H p = none) (e : ∃ o, H P = some o) : P ≠ p := fun z => by
  obtain ⟨o, e⟩ := e
  rw [z, h] at e
  cases e
/-- F: what nobody changes; G: what others hold and is left alone; al: the places of the store -/
structure Wd (K : PySem.W.Frag) (al : List Addr) (F G H : Hp) (M : Sto) : Prop where
  sm : Sm F H
  sg : Sm G H
  fg : ∀ a o, G a = some o → F a = none ∧ a ∉ al
  len : al.length = M.length
  nd : al.Nodup
  out : ∀ a ∈ al, F a = none
  cel : ∀ (n : Nat) (c : Cell) (a : Addr), M[n]? = some c → al[n]? = some a → CellOk K F al H a c
  tb : Tb K al F G H
section
variable {K : PySem.W.Frag} {F F' G H : Hp} {al : List Addr} {M : Sto}
theorem Wd.has (W : Wd K al F G H M) {a : Addr} (h : a ∈ al) : ∃ o, H a = some o := by
  obtain ⟨n, hn, e⟩ := List.getElem_of_mem h
  have hm : n < M.length := by rw [← W.len]; exact hn
  exact (W.cel n M[n] a (List.getElem?_eq_getElem hm) (by rw [List.getElem?_eq_getElem hn, e])).some
theorem Wd.notin (W : Wd K al F G H M) {p : Addr} (h : H p = none) : p ∉ al := fun q => by
  obtain ⟨o, e⟩ := W.has q
  rw [e] at h
  cases h
/-- a new object that nobody will change -/
theorem Wd.newF (W : Wd K al F G H M) {p : Addr} {o : HO} (h : H p = none) : Wd K al (upd F p o) G (upd H p o) M ∧ Ext al F al (upd F p o) := by
  have e : Ext al F al (upd F p o) := ⟨⟨[], by simp⟩, Sm.new (W.sm.free h)⟩
  refine ⟨⟨fun b u q => ?_, W.sg.trans (Sm.new h), fun a u q => ⟨?_, (W.fg a u q).2⟩, W.len, W.nd, fun a q => ?_, fun n c a q r => ?_, W.tb.to e.sm fun P x f g y => ⟨upd_ne (ne_some h x), (upd_ne (ne_some h x)).trans f, g, y⟩⟩, e⟩
  · by_cases hb : b = p
    · subst hb; rw [upd_same] at q ⊢; exact q
    · rw [upd_ne hb] at q ⊢; exact W.sm b u q
  · rw [upd_ne (ne_of_none (W.sg a u q) h)]
    exact (W.fg a u q).1
  · rw [upd_ne (show a ≠ p from fun z => W.notin h (z ▸ q))]
    exact W.out a q
  · exact (W.cel n c a q r).ext e (upd_ne fun z => W.notin h (z ▸ List.mem_of_getElem? r))
/-- a new object of the store -/
theorem Wd.newM (W : Wd K al F G H M) {p : Addr} {o : HO} {c : Cell} (h : H p = none) (hc : CellOk K F (al ++ [p]) (upd H p o) p c) : Wd K (al ++ [p]) F G (upd H p o) (M ++ [c]) ∧ Ext al F (al ++ [p]) F := by
  have e : Ext al F (al ++ [p]) F := ⟨⟨[p], rfl⟩, Sm.refl F⟩
  refine ⟨⟨W.sm.trans (Sm.new h), W.sg.trans (Sm.new h), fun a u q => ⟨(W.fg a u q).1, fun z => ?_⟩, by simp [W.len], ?_, fun a q => ?_, fun n d a q r => ?_, W.tb.to e.sm fun P x f g y => ⟨upd_ne (ne_some h x), f, g, fun z => (List.mem_append.mp z).elim y fun z => ne_some h x (by simpa using z)⟩⟩, e⟩
  · rcases List.mem_append.mp z with z | z
    · exact (W.fg a u q).2 z
    · have z' : a = p := by simpa using z
      subst z'
      rw [W.sg a u q] at h
      cases h
  · rw [List.nodup_append]
    refine ⟨W.nd, by simp, fun a ha b hb => ?_⟩
    have hb' : b = p := by simpa using hb
    subst hb'
    exact fun z => W.notin h (z ▸ ha)
  · rcases List.mem_append.mp q with q | q
    · exact W.out a q
    · have q' : a = p := by simpa using q
      subst q'
      exact W.sm.free h
  · by_cases hn : n < M.length
    · rw [List.getElem?_append_left hn] at q
      rw [List.getElem?_append_left (by rw [W.len]; exact hn)] at r
      exact (W.cel n d a q r).ext e (upd_ne fun z => W.notin h (z ▸ List.mem_of_getElem? r))
    · have hn' : n = M.length := by
        have := (List.getElem?_eq_some_iff.mp q).1
        rw [List.length_append, List.length_singleton] at this
        omega
      subst hn'
      rw [List.getElem?_append_right (Nat.le_refl _)] at q
      rw [← W.len, List.getElem?_append_right (Nat.le_refl _)] at r
      simp at q r
      subst q
      subst r
      exact hc
/-- an object of the store changed -/
theorem Wd.write (W : Wd K al F G H M) {n : Nat} {a : Addr} {o : HO} {c : Cell} (h : al[n]? = some a) (hc : CellOk K F al (upd H a o) a c) : Wd K al F G (upd H a o) (M.set n c) := by
  have ha : a ∈ al := List.mem_of_getElem? h
  refine ⟨fun b u q => ?_, fun b u q => ?_, W.fg, by rw [List.length_set]; exact W.len, W.nd, W.out, fun m d b q r => ?_, W.tb.to (Sm.refl F) fun P x f g y => ⟨upd_ne fun z => y (z ▸ ha), f, g, y⟩⟩
  · rw [upd_ne (fun z => by subst z; rw [W.out _ ha] at q; cases q)]
    exact W.sm b u q
  · rw [upd_ne (show b ≠ a from fun z => (W.fg b u q).2 (z ▸ ha))]
    exact W.sg b u q
  · by_cases hm : m = n
    · subst hm
      rw [h] at r
      cases r
      rw [List.getElem?_set_self (by rw [← W.len]; exact (List.getElem?_eq_some_iff.mp h).1)] at q
      cases q
      exact hc
    · rw [List.getElem?_set_ne (Ne.symm hm)] at q
      refine (W.cel m d b q r).ext (Ext.refl al F) (upd_ne fun z => hm ?_)
      subst z
      obtain ⟨h1, e1⟩ := List.getElem?_eq_some_iff.mp r
      obtain ⟨h2, e2⟩ := List.getElem?_eq_some_iff.mp h
      exact (List.getElem_inj W.nd).mp (e1.trans e2.symm)
/-- the places behind k are forgotten -/
theorem Wd.take (W : Wd K al F G H M) (k : Nat) (hc : ∀ (n : Nat) (c : Cell) (a : Addr), n < k → M[n]? = some c → al[n]? = some a → CellOk K F (al.take k) H a c) : Wd K (al.take k) F G H (M.take k) := by
  refine ⟨W.sm, W.sg, fun a o q => ⟨(W.fg a o q).1, fun z => (W.fg a o q).2 (List.mem_of_mem_take z)⟩, by simp [W.len], W.nd.sublist (List.take_sublist k al), fun a q => W.out a (List.mem_of_mem_take q), fun n c a q r => ?_, W.tb.to (Sm.refl F) fun P x f g y => ⟨rfl, f, g, fun z => y (List.mem_of_mem_take z)⟩⟩
  have hn : n < k := by
    have := (List.getElem?_eq_some_iff.mp q).1
    rw [List.length_take] at this
    omega
  rw [List.getElem?_take_of_lt hn] at q r
  exact hc n c a hn q r
/-- the frame grows by an object that the store doesn't know -/
theorem Wd.hide (W : Wd K al F G H M) {p : Addr} {o : HO} (h : H p = none) : Wd K al F (upd G p o) (upd H p o) M := by
  refine ⟨W.sm.trans (Sm.new h), fun b u q => ?_, fun a u q => ?_, W.len, W.nd, W.out, fun n c a q r => ?_, W.tb.to (Sm.refl F) fun P x f g y => ⟨upd_ne (ne_some h x), f, (upd_ne (ne_some h x)).trans g, y⟩⟩
  · by_cases hb : b = p
    · subst hb; rw [upd_same] at q ⊢; exact q
    · rw [upd_ne hb] at q ⊢; exact W.sg b u q
  · by_cases hb : a = p
    · subst hb; exact ⟨W.sm.free h, W.notin h⟩
    · rw [upd_ne hb] at q; exact W.fg a u q
  · exact (W.cel n c a q r).ext (Ext.refl al F) (upd_ne fun z => W.notin h (z ▸ List.mem_of_getElem? r))
/-- a framed object changes -/
theorem Wd.rehide {p : Addr} {o : HO} (W : Wd K al F (upd G p o) H M) {o' : HO} : Wd K al F (upd G p o') (upd H p o') M := by
  have hp := W.fg p o upd_same
  have np : ∀ P, upd G p o P = none → P ≠ p := fun P g z => by rw [z, upd_same] at g; cases g
  refine ⟨fun b u q => ?_, fun b u q => ?_, fun a u q => ?_, W.len, W.nd, W.out, fun n c a q r => ?_, W.tb.to (Sm.refl F) fun P x f g y => ⟨upd_ne (np P g), f, (upd_ne (np P g)).trans ((upd_ne (np P g)).symm.trans g), y⟩⟩
  · rw [upd_ne (fun z => by subst z; rw [hp.1] at q; cases q)]
    exact W.sm b u q
  · by_cases hb : b = p
    · subst hb; rw [upd_same] at q ⊢; exact q
    · rw [upd_ne hb] at q ⊢
      exact W.sg b u (by rw [upd_ne hb]; exact q)
  · by_cases hb : a = p
    · subst hb; exact hp
    · rw [upd_ne hb] at q
      exact W.fg a u (by rw [upd_ne hb]; exact q)
  · exact (W.cel n c a q r).ext (Ext.refl al F) (upd_ne fun z => hp.2 (z ▸ List.mem_of_getElem? r))
/-- a framed object is given to what nobody changes -/
theorem Wd.thaw {p : Addr} {o : HO} (W : Wd K al F (upd G p o) H M) (hg : G p = none) : Wd K al (upd F p o) G H M ∧ Ext al F al (upd F p o) := by
  have hp := W.fg p o upd_same
  have e : Ext al F al (upd F p o) := ⟨⟨[], by simp⟩, Sm.new hp.1⟩
  refine ⟨⟨fun b u q => ?_, fun b u q => W.sg b u (Sm.new hg b u q), fun a u q => ?_, W.len, W.nd, fun a q => ?_, fun n c a q r => (W.cel n c a q r).ext e rfl, W.tb.to e.sm fun P x f g y => ⟨rfl, (upd_ne fun z => by rw [z, upd_same] at g; cases g).trans f, by rw [upd_ne fun z => by rw [z, upd_same] at g; cases g] at g; exact g, y⟩⟩, e⟩
  · by_cases hb : b = p
    · subst hb; rw [upd_same] at q; cases q; exact W.sg _ _ upd_same
    · rw [upd_ne hb] at q; exact W.sm b u q
  · have hn : a ≠ p := fun z => by subst z; rw [hg] at q; cases q
    rw [upd_ne hn]
    exact W.fg a u (Sm.new hg a u q)
  · rw [upd_ne (show a ≠ p from fun z => hp.2 (z ▸ q))]
    exact W.out a q
end
abbrev DK := D → Sto → Prop
abbrev DXK := Value → List (Str × D) → Sto → Prop
abbrev DXS := Value → List (Str × D) → List (Option D) → Sto → Prop
@[reducible] def noX : DXS := fun _ _ _ _ => False
/-- the slots, and what is wished of an exception -/
structure Dn where
  v : List (Option D)
  x : DXS
abbrev DTE := Dn → Sto → DK → Prop
abbrev DTT := Dn → Sto → (Bool → Sto → Prop) → Prop
abbrev DTA := Dn → Sto → (List D → Sto → Prop) → Prop
structure Sl (K : PySem.W.Frag) (F : Hp) (al : List Addr) (σ : L2.St) (ρ : List (Option D)) : Prop where
  len : σ.length = ρ.length
  get : ∀ (i : Nat) (d : D), ρ[i]? = some (some d) → ∃ v, σ[i]? = some (some v) ∧ Rp K F al v d
theorem Sl.ext {K : PySem.W.Frag} {F F' : Hp} {al al' : List Addr} {σ : L2.St} {ρ : List (Option D)} (h : Sl K F al σ ρ) (e : Ext al F al' F') : Sl K F' al' σ ρ :=
  ⟨h.len, fun i d q => let ⟨v, a, b⟩ := h.get i d q; ⟨v, a, b.ext e⟩⟩
theorem Sl.set {K : PySem.W.Frag} {F : Hp} {al : List Addr} {σ : L2.St} {ρ : List (Option D)} (h : Sl K F al σ ρ) {v : V} {d : D} (r : Rp K F al v d) (i : Nat) : Sl K F al (σ.set i (some v)) (ρ.set i (some d)) := by
  refine ⟨by rw [List.length_set, List.length_set]; exact h.len, fun j e q => ?_⟩
  by_cases hj : i = j
  · subst hj
    have hl : i < ρ.length := by
      have := (List.getElem?_eq_some_iff.mp q).1
      rwa [List.length_set] at this
    rw [List.getElem?_set_self hl] at q
    cases q
    exact ⟨v, by rw [List.getElem?_set_self (by rw [h.len]; exact hl)], r⟩
  · rw [List.getElem?_set_ne hj] at q
    obtain ⟨u, a, b⟩ := h.get j e q
    exact ⟨u, by rw [List.getElem?_set_ne hj]; exact a, b⟩
/-- the fields of an exception: at o its dict -/
def FldOk (K : PySem.W.Frag) (F : Hp) (al : List Addr) (o : Option Addr) (fs : List (Str × D)) : Prop := (o = none ∧ fs = []) ∨ ∃ a vs, o = some a ∧ F a = some (.xd vs) ∧ vs.map (·.1) = fs.map (·.1) ∧ Rps K F al (vs.map (·.2)) (fs.map (·.2))
/-- the class of an exception that has a context, as a wish tells it -/
def ctxd (C : Addr) : Value := .int (C : Int) 0
/-- one that nobody tells with a context -/
def NoC (W : WX) : Prop := ∀ (C : Addr) (d : Option Addr) (σ : L2.St) (H : Hp), ¬ W (ctxd C) d σ H
def ctxW (W : WX) : WX := fun c d σ H => ∃ C : Addr, c = .ref C ∧ W (ctxd C) d σ H
def TakesC (X : Cx) (W : WX) : Prop := L2.Takes X (ctxW W)
def isX (c : Value) (d : Option Addr) (σ : L2.St) (H : Hp) : WX := fun c' d' σ' H' => c' = c ∧ d' = d ∧ σ' = σ ∧ H' = H
def plainC (c : Value) : Prop := ∀ C : Addr, c ≠ ctxd C
theorem plain_ref (C : Addr) : plainC (.ref C) := fun _ h => nomatch h
def plainW (W : WX) : WX := fun c d σ H => plainC c ∧ W c d σ H
/-- what the surroundings take of an exception -/
def W0 (X : Cx) : WX := fun c d σ H => (plainC c → L2N.Takes X (isX c d σ H)) ∧ ∀ C : Addr, c = ctxd C → L2.Takes X (isX (.ref C) d σ H)
theorem takesW (X : Cx) : L2N.Takes X (plainW (W0 X)) := fun u s' ⟨a, B, sI, pins, σ, H, cls, d, e, I, nb, up, sky, na, os, ag, p, w⟩ => w.1 p u s' ⟨a, B, sI, pins, σ, H, cls, d, e, I, nb, up, sky, na, os, ag, rfl, rfl, rfl, rfl⟩
theorem takesC (X : Cx) : TakesC X (W0 X) := fun u s' ⟨a, B, sI, pins, σ, H, cls, d, e, I, nb, up, sky, na, os, ag, C, ec, w⟩ => w.2 C rfl u s' ⟨a, B, sI, pins, σ, H, cls, d, e, I, nb, up, sky, na, os, ag, ec, rfl, rfl, rfl⟩
theorem W0.of2 {X : Cx} {W : WX} (t : L2N.Takes X (plainW W)) (tc : TakesC X W) {c : Value} {d : Option Addr} {σ : L2.St} {H : Hp} (h : W c d σ H) : W0 X c d σ H :=
  ⟨fun p => t.imp fun c' d' σ' H' e => by obtain ⟨rfl, rfl, rfl, rfl⟩ := e; exact ⟨p, h⟩, fun C ec => tc.imp fun c' d' σ' H' e => by obtain ⟨rfl, rfl, rfl, rfl⟩ := e; subst ec; exact ⟨C, rfl, h⟩⟩
theorem NoC.takes {X : Cx} {W : WX} (n : NoC W) : TakesC X W := fun _ _ ⟨_, _, _, _, _, _, _, _, _, _, _, _, _, _, _, _, C, _, w⟩ => (n C _ _ _ w).elim
theorem W0.of {X : Cx} {W : WX} (t : L2N.Takes X W) (n : NoC W) {c : Value} {d : Option Addr} {σ : L2.St} {H : Hp} (h : W c d σ H) : W0 X c d σ H := W0.of2 (t.imp fun _ _ _ _ z => z.2) n.takes h
/-- behind a call that let an exception out, with a context or without -/
def CXd (P : Program) (w : World) : CXT := fun outer H s E u s' => L2N.CX P w outer H s (fun c d H' => plainC c ∧ E c d H') u s' ∨ L2.CX P w outer H s (fun c d H' => ∃ C : Addr, c = .ref C ∧ E (ctxd C) d H') u s'
theorem passD' {X : Cx} {W : WX} (tk : L2N.Takes X (plainW W)) (tc : TakesC X W) (σ : L2.St) : PassesAt (CXd X.prog X.w) X σ (WE W σ) := fun pins H s e s' I c => by
  rcases c with c | c
  · exact tk e s' (L2N.XE.of_call I (fun _ _ _ h => h) c)
  · exact tc e s' (L2.XE.of_call I (fun _ _ _ h => h) c)
theorem passD (X : Cx) (σ : L2.St) : PassesAt (CXd X.prog X.w) X σ (WE (W0 X) σ) := passD' (takesW X) (takesC X) σ
theorem takes_ofD {X : Cx} {E : XK} (hs : X.stack = X.env :: X.outer) (hf : X.env.frame = some X.env.locals) (hex : X.ex = []) {E₁ : Value → Shared → Prop}
    (hx : X.xe = fun e s' => wpAny (model X.prog X.w) X.A (leaving X.env e) (fun _ s'' => CXd X.prog X.w X.outer X.H_0 X.s_0 E e s'') E₁ s') : L2N.Takes X (plainW fun cls d _ H => E cls d H) ∧ TakesC X (fun cls d _ H => E cls d H) := by
  constructor
  · intro u s' x
    rw [hx]
    exact wpAny_mono (L2N.XE.leave (W := plainW fun cls d _ H => E cls d H) (E := fun c d H' => plainC c ∧ E c d H') hs hf hex (fun _ _ _ _ h => h) x) (fun _ _ z => .inl z) fun _ _ z => z
  · intro u s' x
    rw [hx]
    exact wpAny_mono (L2.XE.leave (W := ctxW fun cls d _ H => E cls d H) (E := fun c d H' => ∃ C : Addr, c = .ref C ∧ E (ctxd C) d H') hs hf hex (fun _ _ _ _ h => h) x) (fun _ _ z => .inr z) fun _ _ z => z
theorem cx_noD {P : Program} {w : World} {outer : List Env} {H : Hp} {s : Shared} {u : Value} {s' : Shared} (h : CXd P w outer H s (fun _ _ _ => False) u s') : False := by
  rcases h with ⟨_, _, _, _, _, _, _, _, _, _, _, _, _, z⟩ | ⟨_, _, _, _, _, _, _, _, _, _, _, _, _, _, z⟩
  · exact z
  · exact z
def Xo (X : Cx) (al : List Addr) (F G : Hp) (x : DXS) : Prop := ∀ c fs vs M' al' F' H' o σ', Ext al F al' F' → Wd X.K al' F' G H' M' → Sl X.K F' al' σ' vs → FldOk X.K F' al' o fs → x c fs vs M' → W0 X c o σ' H'
theorem Xo.ext {X : Cx} {al al1 : List Addr} {F F1 G : Hp} {x : DXS} (h : Xo X al F G x) (e : Ext al F al1 F1) : Xo X al1 F1 G x := fun c fs vs M' al' F' H' o σ' e' => h c fs vs M' al' F' H' o σ' (e.trans e')
structure Es (X : Cx) (F G : Hp) (al : List Addr) (σ : L2.St) (ρ : Dn) : Prop where
  sl : Sl X.K F al σ ρ.v
  xo : Xo X al F G ρ.x
theorem Es.get {X : Cx} {F G : Hp} {al : List Addr} {σ : L2.St} {ρ : Dn} (h : Es X F G al σ ρ) : ∀ (i : Nat) (d : D), ρ.v[i]? = some (some d) → ∃ v, σ[i]? = some (some v) ∧ Rp X.K F al v d := h.sl.get
theorem Es.ext {X : Cx} {F F' G : Hp} {al al' : List Addr} {σ : L2.St} {ρ : Dn} (h : Es X F G al σ ρ) (e : Ext al F al' F') : Es X F' G al' σ ρ := ⟨h.sl.ext e, h.xo.ext e⟩
theorem Es.set {X : Cx} {F G : Hp} {al : List Addr} {σ : L2.St} {ρ : Dn} (h : Es X F G al σ ρ) {v : V} {d : D} (r : Rp X.K F al v d) (i : Nat) : Es X F G al (σ.set i (some v)) ⟨ρ.v.set i (some d), ρ.x⟩ := ⟨h.sl.set r i, h.xo⟩
theorem Es.of {X : Cx} {F F' G : Hp} {al al' : List Addr} {σ σ' : L2.St} {ρ ρ' : Dn} (h : Es X F G al σ ρ) (e : Ext al F al' F') (s : Sl X.K F' al' σ' ρ'.v) (q : ρ'.x = ρ.x) : Es X F' G al' σ' ρ' := ⟨s, by rw [q]; exact h.xo.ext e⟩
theorem Es.none {X : Cx} {F G : Hp} {al : List Addr} {σ : L2.St} {ρ : Dn} (s : Sl X.K F al σ ρ.v) (q : ρ.x = noX) : Es X F G al σ ρ := ⟨s, by rw [q]; exact fun _ _ _ _ _ _ _ _ _ _ _ _ _ z => z.elim⟩
/-- what follows, as data -/
def kont (K : PySem.W.Frag) (al : List Addr) (F G : Hp) (Q : VK) : DK := fun d M' => ∀ al' F' H' v, Ext al F al' F' → Wd K al' F' G H' M' → Rp K F' al' v d → Q v H'
def kontB (K : PySem.W.Frag) (al : List Addr) (F G : Hp) (Q : Bool → Hp → Prop) : Bool → Sto → Prop := fun b M' => ∀ al' F' H', Ext al F al' F' → Wd K al' F' G H' M' → Q b H'
def kontA (K : PySem.W.Frag) (al : List Addr) (F G : Hp) (Q : List V → Hp → Prop) : List D → Sto → Prop := fun ds M' => ∀ al' F' H' vs, Ext al F al' F' → Wd K al' F' G H' M' → Rps K F' al' vs ds → Q vs H'
theorem kont.ext {K : PySem.W.Frag} {al al1 : List Addr} {F F1 G : Hp} {Q : VK} {d : D} {M : Sto} (h : kont K al F G Q d M) (e : Ext al F al1 F1) : kont K al1 F1 G Q d M :=
  fun al' F' H' v e' W r => h al' F' H' v (e.trans e') W r
def Lift (X : Cx) (f : DTE) : TE := fun σ H Q => ∃ ρ M al F G, Wd X.K al F G H M ∧ Es X F G al σ ρ ∧ f ρ M (kont X.K al F G Q)
def LiftT (X : Cx) (f : DTT) : TT := fun σ H Q => ∃ ρ M al F G, Wd X.K al F G H M ∧ Es X F G al σ ρ ∧ f ρ M (kontB X.K al F G Q)
def LiftA (X : Cx) (f : DTA) : TA := fun σ H Q => ∃ ρ M al F G, Wd X.K al F G H M ∧ Es X F G al σ ρ ∧ f ρ M (kontA X.K al F G Q)
structure DE (X : Cx) (e : Expr) (f : DTE) : Prop where
  pe : PE X e (Lift X f)
  mono : ∀ ρ M (Q Q' : DK), (∀ d M, Q d M → Q' d M) → f ρ M Q → f ρ M Q'
structure DT (X : Cx) (e : Expr) (f : DTT) : Prop where
  pt : PT X e (LiftT X f)
  mono : ∀ ρ M (Q Q' : Bool → Sto → Prop), (∀ d M, Q d M → Q' d M) → f ρ M Q → f ρ M Q'
structure DW (X : Cx) (e : Expr) (f : DTT) : Prop where
  pw : PW X e (LiftT X f)
  mono : ∀ ρ M (Q Q' : Bool → Sto → Prop), (∀ d M, Q d M → Q' d M) → f ρ M Q → f ρ M Q'
structure DA (X : Cx) (es : List Expr) (f : DTA) : Prop where
  pa : PA X es (LiftA X f)
  mono : ∀ ρ M (Q Q' : List D → Sto → Prop), (∀ d M, Q d M → Q' d M) → f ρ M Q → f ρ M Q'
theorem PE.of {X : Cx} {e : Expr} {t t' : TE} (h : PE X e t) (w : ∀ σ H Q, t' σ H Q → t σ H Q) : PE X e t' := ⟨fun pins s σ H Q I q => h.run pins s σ H Q I (w σ H Q q)⟩
theorem PT.of {X : Cx} {e : Expr} {t t' : TT} (h : PT X e t) (w : ∀ σ H Q, t' σ H Q → t σ H Q) : PT X e t' := ⟨fun pins s σ H Q I q => h.run pins s σ H Q I (w σ H Q q)⟩
theorem PW.of {X : Cx} {e : Expr} {t t' : TT} (h : PW X e t) (w : ∀ σ H Q, t' σ H Q → t σ H Q) : PW X e t' := ⟨fun wh pins s σ H Q I q => h.run wh pins s σ H Q I (w σ H Q q)⟩
theorem PA.of {X : Cx} {e : List Expr} {t t' : TA} (h : PA X e t) (w : ∀ σ H Q, t' σ H Q → t σ H Q) : PA X e t' := ⟨fun pos pins s σ H Q I q => h.run pos pins s σ H Q I (w σ H Q q)⟩
theorem PS.of {X : Cx} {e : Stmt} {t t' : TS} (h : PS X e t) (w : ∀ E σ H, t' E σ H → t E σ H) : PS X e t' := ⟨fun pins s σ H E I q => h.run pins s σ H E I (w E σ H q)⟩
theorem PSs.of {X : Cx} {e : List Stmt} {t t' : TS} (h : PSs X e t) (w : ∀ E σ H, t' E σ H → t E σ H) : PSs X e t' := ⟨fun pins s σ H E I q => h.run pins s σ H E I (w E σ H q)⟩
section
variable {X : Cx}
/-- first a part, then what follows -/
theorem DE.seq {e : Expr} {f : DTE} (h : DE X e f) {ρ : Dn} {M : Sto} {al : List Addr} {F G H : Hp} {σ : L2.St} {R : DK} {P : VK} (W : Wd X.K al F G H M) (s : Es X F G al σ ρ) (q : f ρ M R)
    (k : ∀ d M1 al1 F1 H1 v, R d M1 → Ext al F al1 F1 → Wd X.K al1 F1 G H1 M1 → Rp X.K F1 al1 v d → Es X F1 G al1 σ ρ → P v H1) : Lift X f σ H P :=
  ⟨ρ, M, al, F, G, W, s, h.mono _ _ _ _ (fun d M1 r al1 F1 H1 v e W1 rp => k d M1 al1 F1 H1 v r e W1 rp (s.ext e)) q⟩
theorem DT.seq {e : Expr} {f : DTT} (h : DT X e f) {ρ : Dn} {M : Sto} {al : List Addr} {F G H : Hp} {σ : L2.St} {R : Bool → Sto → Prop} {P : Bool → Hp → Prop} (W : Wd X.K al F G H M) (s : Es X F G al σ ρ) (q : f ρ M R)
    (k : ∀ d M1 al1 F1 H1, R d M1 → Ext al F al1 F1 → Wd X.K al1 F1 G H1 M1 → Es X F1 G al1 σ ρ → P d H1) : LiftT X f σ H P :=
  ⟨ρ, M, al, F, G, W, s, h.mono _ _ _ _ (fun d M1 r al1 F1 H1 e W1 => k d M1 al1 F1 H1 r e W1 (s.ext e)) q⟩
theorem DA.seq {e : List Expr} {f : DTA} (h : DA X e f) {ρ : Dn} {M : Sto} {al : List Addr} {F G H : Hp} {σ : L2.St} {R : List D → Sto → Prop} {P : List V → Hp → Prop} (W : Wd X.K al F G H M) (s : Es X F G al σ ρ) (q : f ρ M R)
    (k : ∀ d M1 al1 F1 H1 v, R d M1 → Ext al F al1 F1 → Wd X.K al1 F1 G H1 M1 → Rps X.K F1 al1 v d → Es X F1 G al1 σ ρ → P v H1) : LiftA X f σ H P :=
  ⟨ρ, M, al, F, G, W, s, h.mono _ _ _ _ (fun d M1 r al1 F1 H1 v e W1 rp => k d M1 al1 F1 H1 v r e W1 rp (s.ext e)) q⟩
@[reducible] def dVar (i : Nat) : DTE := fun ρ M Q => match ρ.v[i]? with
  | some (some d) => Q d M
  | _ => False
@[reducible] def dC (d : D) : DTE := fun _ M Q => Q d M
theorem d_var (i : Nat) {x : Str} {pos : Pos} (hN : X.N[i]? = some x) (hv : Vis X.env.scope x) (hd : (x == ("__debug__" : Str)) = false := by decide) (hcd : (x == ("__classdict__" : Str)) = false := by decide) : DE X (.Name x pos) (dVar i) := by
  refine ⟨PE.of (pe_var hN hv hd hcd) fun σ H Q ⟨ρ, M, al, F, G, W, s, q⟩ => ?_, fun ρ M Q Q' w q => ?_⟩
  · unfold dVar at q
    split at q
    · next d e =>
      obtain ⟨v, h1, h2⟩ := s.get i d e
      exact ⟨v, h1, q al F H v (Ext.refl _ _) W h2⟩
    · exact q.elim
  · unfold dVar at q ⊢
    split at q
    · next d e => exact w _ _ q
    · exact q.elim
theorem d_const {e : Expr} {v : V} {d : D} (h : PE X e (tC v)) (r : ∀ F al, Rp X.K F al v d) : DE X e (dC d) :=
  ⟨PE.of h fun _ H _ ⟨_, _, al, F, _, W, _, q⟩ => q al F H v (Ext.refl _ _) W (r F al), fun _ _ _ _ w q => w _ _ q⟩
theorem d_int {i j pos} : DE X (.Constant (.int i) j pos) (dC (.int i)) := d_const pe_int fun _ _ => .int i
theorem d_bl {b j pos} : DE X (.Constant (.bool b) j pos) (dC (.bl b)) := d_const pe_bl fun _ _ => .bl b
theorem d_non {j pos} : DE X (.Constant .none j pos) (dC .non) := d_const pe_non fun _ _ => .non
theorem d_str {x j pos} : DE X (.Constant (.str x) j pos) (dC (.str x)) := d_const pe_str fun _ _ => .str x
/-- a module's constant int -/
theorem d_glob {x : Str} {i : Int} {t : Tok} {pos : Pos} (hg : Gl X x) (hm : X.mg x = some (.int i t)) (hd : (x == ("__debug__" : Str)) = false := by decide) : DE X (.Name x pos) (dC (.int i)) :=
  d_const (pe_glob (v := .int i) hg hm ⟨t, rfl⟩ hd) fun _ _ => .int i
abbrev G2 := D → D → Sto → DK → Prop
abbrev G1 := D → Sto → DK → Prop
abbrev GN := List D → Sto → DK → Prop
def Mono2 (g : G2) : Prop := ∀ x y M (Q Q' : DK), (∀ d M, Q d M → Q' d M) → g x y M Q → g x y M Q'
def Mono1 (g : G1) : Prop := ∀ x M (Q Q' : DK), (∀ d M, Q d M → Q' d M) → g x M Q → g x M Q'
def MonoN (g : GN) : Prop := ∀ x M (Q Q' : DK), (∀ d M, Q d M → Q' d M) → g x M Q → g x M Q'
/-- a two-place operation of the machine, by data -/
structure O2 (X : Cx) (f : Value → Value → Sem Value) (g : G2) : Prop where
  run : ∀ (pins : List (Addr × Obj)) (s : Shared) (σ : L2.St) (al : List Addr) (F G H : Hp) (M : Sto) (x y : V) (v u : Value) (dx dy : D) (Q : VK), Inv X pins σ H s → RelV x v → RelV y u → Wd X.K al F G H M → Rp X.K F al x dx → Rp X.K F al y dy →
    g dx dy M (kont X.K al F G Q) → wpAny (model X.prog X.w) X.A (f v u) (EP X pins σ Q) X.xe s
  mono : Mono2 g
structure O1 (X : Cx) (f : Value → Sem Value) (g : G1) : Prop where
  run : ∀ (pins : List (Addr × Obj)) (s : Shared) (σ : L2.St) (al : List Addr) (F G H : Hp) (M : Sto) (x : V) (v : Value) (dx : D) (Q : VK), Inv X pins σ H s → RelV x v → Wd X.K al F G H M → Rp X.K F al x dx →
    g dx M (kont X.K al F G Q) → wpAny (model X.prog X.w) X.A (f v) (EP X pins σ Q) X.xe s
  mono : Mono1 g
/-- a call of a value, by data -/
structure ON (X : Cx) (f : Value) (g : GN) : Prop where
  run : ∀ (pins : List (Addr × Obj)) (s : Shared) (σ : L2.St) (al : List Addr) (F G H : Hp) (M : Sto) (xs : List V) (us : List Value) (ds : List D) (Q : VK), Inv X pins σ H s → Vals xs us → Wd X.K al F G H M → Rps X.K F al xs ds →
    g ds M (kont X.K al F G Q) → wpAny (model X.prog X.w) X.A (call f us) (EP X pins σ Q) X.xe s
  mono : MonoN g
@[reducible] def dBin (g : G2) (fa fb : DTE) : DTE := fun ρ M Q => fa ρ M fun x M1 => fb ρ M1 fun y M2 => g x y M2 Q
@[reducible] def dUn (g : G1) (fa : DTE) : DTE := fun ρ M Q => fa ρ M fun x M1 => g x M1 Q
@[reducible] def dNil : DTA := fun _ M Q => Q [] M
@[reducible] def dCons (fa : DTE) (fr : DTA) : DTA := fun ρ M Q => fa ρ M fun x M1 => fr ρ M1 fun xs M2 => Q (x :: xs) M2
@[reducible] def dApp (g : GN) (fa : DTA) : DTE := fun ρ M Q => fa ρ M fun xs M1 => g xs M1 Q
variable {a b c : Expr} {fa fb fc : DTE} {pos : Pos}
theorem dBin_mono {g : G2} (hg : Mono2 g) (ha : DE X a fa) (hb : DE X b fb) : ∀ ρ M (Q Q' : DK), (∀ d M, Q d M → Q' d M) → dBin g fa fb ρ M Q → dBin g fa fb ρ M Q' :=
  fun ρ M Q Q' w q => ha.mono _ _ _ _ (fun x M1 q1 => hb.mono _ _ _ _ (fun y M2 q2 => hg x y M2 Q Q' w q2) q1) q
/-- the two operands' run, then the operation -/
theorem bin2 {g : G2} {f : Value → Value → Sem Value} (ho : O2 X f g) (ha : DE X a fa) (hb : DE X b fb) {pins : List (Addr × Obj)} {s : Shared} {σ : L2.St} {H : Hp} {Q : VK} (I : Inv X pins σ H s) (h : Lift X (dBin g fa fb) σ H Q) :
    wpAny (model X.prog X.w) X.A (eval a X.env) (fun v s₁ => wpAny (model X.prog X.w) X.A (eval b X.env) (fun u s₂ => wpAny (model X.prog X.w) X.A (f v u) (EP X pins σ Q) X.xe s₂) X.xe s₁) X.xe s := by
  obtain ⟨ρ, M, al, F, G, W, es, q⟩ := h
  refine bin ha.pe hb.pe (R := fun x y H2 => ∃ dx dy M2 al2 F2, Wd X.K al2 F2 G H2 M2 ∧ Rp X.K F2 al2 x dx ∧ Rp X.K F2 al2 y dy ∧ g dx dy M2 (kont X.K al2 F2 G Q)) I ?_ fun v u s2 x y H2 I2 rx ry h2 => ?_
  · refine ha.seq W es q fun dx M1 al1 F1 H1 v q1 e1 W1 r1 s1 => ?_
    refine hb.seq W1 s1 q1 fun dy M2 al2 F2 H2 u q2 e2 W2 r2 s2 => ?_
    exact ⟨dx, dy, M2, al2, F2, W2, r1.ext e2, r2, ho.mono _ _ _ _ _ (fun d M3 k => k.ext (e1.trans e2)) q2⟩
  · obtain ⟨dx, dy, M2, al2, F2, W2, r1, r2, k⟩ := h2
    exact ho.run pins s2 σ al2 F2 G H2 M2 x y v u dx dy Q I2 rx ry W2 r1 r2 k
theorem d_op {op : Operator} {g : G2} (ho : O2 X (binaryOp op) g) (ha : DE X a fa) (hb : DE X b fb) : DE X (.BinOp a op b pos) (dBin g fa fb) :=
  ⟨⟨fun pins s σ H Q I h => wpAny_BinOp (bin2 ho ha hb I h)⟩, dBin_mono ho.mono ha hb⟩
theorem d_cmp {op : CmpOp} {g : G2} (ho : O2 X (compareOp op) g) (ha : DE X a fa) (hb : DE X b fb) (hm : behindInMarks op b = false := by first | exact nobehind _ (by decide) (by decide) | rfl) : DE X (.Compare a [op] [b] pos) (dBin g fa fb) :=
  ⟨⟨fun pins s σ H Q I h => wpAny_Compare1 (bin2 ho ha hb I h) hm⟩, dBin_mono ho.mono ha hb⟩
theorem d_un {op : UnaryOp} {g : G1} (ho : O1 X (unaryOp op) g) (ha : DE X a fa) : DE X (.UnaryOp op a pos) (dUn g fa) := by
  refine ⟨⟨fun pins s σ H Q I h => ?_⟩, fun ρ M Q Q' w q => ha.mono _ _ _ _ (fun x M1 q1 => ho.mono x M1 Q Q' w q1) q⟩
  obtain ⟨ρ, M, al, F, G, W, es, q⟩ := h
  have hl : Lift X fa σ H (fun x H1 => ∃ dx M1 al1 F1, Wd X.K al1 F1 G H1 M1 ∧ Rp X.K F1 al1 x dx ∧ g dx M1 (kont X.K al1 F1 G Q)) :=
    ha.seq W es q fun dx M1 al1 F1 H1 v q1 e1 W1 r1 s1 => ⟨dx, M1, al1, F1, W1, r1, ho.mono _ _ _ _ (fun d M3 k => k.ext e1) q1⟩
  refine UnaryOp_ (thn (ha.pe.run pins s σ H _ I hl) fun v s1 ⟨x, H1, I1, rx, dx, M1, al1, F1, W1, r1, k⟩ => ?_)
  exact ho.run pins s1 σ al1 F1 G H1 M1 x v dx Q I1 rx W1 r1 k
theorem d_nil : DA X [] dNil := ⟨PA.of pa_nil fun _ H _ ⟨_, _, al, F, _, W, _, q⟩ => q al F H [] (Ext.refl _ _) W .nil, fun _ _ _ _ w q => w _ _ q⟩
theorem d_cons {es : List Expr} {fr : DTA} (ha : DE X a fa) (hr : DA X es fr) (hs : starEach (a :: es) X.env = (false, eval a X.env) :: starEach es X.env := by rfl) : DA X (a :: es) (dCons fa fr) := by
  refine ⟨PA.of (pa_cons ha.pe hr.pa hs) fun σ H Q ⟨ρ, M, al, F, G, W, es, q⟩ => ?_, fun ρ M Q Q' w q => ha.mono _ _ _ _ (fun x M1 q1 => hr.mono _ _ _ _ (fun y M2 q2 => w _ _ q2) q1) q⟩
  refine ha.seq W es q fun dx M1 al1 F1 H1 v q1 e1 W1 r1 s1 => ?_
  refine hr.seq W1 s1 q1 fun dy M2 al2 F2 H2 u q2 e2 W2 r2 s2 => ?_
  exact q2 al2 F2 H2 _ (e1.trans e2) W2 (.cons (r1.ext e2) r2)
/-- the value-rules of the layer, as data-rules -/
theorem O2.of {f : Value → Value → Sem Value} {r : R2} {g : G2} (h : OpR X f r) (m : Mono2 g)
    (k : ∀ al F G H M x y dx dy Q, Wd X.K al F G H M → Rp X.K F al x dx → Rp X.K F al y dy → g dx dy M (kont X.K al F G Q) → r x y H Q) : O2 X f g :=
  ⟨fun pins s σ al F G H M x y v u dx dy Q I rx ry W r1 r2 q => h pins s σ H x y v u Q I rx ry (k al F G H M x y dx dy Q W r1 r2 q), m⟩
theorem ON.of {f : Value} {r : List V → Hp → VK → Prop} {g : GN} (h : CallR X f r) (m : MonoN g)
    (k : ∀ al F G H M xs ds Q, Wd X.K al F G H M → Rps X.K F al xs ds → g ds M (kont X.K al F G Q) → r xs H Q) : ON X f g :=
  ⟨fun pins s σ al F G H M xs us ds Q I rx W r1 q => h pins s σ H xs us Q I rx (k al F G H M xs ds Q W r1 q), m⟩
end
end DL
namespace DL
open PySem PySem.Spec PyProof.Rows L2
/-- a def keeps its promise, wherever no repr is under way -/
structure FnG (P : Program) (w : World) (K : PySem.W.Frag) (mg : Str → Option Value) (base : Heap) (CX : CXT) (k : Nat) (f : Addr) (fd : FuncData) (ps : List Str) (sp : Sp) : Prop where
  len : ∀ vs H Q E, sp vs H Q E → vs.length = ps.length
  run : ∀ (A : Around) (outer : List Env) (s : Shared) (H : Hp) (args : Args) (us : List Value) (vs : List V) (Q : VK) (E : XK), A.guards = some [] → Room k A → Env0 P w K mg base A outer s H → BindsTo s fd args (ps.zip us) → Vals vs us →
    sp vs H Q E → codeAny (model P w) A (Code.call (Value.ref f) args) (CR CX outer P w H s Q E) s
theorem FnG.mono {P : Program} {w : World} {K : PySem.W.Frag} {mg : Str → Option Value} {base : Heap} {CX : CXT} {j k : Nat} {f : Addr} {fd : FuncData} {ps : List Str} {sp : Sp} (h : FnG P w K mg base CX j f fd ps sp) (le : j ≤ k) : FnG P w K mg base CX k f fd ps sp :=
  ⟨h.len, fun A outer s H args us vs Q E hg hr => h.run A outer s H args us vs Q E hg (hr.mono le)⟩
section
variable {P : Program} {w : World} {K : PySem.W.Frag} {mg : Str → Option Value} {base : Heap}
theorem fnG_of {CX : CXT} {k : Nat} {f : Addr} {x qual : Str} {st : Stmt} {fd : FuncData} {N ps : List Str} {sp : Sp} (F : Fun K x qual st f fd) (S : FnScope N ps (defScope st)) (len : ∀ vs H Q E, sp vs H Q E → vs.length = ps.length)
    (body : ∀ (cdv : Value), fd.code = cdv → ∀ (A : Around) (outer : List Env) (s : Shared) (H : Hp) (vs : List V) (Q : VK) (E : XK), (A.deeper (envOfC qual (defScope st) s.heap.objs.size f cdv)).guards = some [] → Room k (A.deeper (envOfC qual (defScope st) s.heap.objs.size f cdv)) → sp vs H Q E →
      ∃ t, PSs (cxOf CX P w K mg base N qual (defScope st) f cdv A outer s H E) (defBody st) t ∧ t { nx := fun _ H' => Q .non H', rt := Q } (start N vs) H) : FnG P w K mg base CX (k + 1) f fd ps sp := by
  obtain ⟨oc, od, kV, doc, pm, an, cdv, ct, osl, rfl, lk, hcd⟩ := F.ex
  refine ⟨len, fun A outer s H args us vs Q E hgd hr e0 hbi rv hsp => ?_⟩
  have KI : K.In s.heap := e0.mod.kin.keeps fun b o e => (e0.bs b o e).1
  have nolim : s.heap.NoLimit := e0.mod.nolimit.keeps fun b o e => (e0.bs b o e).1
  have kinds : ∀ y ∈ ps.zip us, (defScope st).names.lookup y.1 = some .local ∨ ((defScope st).names.lookup y.1 = some .cell ∧ ((cellsFrom (s.heap.objs.size + 1) (defScope st).names []).lookup y.1).isSome = true) := by
    rintro ⟨n, v⟩ hy
    exact (S.par n (List.of_mem_zip hy).1).imp id fun q => ⟨q, PySem.W.cellsFrom_some _ _ _ (.inl q)⟩
  refine codeAny_call_function hr.depth (KI _ _ lk) rfl S.co S.gen rfl (PySem.W.codeRec_of KI hcd) (hbi _ _ _ _ (wpAny_newFunctionEnv_cells S.kind kinds fun env henv s1 ic => ?_))
  subst henv
  refine ⟨nolim.keeps ic.toInCall.keep, codeAny_func ?_⟩
  obtain ⟨t, pt, tq⟩ := body cdv rfl A outer s H vs Q E hgd (hr.deeper _) hsp
  have J0 : Inv (cxOf CX P w K mg base N qual (defScope st) f cdv A outer s H E) [] (start N vs) H s1 := inv_start S hr.hd e0 (len _ _ _ _ hsp) rv ic
  refine wpAny_mono (pt.run [] s1 (start N vs) H _ J0 tq) (fun fl s' z => ?_) fun _ _ z => z
  cases fl with
  | ret u => obtain ⟨v, σ', H', J, r, q⟩ := z; exact ⟨v, H', J.os, J.bare, J.base, J.hok, r, q⟩
  | next => obtain ⟨σ', H', J, q⟩ := z; exact ⟨V.non, H', J.os, J.bare, J.base, J.hok, rfl, q⟩
  | brk => obtain ⟨_, _, _, q⟩ := z; exact q.elim
  | cont => obtain ⟨_, _, _, q⟩ := z; exact q.elim
end
section
variable {X : Cx} {CX : CXT} {k : Nat} {f : Addr} {fd : FuncData} {ps : List Str} {sp : Sp} {dvs : List V} {dds : List Value} {E : XK}
theorem runGS {pins : List (Addr × Obj)} {σ : L2.St} {H : Hp} {s : Shared} {Q : VK} {us : List Value} {vs : List V} {E : L2.St → XK} (F : FnG X.prog X.w X.K X.mg X.base CX k f fd ps sp) (hgd : X.A.guards = some []) (hr : Room k X.A) (hb : Binds X.K fd ps dds) (hd : Vals dvs dds) (hx : PassesAt CX X σ (E σ))
    (I : Inv X pins σ H s) (r : Vals vs us) (h : sp (vs ++ dvs) H Q (E σ)) : wpAny (model X.prog X.w) X.A (call (.ref f) us) (EP X pins σ Q) X.xe s := by
  have rr : Vals (vs ++ dvs) (us ++ dds) := r.append hd
  have ll : (us ++ dds).length = ps.length := rr.length.symm.trans (F.len _ _ _ _ h)
  refine wpAny_call (codeAny_mono (F.run X.A X.stack s H ⟨us, []⟩ _ _ Q (E σ) hgd hr I.env0 (hb s us I.kIn ll) rr h) fun res s' z => ?_)
  match res, z with
  | .error e, z => exact hx pins H s e s' I z
  | .ok (.ret u), z => exact I.after z
  | .ok .next, z => exact z.elim
  | .ok .brk, z => exact z.elim
  | .ok .cont, z => exact z.elim
/-- a call whose exceptions are told with the slots -/
def tCallSD' (sp : Sp) (dvs : List V) (E : L2.St → XK) (t : TA) : TE := fun σ H Q => t σ H fun vs H1 => sp (vs ++ dvs) H1 Q (E σ)
theorem peG_callS {x : Str} {p pos : Pos} {e : Expr} {es : List Expr} {t : TA} {E : L2.St → XK} (F : FnG X.prog X.w X.K X.mg X.base CX k f fd ps sp) (hgd : X.A.guards = some []) (hr : Room k X.A) (hg : Gl X x) (hm : X.mg x = some (.ref f)) (hk : PySem.W.keepIn X.K (.ref f) = true) (hb : Binds X.K fd ps dds) (hd : Vals dvs dds) (hx : ∀ σ, PassesAt CX X σ (E σ))
    (ha : PA X (e :: es) t) (hdb : (x == ("__debug__" : Str)) = false := by decide) (he : starEach (e :: es) X.env = (false, eval e X.env) :: starEach es X.env := by rfl) (hpl : (backTo pos (starEach es X.env)).any (·.1) = false := by rfl) :
    PE X (.Call (.Name x p) (e :: es) [] pos) (tCallSD' sp dvs E t) :=
  ⟨fun pins s σ H Q I h => wpAny_Call_Name_kw (ld_glob I hg hm (PySem.W.callWith_K (h₀ := X.base) I.ok.mod.kin hk (thn (ha.run pos pins s σ H _ I h) fun us s1 ⟨vs, H1, I1, r, q⟩ => ⟨I1.kIn, runGS F hgd hr hb hd (hx σ) I1 r q⟩) he hpl) hdb)⟩
end
theorem law_callG {P : Program} {w : World} {K : PySem.W.Frag} {mg mb : Str → Option Value} {CX : CXT} {k : Nat} {fa a : Addr} {fd : FuncData} {x : Str} {sp : Sp} {t0 : Shared} {vs : List Value} {ns : List Int}
    (KI : K.In t0.heap) (hglob : t0.heap.Ns mainGlobals mg) (hblt : t0.heap.Ns builtinsNs mb) (hbo : ∀ x : Str, x ≠ "__name__" → mb x = bootBuiltins x) (hlim : t0.heap.NoLimit) (hgen : t0.gens = #[])
    (ha : t0.heap.get? a = some { cls := .type "list", data := .seq vs.toArray }) (hi : IntsAre vs ns) (hl : ns.length ≤ sizeLine) (hr : Room k callerA) (TH : TabsH K t0.heap)
    (F : ∀ base : Heap, K.In base → base.Ns mainGlobals mg → FnG P w K mg base CX k fa fd [x] sp) (hbind : ∀ (s : Shared) (u : Value), BindsTo s fd ⟨[u], []⟩ [(x, u)])
    (hsp : ∀ H : Hp, (∀ p ∈ Tk K, H p.1 = some (.tbl #[])) → SqL K H a (ns.map V.int) → sp [.ref a] H (fun v _ => v = .bl true) fun _ _ _ => False)
    (hCX : ∀ H e s', CX [] H t0 (fun _ _ _ => False) e s' → False) :
    codeAny (model P w) callerA (.call (.ref fa) ⟨[.ref a], []⟩) (fun r s' => r = .ok (.ret (.bool true)) ∧ OldK t0.heap s'.heap ∧ s'.os = t0.os ∧ AllBare s'.gens) t0 := by
  let tb : Addr → Bool := fun b => (Tk K).any fun p => decide (p.1 = b)
  have tbE : ∀ b, tb b = true → ∃ p ∈ Tk K, p.1 = b := fun b h => by
    obtain ⟨p, hp, e⟩ := List.any_eq_true.mp h
    exact ⟨p, hp, of_decide_eq_true e⟩
  have tbI : ∀ p ∈ Tk K, tb p.1 = true := fun p hp => List.any_eq_true.mpr ⟨p, hp, decide_eq_true rfl⟩
  have tbO : ∀ b, tb b = true → t0.heap.get? b = some { cls := .none, data := .fields #[] } := fun b h => by
    obtain ⟨p, hp, rfl⟩ := tbE b h
    exact (TH p hp).1
  have tba : tb a = false := by
    cases h : tb a with
    | false => rfl
    | true =>
      have e := tbO a h
      rw [ha] at e
      have z : Data.seq vs.toArray _ = Data.fields #[] := congrArg Obj.data (Option.some.inj e)
      exact nomatch z
  have key : ∀ H : Hp, (∀ p ∈ Tk K, H p.1 = some (.tbl #[])) → (∀ b, tb b = false → H b = none ∨ ∃ o xs, H b = some (.frz o (.lst xs))) → SqL K H a (ns.map V.int) → HOk P w H t0.heap → (∀ b, H b ≠ none → b = a ∨ tb b = true) → (H a ≠ none → K.lookup a = none) →
      codeAny (model P w) callerA (.call (.ref fa) ⟨[.ref a], []⟩) (fun r s' => r = .ok (.ret (.bool true)) ∧ OldK t0.heap s'.heap ∧ s'.os = t0.os ∧ AllBare s'.gens) t0 := by
    intro H hH hO hS hok hA hK
    have free : ∀ {b : Addr} {o : Obj} {es : Array DictEntry} {ep : Nat}, t0.heap.get? b = some o → o.data = .dict es ep → H b = none := by
      intro b o es ep e d
      cases q : H b with
      | none => rfl
      | some u =>
        rcases hA b (by rw [q]; simp) with z | z
        · subst z
          rw [ha] at e
          cases e
          exact absurd (show Data.seq vs.toArray _ = Data.dict es ep from d) (fun y => nomatch y)
        · rw [tbO b z] at e
          cases e
          exact absurd (show Data.fields #[] = Data.dict es ep from d) (fun y => nomatch y)
    have nsH : ∀ {b : Addr} {m : Str → Option Value}, t0.heap.Ns b m → (hidT t0.heap H).Ns b m := fun {b m} ⟨o, es, ep, e, d, r⟩ => ⟨o, es, ep, hidT_get e (free e d), d, r⟩
    have KH : K.In (hidT t0.heap H) := by
      intro b o e
      refine hidT_get (KI b o e) ?_
      cases q : H b with
      | none => rfl
      | some u =>
        rcases hA b (by rw [q]; simp) with z | z
        · subst z
          have := hK (by rw [q]; simp)
          rw [this] at e
          cases e
        · obtain ⟨p, hp, rfl⟩ := tbE b z
          rw [(TH p hp).2.1] at e
          cases e
    obtain ⟨mc, l1, l2⟩ := hlim
    have md : Mod K mg (hidT t0.heap H) := ⟨KH, nsH hglob, ⟨mb, nsH hblt, hbo⟩, mc, nsH l1, l2⟩
    have e0 : Env0 P w K mg (hidT t0.heap H) callerA [] t0 H := ⟨rfl, md, fun b o e => of_hidT e, Nat.le_of_eq (hidT_size _ _), trivial, fun b z => (List.not_mem_nil z).elim, hok, .of_eq hgen⟩
    refine codeAny_mono ((F _ KH (nsH hglob)).run callerA [] t0 H ⟨[.ref a], []⟩ [.ref a] [.ref a] _ _ rfl hr e0 (hbind t0 (.ref a)) (.cons rfl .nil) (hsp H hH hS)) fun res s' z => ?_
    match res, z with
    | .error e, z => exact (hCX H e s' z).elim
    | .ok .next, z => exact z.elim
    | .ok .brk, z => exact z.elim
    | .ok .cont, z => exact z.elim
    | .ok (.ret u), z =>
      obtain ⟨v, H', os, bare, un, hok', r', q⟩ := z
      obtain rfl : v = .bl true := q
      obtain rfl : u = Value.bool true := r'
      have old : ∀ b o, tb b = false → t0.heap.get? b = some o → s'.heap.get? b = some o := fun b o nb e => by
        cases y : H b with
        | none => exact un.keep b o e y (fun z => (List.not_mem_nil z).elim) List.not_mem_nil
        | some u =>
          rcases hO b nb with n | ⟨ob, xs, n⟩
          · rw [y] at n; cases n
          · have c1 := (hok b _ n).1
            have c2 := (hok' b _ (un.frzs b ob _ n)).1
            rw [e] at c1
            cases c1
            exact c2
      have grew : ∀ p ∈ Tk K, ∃ more : Array Value, s'.heap.get? p.1 = some { cls := .none, data := .fields (#[] ++ more) } := fun p hp => by
        obtain ⟨more, z⟩ := un.tbls p.1 #[] (hH p hp)
        exact ⟨more, hok' p.1 _ z⟩
      refine ⟨rfl, ⟨fun b o e => ?_, fun b o e => ?_⟩, os, bare⟩
      · cases hb : tb b with
        | false => exact .inl (old b o hb e)
        | true =>
          obtain ⟨p, hp, rfl⟩ := tbE b hb
          obtain ⟨t1, _, c, t3⟩ := TH p hp
          obtain ⟨more, g⟩ := grew p hp
          rw [t1] at e
          cases e
          exact .inr (.inl ⟨((PySem.W.codeHd_of_K KI t3).tab t1).isCodeTable, rfl, #[], more, rfl, g⟩)
      · cases hb : tb b with
        | false => exact ⟨o, old b o hb e⟩
        | true =>
          obtain ⟨p, hp, rfl⟩ := tbE b hb
          obtain ⟨more, g⟩ := grew p hp
          exact ⟨_, g⟩
  cases hk : K.lookup a with
  | some o =>
    have e := KI a o hk
    rw [ha] at e
    cases e
    refine key (fun b => if tb b = true then some (.tbl #[]) else none) (fun p hp => if_pos (tbI p hp)) (fun b nb => .inl (if_neg (by rw [nb]; exact Bool.false_ne_true))) (.inr ⟨_, vs.toArray, _, hk, rfl, rfl, rfl, by rw [List.size_toArray, hi.length]; exact hl, by simpa using vals_ints hi⟩) (fun b u z => ?_) (fun b z => ?_) (fun z => absurd (if_neg (by rw [tba]; exact Bool.false_ne_true)) z)
    · dsimp only at z
      split at z
      · next hb =>
        cases z
        exact tbO b hb
      · cases z
    · cases hb : tb b with
      | true => exact .inr rfl
      | false => exact absurd (if_neg (by rw [hb]; exact Bool.false_ne_true)) z
  | none =>
    let ob : Obj := { cls := .type "list", data := .seq vs.toArray }
    have na : ∀ b, tb b = true → b ≠ a := fun b hb z => by rw [z, tba] at hb; cases hb
    refine key (upd (fun b => if tb b = true then some (.tbl #[]) else none) a (.frz ob (.lst (ns.map V.int)))) (fun p hp => (upd_ne (na _ (tbI p hp))).trans (if_pos (tbI p hp))) (fun b nb => ?_) (.inl (.inr ⟨ob, upd_same⟩)) (fun b u z => ?_) (fun b z => ?_) fun _ => hk
    · by_cases hb : b = a
      · subst hb; exact .inr ⟨_, _, upd_same⟩
      · exact .inl ((upd_ne hb).trans (if_neg (by rw [nb]; exact Bool.false_ne_true)))
    · by_cases hb : b = a
      · subst hb
        rw [upd_same] at z
        cases z
        exact ⟨ha, by rw [List.length_map]; exact hl, vs, _, vals_ints hi, ha⟩
      · rw [upd_ne hb] at z
        split at z
        · next hb2 =>
          cases z
          exact tbO b hb2
        · cases z
    · by_cases hb : b = a
      · exact .inl hb
      · cases hb2 : tb b with
        | true => exact .inr rfl
        | false =>
          rw [upd_ne hb] at z
          exact absurd (if_neg (by rw [hb2]; exact Bool.false_ne_true)) z
theorem cx_no {P : Program} {w : World} {outer : List Env} {H : Hp} {s : Shared} {u : Value} {s' : Shared} (h : CXd P w outer H s (fun _ _ _ => False) u s') : False := cx_noD h
end DL
namespace DL
open PySem PySem.Spec PyProof.Rows L2
@[reducible] def gTru : D → Sto → (Bool → Sto → Prop) → Prop
  | .non, M, Q => Q false M
  | .bl b, M, Q => Q b M
  | .int i, M, Q => Q (i != 0) M
  | .str x, M, Q => x.length ≤ sizeLine ∧ Q ((x.length : Int) != 0) M
  | .tup ds, M, Q => Q (!ds.isEmpty) M
  | .lst ds, M, Q => Q (!ds.isEmpty) M
  | .ref n, M, Q => match M[n]? with
    | some (.lst ds) => Q (!ds.isEmpty) M
    | _ => False
  | _, _, _ => False
@[reducible] def dTru (f : DTE) : DTT := fun ρ M Q => f ρ M fun d M1 => gTru d M1 Q
theorem gTru_mono (d : D) (M : Sto) (Q Q' : Bool → Sto → Prop) (w : ∀ b M, Q b M → Q' b M) (h : gTru d M Q) : gTru d M Q' := by
  cases d with
  | non => exact w _ _ h
  | bl b => exact w _ _ h
  | int i => exact w _ _ h
  | str x => exact ⟨h.1, w _ _ h.2⟩
  | tup ds => exact w _ _ h
  | lst ds => exact w _ _ h
  | dct ks ds => exact h.elim
  | scr ns => exact h.elim
  | exo a c o ks ds => exact h.elim
  | clo f fo vs ds => exact h.elim
  | ref n =>
    unfold gTru at h ⊢
    dsimp only at h ⊢
    split at h
    · exact w _ _ h
    · exact h.elim
theorem isEmpty_len {α β : Type} {xs : List α} {ys : List β} (h : xs.length = ys.length) : (!xs.isEmpty) = (!ys.isEmpty) := by
  cases xs <;> cases ys <;> simp at h <;> rfl
theorem gTru_ok {K : PySem.W.Frag} {al : List Addr} {F G H : Hp} {M : Sto} {v : V} {d : D} {Q : Bool → Hp → Prop} (W : Wd K al F G H M) (r : Rp K F al v d) (h : gTru d M (kontB K al F G Q)) : ∃ k, TruV K v H k ∧ Q k H := by
  cases r with
  | non => exact ⟨false, rfl, h al F H (Ext.refl _ _) W⟩
  | bl b => exact ⟨b, rfl, h al F H (Ext.refl _ _) W⟩
  | int i => exact ⟨_, rfl, h al F H (Ext.refl _ _) W⟩
  | str x => exact ⟨_, ⟨h.1, rfl⟩, h.2 al F H (Ext.refl _ _) W⟩
  | tup a b => exact ⟨_, .inr (.inl ⟨_, SqT.of (W.sm _ _ a), (isEmpty_len b.length).symm⟩), h al F H (Ext.refl _ _) W⟩
  | lst a b => exact ⟨_, .inl ⟨_, SqL.of (W.sm _ _ a), (isEmpty_len b.length).symm⟩, h al F H (Ext.refl _ _) W⟩
  | dct a l b => exact h.elim
  | scr a => exact h.elim
  | exo0 => exact h.elim
  | exo a l b => exact h.elim
  | clo a b => exact h.elim
  | ref a =>
    unfold gTru at h
    dsimp only at h
    split at h
    · next ds e =>
      obtain ⟨xs, q, rs⟩ := W.cel _ _ _ e a
      exact ⟨_, .inl ⟨xs, SqL.of q, (isEmpty_len rs.length).symm⟩, h al F H (Ext.refl _ _) W⟩
    · exact h.elim
section
variable {X : Cx} {a b c : Expr} {fa fb fc : DTE} {pos : Pos} {ta tb : DTT} {rest : List Expr}
/-- any expression as a test -/
theorem dt_val (h : DE X a fa) (he : ∀ whole, isTrue a X.env whole = (do let v ← whole; standAt a.pos; holding [v] (truthy v)) := by intro _; rfl) : DT X a (dTru fa) := by
  refine ⟨PT.of (pt_truth h.pe he) fun σ H Q ⟨ρ, M, al, F, G, W, es, q⟩ => ?_, fun ρ M Q Q' w q => h.mono _ _ _ _ (fun d M1 q1 => gTru_mono d M1 Q Q' w q1) q⟩
  refine h.seq W es q fun d M1 al1 F1 H1 v q1 e1 W1 r1 s1 => ?_
  exact gTru_ok W1 r1 (gTru_mono _ _ _ _ (fun b M2 k al' F' H' e' W' => k al' F' H' (e1.trans e') W') q1)
@[reducible] def dBl (f : DTE) : DTT := fun ρ M Q => f ρ M fun d M1 => match d with
  | .bl b => Q b M1
  | _ => False
theorem dBl_mono (h : DE X a fa) : ∀ ρ M (Q Q' : Bool → Sto → Prop), (∀ d M, Q d M → Q' d M) → dBl fa ρ M Q → dBl fa ρ M Q' := fun ρ M Q Q' w q => h.mono _ _ _ _ (fun d M1 q1 => by
  cases d <;> first | exact w _ _ q1 | exact q1.elim) q
/-- a comparison as a test -/
theorem dt_cmp {op : CmpOp} {g : G2} (ho : O2 X (compareOp op) g) (ha : DE X a fa) (hb : DE X b fb) (hm : behindInMarks op b = false := by first | exact nobehind _ (by decide) (by decide) | rfl) : DT X (.Compare a [op] [b] pos) (dBl (dBin g fa fb)) := by
  refine ⟨⟨fun pins s σ H Q I h => ?_⟩, dBl_mono (d_cmp (pos := pos) ho ha hb hm)⟩
  obtain ⟨ρ, M, al, F, G, W, es, q⟩ := h
  have hl : Lift X (dBin g fa fb) σ H (fun v H1 => ∃ c, v = .bl c ∧ Q c H1) :=
    (d_cmp (pos := pos) ho ha hb hm).seq W es q fun d M1 al1 F1 H1 v q1 e1 W1 r1 s1 => by
      cases r1 <;> first | exact ⟨_, rfl, q1 al1 F1 H1 e1 W1⟩ | exact q1.elim
  refine wpAny_isTrue_Compare1 (thn (bin2 ho ha hb I hl) fun v s1 h1 => thn h1 fun u s2 h2 => thn h2 fun c s3 ⟨x, H1, I1, r1, q1⟩ => ?_) hm
  obtain ⟨d, rfl, q⟩ := q1
  cases r1
  exact wpAny_truthy_bool ⟨H1, I1, q⟩
@[reducible] def dAnd (t u : DTT) : DTT := fun ρ M Q => t ρ M fun b M1 => if b = true then u ρ M1 Q else Q false M1
@[reducible] def dOr (t u : DTT) : DTT := fun ρ M Q => t ρ M fun b M1 => if b = true then Q true M1 else u ρ M1 Q
@[reducible] def dNot (t : DTT) : DTT := fun ρ M Q => t ρ M fun b M1 => Q (!b) M1
theorem dw_or1 (h : DT X a ta) : DW X (.BoolOp .Or [a] pos) ta := ⟨pw_or1 h.pt, h.mono⟩
theorem dw_or (h : DT X a ta) (g : DW X (.BoolOp .Or (b :: rest) pos) tb) : DW X (.BoolOp .Or (a :: b :: rest) pos) (dOr ta tb) := by
  refine ⟨PW.of (pw_or h.pt g.pw) fun σ H Q ⟨ρ, M, al, F, G, W, es, q⟩ => ?_, fun ρ M Q Q' w q => h.mono _ _ _ _ (fun b M1 q1 => ?_) q⟩
  · refine h.seq W es q fun d M1 al1 F1 H1 q1 e1 W1 s1 => ?_
    cases d with
    | false => exact ⟨ρ, M1, al1, F1, G, W1, s1, g.mono _ _ _ _ (fun b M2 k al' F' H' e' W' => k al' F' H' (e1.trans e') W') q1⟩
    | true => exact q1 al1 F1 H1 e1 W1
  · cases b with
    | false => exact g.mono _ _ _ _ w q1
    | true => exact w _ _ q1
theorem DW.dt (h : DW X a ta) : DT X a ta := ⟨PW.pt h.pw, h.mono⟩
theorem dt_not (h : DT X a ta) : DT X (.UnaryOp .Not a pos) (dNot ta) := by
  refine ⟨PT.of (pt_not h.pt) fun σ H Q ⟨ρ, M, al, F, G, W, es, q⟩ => ?_, fun ρ M Q Q' w q => h.mono _ _ _ _ (fun b M1 q1 => w _ _ q1) q⟩
  exact h.seq W es q fun d M1 al1 F1 H1 q1 e1 W1 s1 => q1 al1 F1 H1 e1 W1
/-- and, or, not as values: all but the last are bools -/
@[reducible] def dAndV (fa fb : DTE) : DTE := fun ρ M Q => fa ρ M fun d M1 => match d with
  | .bl true => fb ρ M1 Q
  | .bl false => Q (.bl false) M1
  | _ => False
@[reducible] def dOrV (fa fb : DTE) : DTE := fun ρ M Q => fa ρ M fun d M1 => match d with
  | .bl true => Q (.bl true) M1
  | .bl false => fb ρ M1 Q
  | _ => False
@[reducible] def dNotV (fa : DTE) : DTE := fun ρ M Q => fa ρ M fun d M1 => match d with
  | .bl b => Q (.bl (!b)) M1
  | _ => False
theorem d_one {op} (h : DE X a fa) : DE X (.BoolOp op [a] pos) fa := ⟨pe_one h.pe, h.mono⟩
theorem d_and (h : DE X a fa) (g : DE X (.BoolOp .And (b :: rest) pos) fb) : DE X (.BoolOp .And (a :: b :: rest) pos) (dAndV fa fb) := by
  refine ⟨PE.of (pe_and h.pe g.pe) fun σ H Q ⟨ρ, M, al, F, G, W, es, q⟩ => ?_, fun ρ M Q Q' w q => h.mono _ _ _ _ (fun d M1 q1 => ?_) q⟩
  · refine h.seq W es q fun d M1 al1 F1 H1 v q1 e1 W1 r1 s1 => ?_
    cases r1 with
    | bl b =>
      refine ⟨b, rfl, ?_⟩
      cases b with
      | true => exact ⟨ρ, M1, al1, F1, G, W1, s1, g.mono _ _ _ _ (fun b M2 k => k.ext e1) q1⟩
      | false => exact q1 al1 F1 H1 _ e1 W1 (.bl false)
    | _ => exact q1.elim
  · cases d with
    | bl b =>
      cases b with
      | true => exact g.mono _ _ _ _ w q1
      | false => exact w _ _ q1
    | _ => exact q1.elim
@[reducible] def dIf (t : DTT) (fa fb : DTE) : DTE := fun ρ M Q => t ρ M fun b M1 => if b = true then fa ρ M1 Q else fb ρ M1 Q
theorem d_if (hc : DT X c ta) (ha : DE X a fa) (hb : DE X b fb) : DE X (.IfExp c a b pos) (dIf ta fa fb) := by
  refine ⟨PE.of (pe_ifExp hc.pt ha.pe hb.pe) fun σ H Q ⟨ρ, M, al, F, G, W, es, q⟩ => ?_, fun ρ M Q Q' w q => hc.mono _ _ _ _ (fun d M1 q1 => ?_) q⟩
  · refine hc.seq W es q fun d M1 al1 F1 H1 q1 e1 W1 s1 => ?_
    cases d with
    | true => exact ⟨ρ, M1, al1, F1, G, W1, s1, ha.mono _ _ _ _ (fun b M2 k => k.ext e1) q1⟩
    | false => exact ⟨ρ, M1, al1, F1, G, W1, s1, hb.mono _ _ _ _ (fun b M2 k => k.ext e1) q1⟩
  · cases d with
    | true => exact ha.mono _ _ _ _ w q1
    | false => exact hb.mono _ _ _ _ w q1
end
structure DEnds where
  nx : Dn → Sto → Prop
  rt : DK
  bk : Dn → Sto → Prop := fun _ _ => False
  ct : Dn → Sto → Prop := fun _ _ => False
structure DEnds.Le (D D' : DEnds) : Prop where
  nx : ∀ ρ M, D.nx ρ M → D'.nx ρ M
  rt : ∀ d M, D.rt d M → D'.rt d M
  bk : ∀ ρ M, D.bk ρ M → D'.bk ρ M
  ct : ∀ ρ M, D.ct ρ M → D'.ct ρ M
abbrev DTS := DEnds → Dn → Sto → Prop
def kN (K : PySem.W.Frag) (al : List Addr) (F G : Hp) (x : DXS) (Q : L2.St → Hp → Prop) : Dn → Sto → Prop := fun ρ M' => ∀ al' F' H' σ', Ext al F al' F' → Wd K al' F' G H' M' → Sl K F' al' σ' ρ.v → ρ.x = x → Q σ' H'
theorem kN.ext {K : PySem.W.Frag} {al al1 : List Addr} {F F1 G : Hp} {x : DXS} {Q : L2.St → Hp → Prop} {ρ : Dn} {M : Sto} (h : kN K al F G x Q ρ M) (e : Ext al F al1 F1) : kN K al1 F1 G x Q ρ M :=
  fun al' F' H' σ' e' W s q => h al' F' H' σ' (e.trans e') W s q
def kontS (K : PySem.W.Frag) (al : List Addr) (F G : Hp) (x : DXS) (E : Ends) : DEnds := ⟨kN K al F G x E.nx, kont K al F G E.rt, kN K al F G x E.bk, kN K al F G x E.ct⟩
theorem kontS_ext {K : PySem.W.Frag} {al al1 : List Addr} {F F1 G : Hp} {x : DXS} {E : Ends} (e : Ext al F al1 F1) : (kontS K al F G x E).Le (kontS K al1 F1 G x E) :=
  ⟨fun _ _ h => kN.ext h e, fun _ _ h => kont.ext h e, fun _ _ h => kN.ext h e, fun _ _ h => kN.ext h e⟩
def LiftS (X : Cx) (f : DTS) : TS := fun E σ H => ∃ ρ M al F G, Wd X.K al F G H M ∧ Es X F G al σ ρ ∧ f (kontS X.K al F G ρ.x E) ρ M
def MonoS (f : DTS) : Prop := ∀ (D D' : DEnds) ρ M, D.Le D' → f D ρ M → f D' ρ M
structure DS (X : Cx) (st : Stmt) (f : DTS) : Prop where
  ps : PS X st (LiftS X f)
  mono : MonoS f
structure DSs (X : Cx) (st : List Stmt) (f : DTS) : Prop where
  ps : PSs X st (LiftS X f)
  mono : MonoS f
theorem MonoS.up {f : DTS} (h : MonoS f) {D D' : DEnds} {ρ : Dn} {M : Sto} (q : f D ρ M) (w : D.Le D') : f D' ρ M := h D D' ρ M w q
section
variable {X : Cx} {a b c : Expr} {fa fb fc : DTE} {pos : Pos} {ta tb : DTT} {st : Stmt} {sts : List Stmt} {f g : DTS}
@[reducible] def dNext : DTS := fun D ρ M => D.nx ρ M
@[reducible] def dSeq (f g : DTS) : DTS := fun D ρ M => f { D with nx := g D } ρ M
theorem ds_nil : DSs X [] dNext := ⟨PSs.of pss_nil fun E σ H ⟨ρ, M, al, F, G, W, es, q⟩ => q al F H σ (Ext.refl _ _) W es.sl rfl, fun _ _ _ _ w q => w.nx _ _ q⟩
theorem ds_cons (h1 : DS X st f) (h2 : DSs X sts g) : DSs X (st :: sts) (dSeq f g) := by
  refine ⟨PSs.of (pss_cons h1.ps h2.ps) fun E σ H ⟨ρ, M, al, F, G, W, es, q⟩ => ?_, fun D D' ρ M w q => h1.mono { D with nx := g D } _ _ _ ⟨fun ρ M q => h2.mono _ _ _ _ w q, w.rt, w.bk, w.ct⟩ q⟩
  refine ⟨ρ, M, al, F, G, W, es, MonoS.up h1.mono (show f { kontS X.K al F G ρ.x E with nx := g (kontS X.K al F G ρ.x E) } ρ M from q) ⟨fun ρ1 M1 q1 al1 F1 H1 σ1 e1 W1 s1 x1 => ?_, fun _ _ z => z, fun _ _ z => z, fun _ _ z => z⟩⟩
  exact ⟨ρ1, M1, al1, F1, G, W1, es.of e1 s1 x1, by rw [x1]; exact MonoS.up h2.mono q1 (kontS_ext e1)⟩
theorem ds_one (h1 : DS X st f) : DSs X [st] f := ⟨pss_one h1.ps, h1.mono⟩
@[reducible] def dDrop (fa : DTE) : DTS := fun D ρ M => fa ρ M fun _ M1 => D.nx ρ M1
theorem ds_expr (h : DE X a fa) (hs : swapsWith a none pos.line X.env = pure false := by rfl) : DS X (.Expr a pos) (dDrop fa) := by
  refine ⟨PS.of (ps_expr h.pe hs) fun E σ H ⟨ρ, M, al, F, G, W, es, q⟩ => ?_, fun D D' ρ M w q => h.mono _ _ _ _ (fun d M1 q1 => w.nx _ _ q1) q⟩
  exact h.seq W es q fun d M1 al1 F1 H1 v q1 e1 W1 r1 s1 => q1 al1 F1 H1 σ e1 W1 s1.sl rfl
@[reducible] def dRet (fa : DTE) : DTS := fun D ρ M => fa ρ M D.rt
theorem ds_ret (h : DE X a fa) : DS X (.Return (some a) pos) (dRet fa) := by
  refine ⟨PS.of (ps_ret h.pe) fun E σ H ⟨ρ, M, al, F, G, W, es, q⟩ => ⟨ρ, M, al, F, G, W, es, q⟩, fun D D' ρ M w q => h.mono _ _ _ _ (fun d M1 q1 => w.rt _ _ q1) q⟩
@[reducible] def dRetN : DTS := fun D _ M => D.rt .non M
@[reducible] def dIfS (t : DTT) (f g : DTS) : DTS := fun D ρ M => t ρ M fun b M1 => if b = true then f D ρ M1 else g D ρ M1
theorem ds_if {yes no : List Stmt} (hc : DT X c ta) (ha : DSs X yes f) (hb : DSs X no g) : DS X (.If c yes no pos) (dIfS ta f g) := by
  refine ⟨PS.of (ps_if hc.pt ha.ps hb.ps) fun E σ H ⟨ρ, M, al, F, G, W, es, q⟩ => ?_, fun D D' ρ M w q => hc.mono _ _ _ _ (fun d M1 q1 => ?_) q⟩
  · refine hc.seq W es q fun d M1 al1 F1 H1 q1 e1 W1 s1 => ?_
    cases d with
    | true => exact ⟨ρ, M1, al1, F1, G, W1, s1, ha.mono _ _ _ _ (kontS_ext e1) q1⟩
    | false => exact ⟨ρ, M1, al1, F1, G, W1, s1, hb.mono _ _ _ _ (kontS_ext e1) q1⟩
  · cases d with
    | true => exact ha.mono _ _ _ _ w q1
    | false => exact hb.mono _ _ _ _ w q1
def Off (js : List Nat) (σ σ' : L2.St) : Prop := σ'.length = σ.length ∧ ∀ i, i ∉ js → σ'[i]? = σ[i]?
abbrev DTG := D → Dn → Sto → (Dn → Sto → Prop) → Prop
abbrev DTGs := List D → Dn → Sto → (Dn → Sto → Prop) → Prop
def LiftG (X : Cx) (f : DTG) (js : List Nat) : TG := fun v σ H Q => ∃ d ρ M al F G, Wd X.K al F G H M ∧ Es X F G al σ ρ ∧ Rp X.K F al v d ∧
  f d ρ M (fun ρ' M' => ∀ al' F' H' σ', Ext al F al' F' → Wd X.K al' F' G H' M' → Sl X.K F' al' σ' ρ'.v → ρ'.x = ρ.x → Off js σ σ' → Q σ' H')
def LiftGs (X : Cx) (f : DTGs) (js : List Nat) : TGs := fun vs σ H Q => ∃ ds ρ M al F G, Wd X.K al F G H M ∧ Es X F G al σ ρ ∧ Rps X.K F al vs ds ∧
  f ds ρ M (fun ρ' M' => ∀ al' F' H' σ', Ext al F al' F' → Wd X.K al' F' G H' M' → Sl X.K F' al' σ' ρ'.v → ρ'.x = ρ.x → Off js σ σ' → Q σ' H')
def MonoG (f : DTG) : Prop := ∀ d ρ M (Q Q' : Dn → Sto → Prop), (∀ ρ M, Q ρ M → Q' ρ M) → f d ρ M Q → f d ρ M Q'
def MonoGs (f : DTGs) : Prop := ∀ d ρ M (Q Q' : Dn → Sto → Prop), (∀ ρ M, Q ρ M → Q' ρ M) → f d ρ M Q → f d ρ M Q'
structure DG (X : Cx) (tg : Expr) (f : DTG) (js : List Nat) : Prop where
  pg : PG X tg (LiftG X f js)
  mono : MonoG f
structure DGs (X : Cx) (tg : List Expr) (f : DTGs) (js : List Nat) : Prop where
  pg : PGs X tg (LiftGs X f js)
  mono : MonoGs f
theorem PG.of {e : Expr} {t t' : TG} (h : PG X e t) (w : ∀ v σ H Q, t' v σ H Q → t v σ H Q) : PG X e t' := ⟨fun pins s σ H v u Q I r q => h.run pins s σ H v u Q I r (w v σ H Q q)⟩
theorem PGs.of {e : List Expr} {t t' : TGs} (h : PGs X e t) (w : ∀ v σ H Q, t' v σ H Q → t v σ H Q) : PGs X e t' := ⟨fun pins s σ H v u Q I r q => h.run pins s σ H v u Q I r (w v σ H Q q)⟩
theorem Off.refl (js : List Nat) (σ : L2.St) : Off js σ σ := ⟨rfl, fun _ _ => rfl⟩
theorem Off.trans {js ks : List Nat} {σ σ1 σ2 : L2.St} (a : Off js σ σ1) (b : Off ks σ1 σ2) : Off (js ++ ks) σ σ2 :=
  ⟨b.1.trans a.1, fun i hi => by
    rw [List.mem_append, not_or] at hi
    exact (b.2 i hi.2).trans (a.2 i hi.1)⟩
theorem Off.set (σ : L2.St) (i : Nat) (v : Option V) : Off [i] σ (σ.set i v) := ⟨List.length_set, fun j hj => by
  rw [List.getElem?_set_ne]
  intro z
  exact hj (by simp [z])⟩
@[reducible] def dgName (i : Nat) : DTG := fun d ρ M Q => Q ⟨ρ.v.set i (some d), ρ.x⟩ M
@[reducible] def dgNil : DTGs := fun ds ρ M Q => match ds with
  | [] => Q ρ M
  | _ => False
@[reducible] def dgCons (f : DTG) (g : DTGs) : DTGs := fun ds ρ M Q => match ds with
  | d :: r => f d ρ M fun ρ1 M1 => g r ρ1 M1 Q
  | [] => False
@[reducible] def dgTup (n : Nat) (g : DTGs) : DTG := fun d ρ M Q => match d with
  | .tup ds => ds.length = n ∧ g ds ρ M Q
  | _ => False
theorem dg_name {i : Nat} {x : Str} (hN : X.N.Nodup) (hi : X.N[i]? = some x) (hx : Loc X.env.scope x) (hf : X.fn x = true ∨ X.env.scope.names.lookup x = some .local := by first | exact .inl rfl | exact .inr rfl | assumption) : DG X (.Name x pos) (dgName i) [i] := by
  refine ⟨PG.of (pg_name hN hi hx hf) fun v σ H Q ⟨d, ρ, M, al, F, G, W, es, r, q⟩ => ?_, fun d ρ M Q Q' w q => w _ _ q⟩
  exact q al F H _ (Ext.refl _ _) W (es.sl.set r i) rfl (Off.set σ i _)
theorem dgs_nil : DGs X [] dgNil [] := by
  refine ⟨PGs.of pgs_nil fun vs σ H Q ⟨ds, ρ, M, al, F, G, W, es, r, q⟩ => ?_, fun d ρ M Q Q' w q => ?_⟩
  · cases r with
    | nil => exact ⟨rfl, q al F H σ (Ext.refl _ _) W es.sl rfl (Off.refl _ _)⟩
    | cons a b => exact q.elim
  · cases d with
    | nil => exact w _ _ q
    | cons a b => exact q.elim
theorem dgs_cons {e : Expr} {es : List Expr} {f : DTG} {g : DTGs} {js ks : List Nat} (h1 : DG X e f js) (h2 : DGs X es g ks)
    (hs : (assignEach (e :: es) X.env).map (·.2) = assign e X.env :: (assignEach es X.env).map (·.2) := by rfl) : DGs X (e :: es) (dgCons f g) (js ++ ks) := by
  refine ⟨PGs.of (pgs_cons h1.pg h2.pg hs) fun vs σ H Q ⟨ds, ρ, M, al, F, G, W, es, r, q⟩ => ?_, fun d ρ M Q Q' w q => ?_⟩
  · cases r with
    | nil => exact q.elim
    | cons a b =>
      refine ⟨_, _, rfl, _, ρ, M, al, F, G, W, es, a, h1.mono _ _ _ _ _ (fun ρ1 M1 q1 al1 F1 H1 σ1 e1 W1 s1 x1 o1 => ?_) q⟩
      refine ⟨_, ρ1, M1, al1, F1, G, W1, es.of e1 s1 x1, b.ext e1, h2.mono _ _ _ _ _ (fun ρ2 M2 q2 al2 F2 H2 σ2 e2 W2 s2 x2 o2 => ?_) q1⟩
      exact q2 al2 F2 H2 σ2 (e1.trans e2) W2 s2 (x2.trans x1) (o1.trans o2)
  · cases d with
    | nil => exact q.elim
    | cons a b => exact h1.mono _ _ _ _ _ (fun ρ1 M1 q1 => h2.mono _ _ _ _ _ w q1) q
theorem dg_tup {es : List Expr} {k : Nat} {g : DTGs} {js : List Nat} {n : Nat} (hc : X.calm = true) (h : DGs X es g js)
    (hn : (assignEach es X.env).length = n := by rfl) (hst : (assignEach es X.env).findIdx? (·.1) = none := by rfl) : DG X (.Tuple es k pos) (dgTup n g) js := by
  refine ⟨PG.of (pg_tup hc h.pg hn hst) fun v σ H Q ⟨d, ρ, M, al, F, G, W, es, r, q⟩ => ?_, fun d ρ M Q Q' w q => ?_⟩
  · cases r with
    | tup a b => exact ⟨_, _, rfl, SqT.of (W.sm _ _ a), b.length.trans q.1, _, ρ, M, al, F, G, W, es, b, q.2⟩
    | _ => exact q.elim
  · cases d with
    | tup ds => exact ⟨q.1, h.mono _ _ _ _ _ w q.2⟩
    | _ => exact q.elim
@[reducible] def dAsg (fa : DTE) (g : DTG) : DTS := fun D ρ M => fa ρ M fun d M1 => g d ρ M1 D.nx
theorem dAsg_mono {tg : Expr} {g : DTG} {js : List Nat} (h : DE X a fa) (hg : DG X tg g js) : MonoS (dAsg fa g) := fun D D' ρ M w q => h.mono _ _ _ _ (fun d M1 q1 => hg.mono _ _ _ _ _ (fun ρ M q => w.nx ρ M q) q1) q
theorem asg_ok {tg : Expr} {g : DTG} {js : List Nat} (h : DE X a fa) (hg : DG X tg g js) {E : Ends} {σ : L2.St} {H : Hp} (q : LiftS X (dAsg fa g) E σ H) : tAsg (Lift X fa) (LiftG X g js) E σ H := by
  obtain ⟨ρ, M, al, F, G, W, es, q⟩ := q
  refine h.seq W es q fun d M1 al1 F1 H1 v q1 e1 W1 r1 s1 => ?_
  exact ⟨d, ρ, M1, al1, F1, G, W1, s1, r1, hg.mono _ _ _ _ _ (fun ρ2 M2 q2 al2 F2 H2 σ2 e2 W2 s2 x2 _ => q2 al2 F2 H2 σ2 (e1.trans e2) W2 s2 x2) q1⟩
theorem ds_asg {tg : Expr} {g : DTG} {js : List Nat} (h : DE X a fa) (hg : DG X tg g js) (hs : swapsWithSole [tg] a pos.line X.env = pure false := by rfl) (hw : swappedStores [tg] a X.env = pure none := by rfl) (h1 : (assignEach [tg] X.env).map (·.2) = [assign tg X.env] := by rfl) : DS X (.Assign [tg] a pos) (dAsg fa g) :=
  ⟨PS.of (ps_asg h.pe hg.pg hs hw h1) fun E σ H q => asg_ok h hg q, dAsg_mono h hg⟩
theorem ds_set {i : Nat} {x : Str} {pos' : Pos} (hN : X.N.Nodup) (hi : X.N[i]? = some x) (hx : Loc X.env.scope x) (h : DE X a fa) (hs : swapsWith a (some (.Name x pos')) pos.line X.env = pure false := by rfl) (hf : X.fn x = true ∨ X.env.scope.names.lookup x = some .local := by first | exact .inl rfl | exact .inr rfl | assumption) :
    DS X (.Assign [.Name x pos'] a pos) (dAsg fa (dgName i)) := by
  refine ⟨PS.of (ps_set hN hi hx h.pe hs hf) fun E σ H ⟨ρ, M, al, F, G, W, es, q⟩ => ?_, dAsg_mono h (dg_name (pos := pos') hN hi hx hf)⟩
  exact h.seq W es q fun d M1 al1 F1 H1 v q1 e1 W1 r1 s1 => q1 al1 F1 H1 _ e1 W1 (s1.sl.set r1 i) rfl
@[reducible] def dPar (i j : Nat) (fa : DTA) : DTS := fun D ρ M => fa ρ M fun ds M1 => match ds with
  | [d, e] => D.nx ⟨(ρ.v.set i (some d)).set j (some e), ρ.x⟩ M1
  | _ => False
theorem ds_par {i j : Nat} {x y : Str} {fr : DTA} {px py pt : Pos} {kt k2 : Nat} {pt2 : Pos} (hc : X.calm = true) (hN : X.N.Nodup) (hi : X.N[i]? = some x) (hj : X.N[j]? = some y) (hij : i ≠ j) (hx : X.env.scope.names.lookup x = some .local) (hy : X.env.scope.names.lookup y = some .local) (ha : DA X [a, b] fr)
    (ps : ∀ {ta : TA}, PA X [a, b] ta → PS X (.Assign [.Tuple [.Name x px, .Name y py] kt pt] (.Tuple [a, b] k2 pt2) pos) (tPar i j ta)) : DS X (.Assign [.Tuple [.Name x px, .Name y py] kt pt] (.Tuple [a, b] k2 pt2) pos) (dPar i j fr) := by
  refine ⟨PS.of (ps ha.pa) fun E σ H ⟨ρ, M, al, F, G, W, es, q⟩ => ?_, fun D D' ρ M w q => ha.mono _ _ _ _ (fun ds M1 q1 => ?_) q⟩
  · refine ha.seq W es q fun ds M1 al1 F1 H1 vs q1 e1 W1 r1 s1 => ?_
    match ds, r1, q1 with
    | [d, e], .cons r2 (.cons r3 .nil), q1 => exact ⟨_, _, rfl, q1 al1 F1 H1 _ e1 W1 ((s1.sl.set r2 i).set r3 j) rfl⟩
  · match ds, q1 with
    | [d, e], q1 => exact w.nx _ _ q1
abbrev DTI := Dn → Sto → (List D → (Sto → Prop) → Sto → Prop) → Prop
def ItOk (K : PySem.W.Frag) (J : It) (ds : List D) (st : Sto → Prop) (al : List Addr) (F G : Hp) : Prop := ∀ al' F' G' H' M', Ext al F al' F' → Sm G G' → Wd K al' F' G' H' M' → st M' → ∀ i : Nat,
  (∀ d, ds[i]? = some d → J.go i H' ∧ ∀ x H'', J.yld i H' x H'' → ∃ F'', Sm F' F'' ∧ Wd K al' F'' G' H'' M' ∧ Rp K F'' al' x d) ∧ (ds.length ≤ i → J.stop i H')
theorem ItOk.ext {K : PySem.W.Frag} {J : It} {ds : List D} {st : Sto → Prop} {al al1 : List Addr} {F F1 G : Hp} (h : ItOk K J ds st al F G) (e : Ext al F al1 F1) : ItOk K J ds st al1 F1 G :=
  fun al' F' G' H' M' e' => h al' F' G' H' M' (e.trans e')
def LiftI (X : Cx) (f : DTI) : TI := fun σ H R => ∃ ρ M al F G, Wd X.K al F G H M ∧ Es X F G al σ ρ ∧ f ρ M (fun ds st M' => ∀ al' F' H' J, Ext al F al' F' → Wd X.K al' F' G H' M' → ItOk X.K J ds st al' F' G → R J H')
structure DI (X : Cx) (tg iter : Expr) (f : DTI) : Prop where
  pi : PI X tg iter (LiftI X f)
  mono : ∀ ρ M (Q Q' : List D → (Sto → Prop) → Sto → Prop), (∀ ds st M, Q ds st M → Q' ds st M) → f ρ M Q → f ρ M Q'
theorem PI.of {tg e : Expr} {t t' : TI} (h : PI X tg e t) (w : ∀ σ H Q, t' σ H Q → t σ H Q) : PI X tg e t' := ⟨fun pins s σ H R I q => h.run pins s σ H R I (w σ H R q)⟩
def forGo (st : Sto → Prop) (g : DTG) (body : DTS) : List D → DTS
  | [], E, ρ, M => st M ∧ E.nx ρ M
  | d :: ds, E, ρ, M => st M ∧ g d ρ M fun ρ1 M1 => body { nx := fun ρ2 M2 => forGo st g body ds E ρ2 M2, rt := E.rt, bk := E.nx, ct := fun ρ2 M2 => forGo st g body ds E ρ2 M2 } ρ1 M1
@[reducible] def dFor (fi : DTI) (g : DTG) (body : DTS) : DTS := fun E ρ M => fi ρ M fun ds st M1 => forGo st g body ds E ρ M1
theorem forGo_mono {st : Sto → Prop} {g : DTG} {body : DTS} (hg : MonoG g) (hb : MonoS body) : ∀ ds, MonoS (forGo st g body ds)
  | [], D, D', ρ, M, w, q => ⟨q.1, w.nx _ _ q.2⟩
  | d :: ds, D, D', ρ, M, w, q => by
    refine ⟨q.1, hg _ _ _ _ _ (fun ρ1 M1 q1 => ?_) q.2⟩
    refine MonoS.up hb (D := { nx := fun ρ2 M2 => forGo st g body ds D ρ2 M2, rt := D.rt, bk := D.nx, ct := fun ρ2 M2 => forGo st g body ds D ρ2 M2 }) q1 ⟨fun ρ2 M2 q2 => ?_, w.rt, w.nx, fun ρ2 M2 q2 => ?_⟩
    · exact forGo_mono hg hb ds D D' ρ2 M2 w q2
    · exact forGo_mono hg hb ds D D' ρ2 M2 w q2
theorem ds_for {tg iter : Expr} {body : List Stmt} {fi : DTI} {g : DTG} {js : List Nat} {f : DTS} (hp : PassesOwn (model X.prog X.w) X.A X.env X.xe) (hc : X.calm = true) (hi : DI X tg iter fi) (hg : DG X tg g js) (hb : DSs X body f)
    (hfs : ∀ x : Value, foldedSetIterable iter X.env x = pure x := by intro _; rfl) : DS X (.For tg iter body [] pos) (dFor fi g f) := by
  refine ⟨PS.of (ps_for hp hc hi.pi hg.pg hb.ps hfs) fun E σ H ⟨ρ, M, al, F, G, W, es, q⟩ => ?_, fun D D' ρ M w q => hi.mono _ _ _ _ (fun ds st M1 q1 => forGo_mono hg.mono hb.mono ds D D' ρ M1 w q1) q⟩
  refine ⟨ρ, M, al, F, G, W, es, hi.mono _ _ _ _ (fun ds st M1 q1 al1 F1 H1 J e1 W1 ok => ?_) q⟩
  refine ⟨fun i m σ' H' => ∃ ρ' M' al' F', i + m = ds.length ∧ Ext al1 F1 al' F' ∧ Wd X.K al' F' G H' M' ∧ Es X F' G al' σ' ρ' ∧ ρ'.x = ρ.x ∧ forGo st g f (ds.drop i) (kontS X.K al' F' G ρ.x E) ρ' M',
    ⟨ds.length, ρ, M1, al1, F1, by omega, Ext.refl _ _, W1, es.ext e1, rfl, forGo_mono hg.mono hb.mono _ _ _ _ _ (kontS_ext e1) q1⟩, ?_⟩
  rintro i m σ' H' ⟨ρ', M', al', F', em, e', W', s', x', q'⟩
  by_cases hil : i < ds.length
  · rw [List.drop_eq_getElem_cons hil] at q'
    obtain ⟨hst, q'⟩ := q'
    obtain ⟨go, yl⟩ := (ok al' F' G H' M' e' (Sm.refl G) W' hst i).1 ds[i] (List.getElem?_eq_getElem hil)
    refine .inr ⟨go, fun σ2 H2 => ∃ ρ2 M2 al2 F2, Ext al1 F1 al2 F2 ∧ Wd X.K al2 F2 G H2 M2 ∧ Es X F2 G al2 σ2 ρ2 ∧ ρ2.x = ρ.x ∧ forGo st g f (ds.drop (i + 1)) (kontS X.K al2 F2 G ρ.x E) ρ2 M2, ?_, fun x H2 hy => ?_⟩
    · rintro σ2 H2 ⟨ρ2, M2, al2, F2, e2, W2, s2, x2, q2⟩
      exact ⟨m - 1, by omega, ρ2, M2, al2, F2, by omega, e2, W2, s2, x2, q2⟩
    · obtain ⟨F2, sm2, W2, r2⟩ := yl x H2 hy
      have e2 : Ext al' F' al' F2 := ⟨⟨[], by simp⟩, sm2⟩
      refine ⟨ds[i], ρ', M', al', F2, G, W2, s'.ext e2, r2, hg.mono _ _ _ _ _ (fun ρ3 M3 q3 al3 F3 H3 σ3 e3 W3 s3 x3 o3 => ?_) q'⟩
      have s3' := s'.of (e2.trans e3) s3 x3
      rw [x'] at x3
      refine ⟨ρ3, M3, al3, F3, G, W3, s3', ?_⟩
      rw [x3]
      refine MonoS.up hb.mono q3 ⟨fun ρ4 M4 q4 al4 F4 H4 σ4 e4 W4 s4 x4 => ?_, fun d M4 q4 => kont.ext q4 (e2.trans e3), fun ρ4 M4 q4 => kN.ext q4 (e2.trans e3), fun ρ4 M4 q4 al4 F4 H4 σ4 e4 W4 s4 x4 => ?_⟩
      · exact ⟨ρ4, M4, al4, F4, e'.trans (e2.trans (e3.trans e4)), W4, s3'.of e4 s4 (x4.trans x3.symm), x4, forGo_mono hg.mono hb.mono _ _ _ _ _ (kontS_ext (e2.trans (e3.trans e4))) q4⟩
      · exact ⟨ρ4, M4, al4, F4, e'.trans (e2.trans (e3.trans e4)), W4, s3'.of e4 s4 (x4.trans x3.symm), x4, forGo_mono hg.mono hb.mono _ _ _ _ _ (kontS_ext (e2.trans (e3.trans e4))) q4⟩
  · rw [List.drop_eq_nil_of_le (by omega)] at q'
    exact .inl ⟨(ok al' F' G H' M' e' (Sm.refl G) W' q'.1 i).2 (by omega), q'.2 al' F' H' σ' (Ext.refl _ _) W' s'.sl x'⟩
def wipeD (ρ : List (Option D)) : List Nat → List (Option D)
  | [] => ρ
  | v :: vs => (wipeD ρ vs).set v none
theorem wipeD_length (ρ : List (Option D)) : ∀ vs : List Nat, (wipeD ρ vs).length = ρ.length
  | [] => rfl
  | v :: vs => by unfold wipeD; rw [List.length_set, wipeD_length ρ vs]
theorem wipeD_some {ρ : List (Option D)} {i : Nat} {d : D} : ∀ {vs : List Nat}, (wipeD ρ vs)[i]? = some (some d) → ρ[i]? = some (some d) ∧ i ∉ vs
  | [], h => ⟨h, by simp⟩
  | v :: vs, h => by
    unfold wipeD at h
    by_cases hi : v = i
    · subst hi
      by_cases hv : v < (wipeD ρ vs).length
      · rw [List.getElem?_set_self hv] at h; cases h
      · rw [List.getElem?_eq_none (by simpa using hv)] at h; cases h
    · rw [List.getElem?_set_ne hi] at h
      obtain ⟨h1, h2⟩ := wipeD_some h
      exact ⟨h1, by simp only [List.mem_cons, not_or]; exact ⟨fun e => hi e.symm, h2⟩⟩
theorem wipe_get {σ : L2.St} {i : Nat} : ∀ {vs : List Nat}, i ∉ vs → (wipe σ vs)[i]? = σ[i]?
  | [], _ => rfl
  | v :: vs, h => by
    rw [List.mem_cons, not_or] at h
    unfold wipe
    rw [List.getElem?_set_ne (Ne.symm h.1), wipe_get h.2]
theorem wipe_off {σ : L2.St} {i : Nat} (hl : i < σ.length) : ∀ {vs : List Nat}, i ∈ vs → (wipe σ vs)[i]? = some none
  | v :: vs, h => by
    unfold wipe
    by_cases hi : v = i
    · subst hi
      rw [List.getElem?_set_self (by rw [wipe_length]; exact hl)]
    · rw [List.getElem?_set_ne hi]
      refine wipe_off hl ?_
      rcases List.mem_cons.mp h with z | z
      · exact absurd z.symm hi
      · exact z
theorem wipe_eq {σ σ' : L2.St} {js vs : List Nat} (o : Off js σ σ') (h : ∀ j ∈ js, j ∈ vs) : wipe σ' vs = wipe σ vs := by
  apply List.ext_getElem?
  intro i
  by_cases hi : i ∈ vs
  · by_cases hl : i < σ.length
    · rw [wipe_off hl hi, wipe_off (by rw [o.1]; exact hl) hi]
    · have h1 := o.1; rw [List.getElem?_eq_none (by rw [wipe_length]; omega), List.getElem?_eq_none (by rw [wipe_length]; omega)]
  · rw [wipe_get hi, wipe_get hi]
    exact o.2 i fun z => hi (h i z)
theorem wipe_wipe {σ : L2.St} {vs : List Nat} : wipe (wipe σ vs) vs = wipe σ vs := by
  apply List.ext_getElem?
  intro i
  by_cases hi : i ∈ vs
  · by_cases hl : i < σ.length
    · rw [wipe_off hl hi, wipe_off (by rw [wipe_length]; exact hl) hi]
    · rw [List.getElem?_eq_none (by rw [wipe_length, wipe_length]; omega), List.getElem?_eq_none (by rw [wipe_length]; omega)]
  · rw [wipe_get hi]
theorem Sl.wipe {K : PySem.W.Frag} {F : Hp} {al : List Addr} {σ : L2.St} {ρ : List (Option D)} (h : Sl K F al σ ρ) (vs : List Nat) : Sl K F al (L2.wipe σ vs) (wipeD ρ vs) := by
  refine ⟨by rw [wipe_length, wipeD_length]; exact h.len, fun i d q => ?_⟩
  obtain ⟨q1, q2⟩ := wipeD_some q
  obtain ⟨v, h1, h2⟩ := h.get i d q1
  exact ⟨v, by rw [wipe_get q2]; exact h1, h2⟩
/-- the inner readings, without exceptions: one for all surroundings -/
def LiftN (K : PySem.W.Frag) (f : DTE) : TE := fun σ H Q => ∃ ρ M al F G, Wd K al F G H M ∧ Sl K F al σ ρ.v ∧ ρ.x = noX ∧ f ρ M (kont K al F G Q)
def LiftTN (K : PySem.W.Frag) (f : DTT) : TT := fun σ H Q => ∃ ρ M al F G, Wd K al F G H M ∧ Sl K F al σ ρ.v ∧ ρ.x = noX ∧ f ρ M (kontB K al F G Q)
def LiftGN (K : PySem.W.Frag) (f : DTG) (js : List Nat) : TG := fun v σ H Q => ∃ d ρ M al F G, Wd K al F G H M ∧ Sl K F al σ ρ.v ∧ ρ.x = noX ∧ Rp K F al v d ∧
  f d ρ M (fun ρ' M' => ∀ al' F' H' σ', Ext al F al' F' → Wd K al' F' G H' M' → Sl K F' al' σ' ρ'.v → ρ'.x = noX → Off js σ σ' → Q σ' H')
theorem LiftN.of {Y : Cx} {f : DTE} {σ : L2.St} {H : Hp} {Q : VK} (h : LiftN Y.K f σ H Q) : Lift Y f σ H Q := by
  obtain ⟨ρ, M, al, F, G, W, s, x, q⟩ := h
  exact ⟨ρ, M, al, F, G, W, Es.none s x, q⟩
theorem LiftTN.of {Y : Cx} {f : DTT} {σ : L2.St} {H : Hp} {Q : Bool → Hp → Prop} (h : LiftTN Y.K f σ H Q) : LiftT Y f σ H Q := by
  obtain ⟨ρ, M, al, F, G, W, s, x, q⟩ := h
  exact ⟨ρ, M, al, F, G, W, Es.none s x, q⟩
theorem LiftGN.of {Y : Cx} {f : DTG} {js : List Nat} (m : MonoG f) {v : V} {σ : L2.St} {H : Hp} {Q : L2.St → Hp → Prop} (h : LiftGN Y.K f js v σ H Q) : LiftG Y f js v σ H Q := by
  obtain ⟨d, ρ, M, al, F, G, W, s, x, r, q⟩ := h
  exact ⟨d, ρ, M, al, F, G, W, Es.none s x, r, m _ _ _ _ _ (fun ρ' M' k al' F' H' σ' e W' s' x' o => k al' F' H' σ' e W' s' (x'.trans x) o) q⟩
/-- one turn: the item bound, the tests, the element -/
@[reducible] def lcStep (ρ : Dn) (vs : List Nat) (g : DTG) (t : DTT) (fe : DTE) (d : D) (M : Sto) (k : Option D → Sto → Prop) : Prop :=
  g d ⟨wipeD ρ.v vs, noX⟩ M fun ρ2 M2 => t ρ2 M2 fun b M3 => if b = true then fe ρ2 M3 (fun y M4 => k (some y) M4) else k none M3
def lcGo (st : Sto → Prop) (step : D → Sto → (Option D → Sto → Prop) → Prop) : List D → List D → Sto → (List D → Sto → Prop) → Prop
  | [], acc, M, Q => st M ∧ Q acc M
  | d :: ds, acc, M, Q => st M ∧ step d M fun o M1 => match o with
    | some y => acc.length < 100000 ∧ lcGo st step ds (acc ++ [y]) M1 Q
    | none => lcGo st step ds acc M1 Q
@[reducible] def dLc (fi : DTI) (g : DTG) (t : DTT) (fe : DTE) (vs : List Nat) : DTE := fun ρ M Q => fi ρ M fun ds st M1 => lcGo st (lcStep ρ vs g t fe) ds [] M1 fun acc M2 => Q (.lst acc) M2
theorem lcStep_mono {ρ : Dn} {vs : List Nat} {g : DTG} {t : DTT} {fe : DTE} (hg : MonoG g) (ht : ∀ ρ M (Q Q' : Bool → Sto → Prop), (∀ d M, Q d M → Q' d M) → t ρ M Q → t ρ M Q') (he : ∀ ρ M (Q Q' : DK), (∀ d M, Q d M → Q' d M) → fe ρ M Q → fe ρ M Q')
    (d : D) (M : Sto) (k k' : Option D → Sto → Prop) (w : ∀ o M, k o M → k' o M) (q : lcStep ρ vs g t fe d M k) : lcStep ρ vs g t fe d M k' :=
  hg _ _ _ _ _ (fun ρ2 M2 q2 => ht _ _ _ _ (fun b M3 q3 => by
    cases b with
    | true => exact he _ _ _ _ (fun y M4 q4 => w _ _ q4) q3
    | false => exact w _ _ q3) q2) q
theorem lcGo_mono {st : Sto → Prop} {step : D → Sto → (Option D → Sto → Prop) → Prop} (hs : ∀ (d : D) (M : Sto) (k k' : Option D → Sto → Prop), (∀ o M, k o M → k' o M) → step d M k → step d M k') (Q Q' : List D → Sto → Prop) (w : ∀ a M, Q a M → Q' a M) :
    ∀ (ds acc : List D) (M : Sto), lcGo st step ds acc M Q → lcGo st step ds acc M Q'
  | [], acc, M, q => ⟨q.1, w _ _ q.2⟩
  | d :: ds, acc, M, q => ⟨q.1, hs _ _ _ _ (fun o M1 q1 => by
    cases o with
    | none => exact lcGo_mono hs Q Q' w ds acc M1 q1
    | some y => exact ⟨q1.1, lcGo_mono hs Q Q' w ds _ M1 q1.2⟩) q.2⟩
theorem PTs.of {ifs : List Expr} {t t' : TT} (h : PTs X ifs t) (w : ∀ σ H Q, t' σ H Q → t σ H Q) : PTs X ifs t' := ⟨fun pins s σ H Q I q => h.run pins s σ H Q I (w σ H Q q)⟩
abbrev DTTs (X : Cx) (ifs : List Expr) (t : DTT) : Prop := PTs X ifs (LiftT X t) ∧ ∀ ρ M (Q Q' : Bool → Sto → Prop), (∀ d M, Q d M → Q' d M) → t ρ M Q → t ρ M Q'
@[reducible] def dYes : DTT := fun _ M Q => Q true M
theorem dts_nil : DTTs X [] dYes := ⟨⟨fun pins s σ H Q I h => by
  obtain ⟨ρ, M, al, F, G, W, es, q⟩ := h
  exact pts_nil.run pins s σ H Q I (q al F H (Ext.refl _ _) W)⟩, fun _ _ _ _ w q => w _ _ q⟩
theorem lc_ok {Y : Cx} {wi : DTI} {g : DTG} {t : DTT} {fe : DTE} {vs js : List Nat} {σ : L2.St} {H : Hp} {Q : VK} (hi : ∀ ρ M (Q Q' : List D → (Sto → Prop) → Sto → Prop), (∀ ds st M, Q ds st M → Q' ds st M) → wi ρ M Q → wi ρ M Q')
    (hg : MonoG g) (ht : ∀ ρ M (Q Q' : Bool → Sto → Prop), (∀ d M, Q d M → Q' d M) → t ρ M Q → t ρ M Q') (he : ∀ ρ M (Q Q' : DK), (∀ d M, Q d M → Q' d M) → fe ρ M Q → fe ρ M Q') (hj : ∀ j ∈ js, j ∈ vs)
    (h : Lift Y (dLc wi g t fe vs) σ H Q) : tLc (LiftI Y wi) (LiftGN Y.K g js) (LiftTN Y.K t) (LiftN Y.K fe) vs σ H Q := by
  obtain ⟨ρ, M, al, F, G, W, es, q⟩ := h
  refine ⟨ρ, M, al, F, G, W, es, hi _ _ _ _ (fun ds st M1 q1 al1 F1 H1 J e1 W1 ok => ?_) q⟩
  intro Dd hD
  have hGD : G Dd = none := W1.sg.free hD
  refine ⟨fun i m H' => ∃ M' al' F' acc xs, i + m = ds.length ∧ Ext al1 F1 al' F' ∧ Wd Y.K al' F' (upd G Dd (.lst xs)) H' M' ∧ Rps Y.K F' al' xs acc ∧ lcGo st (lcStep ρ vs g t fe) (ds.drop i) acc M' (fun acc M2 => kont Y.K al F G Q (.lst acc) M2),
    ⟨ds.length, M1, al1, F1, [], [], by omega, Ext.refl _ _, W1.hide hD, .nil, q1⟩, ?_⟩
  rintro i m H' ⟨M', al', F', acc, xs, em, e', W', rs, q'⟩
  have smG : Sm G (upd G Dd (.lst xs)) := Sm.new hGD
  by_cases hil : i < ds.length
  · rw [List.drop_eq_getElem_cons hil] at q'
    obtain ⟨hst, q'⟩ := q'
    obtain ⟨go, yl⟩ := (ok al' F' _ H' M' e' smG W' hst i).1 ds[i] (List.getElem?_eq_getElem hil)
    refine .inr ⟨go, fun H2 => ∃ M2 al2 F2 acc2 xs2, Ext al1 F1 al2 F2 ∧ Wd Y.K al2 F2 (upd G Dd (.lst xs2)) H2 M2 ∧ Rps Y.K F2 al2 xs2 acc2 ∧ lcGo st (lcStep ρ vs g t fe) (ds.drop (i + 1)) acc2 M2 (fun acc M2 => kont Y.K al F G Q (.lst acc) M2), ?_, fun x H2 hy => ?_⟩
    · rintro H2 ⟨M2, al2, F2, acc2, xs2, e2, W2, r2, q2⟩
      exact ⟨m - 1, by omega, M2, al2, F2, acc2, xs2, by omega, e2, W2, r2, q2⟩
    · obtain ⟨F2, sm2, W2, r2⟩ := yl x H2 hy
      have e2 : Ext al' F' al' F2 := ⟨⟨[], by simp⟩, sm2⟩
      have esw : Sl Y.K F2 al' (wipe σ vs) (wipeD ρ.v vs) := (es.sl.ext (e1.trans (e'.trans e2))).wipe vs
      refine ⟨ds[i], ⟨wipeD ρ.v vs, noX⟩, M', al', F2, _, W2, esw, rfl, r2, hg _ _ _ _ _ (fun ρ3 M3 q3 al3 F3 H3 σ3 e3 W3 s3 x3 o3 => ?_) q'⟩
      refine ⟨(wipe_eq o3 hj).trans wipe_wipe, ρ3, M3, al3, F3, _, W3, s3, x3, ht _ _ _ _ (fun b M4 q4 al4 F4 H4 e4 W4 => ?_) q3⟩
      cases b with
      | false =>
        exact ⟨M4, al4, F4, acc, xs, e'.trans (e2.trans (e3.trans e4)), W4, rs.ext (e2.trans (e3.trans e4)), q4⟩
      | true =>
        refine ⟨ρ3, M4, al4, F4, _, W4, s3.ext e4, x3, he _ _ _ _ (fun y M5 q5 al5 F5 H5 v5 e5 W5 r5 => ?_) q4⟩
        have eA : Ext al' F' al5 F5 := e2.trans (e3.trans (e4.trans e5))
        have rl := rs.length
        refine ⟨xs, W5.sg _ _ upd_same, Nat.lt_of_lt_of_le (by have := q5.1; omega : xs.length < 100000) (by decide), M5, al5, F5, acc ++ [y], xs ++ [v5], e'.trans eA, W5.rehide, (rs.ext eA).append (.cons r5 .nil), q5.2⟩
  · rw [List.drop_eq_nil_of_le (by omega)] at q'
    refine .inl ⟨(ok al' F' _ H' M' e' smG W' q'.1 i).2 (by omega), ?_⟩
    obtain ⟨W2, e2⟩ := W'.thaw hGD
    exact q'.2 al' _ H' _ (e1.trans (e'.trans e2)) W2 (.lst upd_same (rs.ext e2))
theorem d_lc {elt tg iter : Expr} {ifs : List Expr} {scope : Scope} {own : List (Str × Nat)} {fi : DTI} {g : DTG} {t : DTT} {fe : DTE} {js : List Nat} (hc : X.calm = true) (hN : X.N.Nodup) (hi : DI X tg iter fi) (ok : BlkOk X.N X.env.scope scope own) (hj : ∀ j ∈ js, j ∈ own.map (·.2))
    (hg : ∀ (s : Shared) (H : Hp) (C : Addr) (cl : List (Str × Addr)) (fp : List Addr), DG (X.blk s H scope (compEnvC scope cl C X.env) fp) tg g js)
    (ht : ∀ (s : Shared) (H : Hp) (C : Addr) (cl : List (Str × Addr)) (fp : List Addr), DTTs (X.blk s H scope (compEnvC scope cl C X.env) fp) ifs t)
    (he : ∀ (s : Shared) (H : Hp) (C : Addr) (cl : List (Str × Addr)) (fp : List Addr), DE (X.blk s H scope (compEnvC scope cl C X.env) fp) elt fe)
    (hfs : ∀ x : Value, foldedSetIterable iter X.env x = pure x := by intro _; rfl) : DE X (.ListComp elt [⟨tg, iter, ifs, 0⟩] scope pos) (dLc fi g t fe (own.map (·.2))) := by
  have g0 := (hg X.s_0 (fun _ => none) 0 [] []).mono
  have t0 := (ht X.s_0 (fun _ => none) 0 [] []).2
  have e0 := (he X.s_0 (fun _ => none) 0 [] []).mono
  refine ⟨PE.of (pe_lc hc hN hi.pi ok (fun s H C cl fp => PG.of (hg s H C cl fp).pg fun _ _ _ _ z => LiftGN.of (hg s H C cl fp).mono z) (fun s H C cl fp => PTs.of (ht s H C cl fp).1 fun _ _ _ z => LiftTN.of z) (fun s H C cl fp => PE.of (he s H C cl fp).pe fun _ _ _ z => LiftN.of z) hfs) fun σ H Q h => lc_ok (Y := X) hi.mono g0 t0 e0 hj h, fun ρ M Q Q' w q => ?_⟩
  exact hi.mono _ _ _ _ (fun ds st M1 q1 => lcGo_mono (lcStep_mono g0 t0 e0) _ _ (fun a M2 q2 => w _ _ q2) ds [] M1 q1) q
theorem ds_setLc {i : Nat} {y : Str} {py spos : Pos} {elt tg iter : Expr} {ifs : List Expr} {scope : Scope} {own : List (Str × Nat)} {fi : DTI} {g : DTG} {t : DTT} {fe : DTE} {js : List Nat} (hc : X.calm = true) (hN : X.N.Nodup) (hy : X.N[i]? = some y) (hl : X.env.scope.names.lookup y = some .local)
    (hsw : swapsWith (.ListComp elt [⟨tg, iter, ifs, 0⟩] scope pos) (some (.Name y py)) spos.line X.env = pure true) (hi : DI X tg iter fi) (ok : BlkOk X.N X.env.scope scope own) (hj : ∀ j ∈ js, j ∈ own.map (·.2))
    (hg : ∀ (s : Shared) (H : Hp) (C : Addr) (cl : List (Str × Addr)) (fp : List Addr), DG (X.blk s H scope (compEnvC scope cl C X.env) fp) tg g js)
    (ht : ∀ (s : Shared) (H : Hp) (C : Addr) (cl : List (Str × Addr)) (fp : List Addr), DTTs (X.blk s H scope (compEnvC scope cl C X.env) fp) ifs t)
    (he : ∀ (s : Shared) (H : Hp) (C : Addr) (cl : List (Str × Addr)) (fp : List Addr), DE (X.blk s H scope (compEnvC scope cl C X.env) fp) elt fe)
    (hfs : ∀ x : Value, foldedSetIterable iter X.env x = pure x := by intro _; rfl) : DS X (.Assign [.Name y py] (.ListComp elt [⟨tg, iter, ifs, 0⟩] scope pos) spos) (dAsg (dLc fi g t fe (own.map (·.2))) (dgName i)) := by
  have hd := d_lc (pos := pos) hc hN hi ok hj hg ht he hfs
  refine ⟨PS.of (ps_setLc (g := LiftGN X.K g js) (tt := LiftTN X.K t) (te := LiftN X.K fe) hc hN hy hl hsw hi.pi ok (fun s H C cl fp => PG.of (hg s H C cl fp).pg fun _ _ _ _ z => LiftGN.of (hg s H C cl fp).mono z) (fun s H C cl fp => PTs.of (ht s H C cl fp).1 fun _ _ _ z => LiftTN.of z) (fun s H C cl fp => PE.of (he s H C cl fp).pe fun _ _ _ z => LiftN.of z) hfs) fun E σ H ⟨ρ, M, al, F, G, W, es, q⟩ => ?_, fun D D' ρ M w q => hd.mono _ _ _ _ (fun d M1 q1 => w.nx _ _ q1) q⟩
  refine lc_ok (Y := X) hi.mono (hg X.s_0 (fun _ => none) 0 [] []).mono (ht X.s_0 (fun _ => none) 0 [] []).2 (he X.s_0 (fun _ => none) 0 [] []).mono hj ?_
  exact hd.seq W es q fun d M1 al1 F1 H1 v q1 e1 W1 r1 s1 => q1 al1 F1 H1 _ e1 W1 (s1.sl.set r1 i) rfl
end
end DL
namespace DL
open PySem PySem.Spec PyProof.Rows L2
theorem le_line {n : Nat} (h : n ≤ 100000) : n ≤ sizeLine := Nat.le_trans h (by decide)
theorem lt_line {n : Nat} (h : n < 100000) : n < sizeLine := Nat.lt_of_lt_of_le h (by decide)
/-- the list that a datum stands for -/
def seqOf : D → Sto → Option (List D)
  | .lst ds, _ => some ds
  | .ref n, M => match M[n]? with
    | some (.lst ds) => some ds
    | _ => none
  | _, _ => none
theorem seqOf_ok {K : PySem.W.Frag} {al : List Addr} {F G H : Hp} {M : Sto} {v : V} {d : D} {ds : List D} (W : Wd K al F G H M) (r : Rp K F al v d) (h : seqOf d M = some ds) : ∃ a xs, v = .ref a ∧ H a = some (.lst xs) ∧ Rps K F al xs ds := by
  cases r with
  | lst a b => cases h; exact ⟨_, _, rfl, W.sm _ _ a, b⟩
  | ref a =>
    unfold seqOf at h
    dsimp only at h
    split at h
    · next e =>
      cases h
      obtain ⟨xs, q, rs⟩ := W.cel _ _ _ e a
      exact ⟨_, xs, rfl, q, rs⟩
    · cases h
  | _ => cases h
section
variable {K : PySem.W.Frag} {al : List Addr} {F G H : Hp} {M : Sto} {Q : VK}
theorem kont.here {d : D} {v : V} (k : kont K al F G Q d M) (W : Wd K al F G H M) (r : Rp K F al v d) : Q v H := k al F H v (Ext.refl _ _) W r
theorem kont.tup {ds : List D} {xs : List V} {p : Addr} (k : kont K al F G Q (.tup ds) M) (W : Wd K al F G H M) (r : Rps K F al xs ds) (hp : H p = none) : Q (.ref p) (upd H p (.tup xs)) := by
  obtain ⟨W1, e1⟩ := W.newF (o := .tup xs) hp
  exact k al _ _ _ e1 W1 (.tup upd_same (r.ext e1))
theorem kont.lst {ds : List D} {xs : List V} {p : Addr} (k : kont K al F G Q (.lst ds) M) (W : Wd K al F G H M) (r : Rps K F al xs ds) (hp : H p = none) : Q (.ref p) (upd H p (.lst xs)) := by
  obtain ⟨W1, e1⟩ := W.newF (o := .lst xs) hp
  exact k al _ _ _ e1 W1 (.lst upd_same (r.ext e1))
theorem kont.new {ds : List D} {xs : List V} {p : Addr} (k : kont K al F G Q (.ref M.length) (M ++ [.lst ds])) (W : Wd K al F G H M) (r : Rps K F al xs ds) (hp : H p = none) : Q (.ref p) (upd H p (.lst xs)) := by
  have e : Ext al F (al ++ [p]) F := ⟨⟨[p], rfl⟩, Sm.refl F⟩
  obtain ⟨W1, e1⟩ := W.newM (o := .lst xs) (c := .lst ds) hp ⟨xs, upd_same, r.ext e⟩
  exact k _ _ _ _ e1 W1 (.ref (by rw [← W.len, List.getElem?_append_right (Nat.le_refl _)]; simp))
end
section
variable {X : Cx} {a b c : Expr} {fa fb fc : DTE} {pos : Pos} {ta tb : DTT}
@[reducible] def gInt (f : Int → Int → D) (C : Int → Int → Prop) : G2 := fun x y M Q => match x, y with
  | .int i, .int j => C i j ∧ Q (f i j) M
  | _, _ => False
theorem gInt_mono (f : Int → Int → D) (C : Int → Int → Prop) : Mono2 (gInt f C) := fun x y M Q Q' w q => by
  unfold gInt at q ⊢
  split at q
  · exact ⟨q.1, w _ _ q.2⟩
  · exact q.elim
theorem o_int {f : Value → Value → Sem Value} {g : Int → Int → V} {h : Int → Int → D} {C : Int → Int → Prop} (ho : OpR X f (rI C g)) (hr : ∀ i j F al, Rp X.K F al (g i j) (h i j)) : O2 X f (gInt h C) :=
  O2.of ho (gInt_mono h C) fun al F G H M x y dx dy Q W r1 r2 q => by
    cases r1 <;> first | exact q.elim | (cases r2 <;> first | exact q.elim | exact ⟨_, _, rfl, rfl, q.1, q.2.here W (hr _ _ F al)⟩)
@[reducible] def gI0 (f : Int → Int → D) : G2 := fun x y M Q => match x, y with
  | .int i, .int j => Q (f i j) M
  | _, _ => False
theorem gI0_mono (f : Int → Int → D) : Mono2 (gI0 f) := fun x y M Q Q' w q => by
  unfold gI0 at q ⊢
  split at q
  · exact w _ _ q
  · exact q.elim
theorem o_int0 {f : Value → Value → Sem Value} {g : Int → Int → V} {h : Int → Int → D} (ho : OpR X f (rI0 g)) (hr : ∀ i j F al, Rp X.K F al (g i j) (h i j)) : O2 X f (gI0 h) :=
  O2.of ho (gI0_mono h) fun al F G H M x y dx dy Q W r1 r2 q => by
    cases r1 <;> first | exact q.elim | (cases r2 <;> first | exact q.elim | exact ⟨_, _, rfl, rfl, kont.here q W (hr _ _ F al)⟩)
theorem o_sub : O2 X (binaryOp .Sub) (gI0 fun i j => .int (i - j)) := o_int0 op_sub fun _ _ _ _ => .int _
theorem o_fdiv : O2 X (binaryOp .FloorDiv) (gInt (fun i j => .int (i / j)) CDiv) := o_int op_fdiv fun _ _ _ _ => .int _
theorem o_mod : O2 X (binaryOp .Mod) (gInt (fun i j => .int (i % j)) fun _ j => 0 < j) := o_int op_mod fun _ _ _ _ => .int _
theorem o_pow : O2 X (binaryOp .Pow) (gInt (fun i j => .int (i ^ j.toNat)) CPow) := o_int op_pow fun _ _ _ _ => .int _
theorem o_lt : O2 X (compareOp .Lt) (gI0 fun i j => .bl (decide (i < j))) := o_int0 op_lt fun _ _ _ _ => .bl _
theorem o_gt : O2 X (compareOp .Gt) (gI0 fun i j => .bl (decide (j < i))) := o_int0 op_gt fun _ _ _ _ => .bl _
theorem o_ge : O2 X (compareOp .GtE) (gI0 fun i j => .bl (decide (j ≤ i))) := o_int0 op_ge fun _ _ _ _ => .bl _
@[reducible] def gNeg : G1 := fun x M Q => match x with
  | .int i => Q (.int (-i)) M
  | _ => False
theorem O1.of {f : Value → Sem Value} {r : V → Hp → VK → Prop} {g : G1} (h : UnR X f r) (m : Mono1 g)
    (k : ∀ al F G H M x dx Q, Wd X.K al F G H M → Rp X.K F al x dx → g dx M (kont X.K al F G Q) → r x H Q) : O1 X f g :=
  ⟨fun pins s σ al F G H M x v dx Q I rx W r1 q => h pins s σ H x v Q I rx (k al F G H M x dx Q W r1 q), m⟩
theorem o_neg : O1 X (unaryOp .USub) gNeg := O1.of un_neg (fun x M Q Q' w q => by
    unfold gNeg at q ⊢
    split at q
    · exact w _ _ q
    · exact q.elim) fun al F G H M x dx Q W r1 q => by
  cases r1 <;> first | exact q.elim | exact ⟨_, rfl, kont.here q W (.int _)⟩
/-- + : ints, texts, tuples, lists -/
@[reducible] def gAdd : G2 := fun x y M Q => match x, y with
  | .int i, .int j => Q (.int (i + j)) M
  | .str i, .str j => i.length + j.length ≤ 100000 ∧ Q (.str (i ++ j)) M
  | .tup i, .tup j => i.length + j.length ≤ 100000 ∧ Q (.tup (i ++ j)) M
  | x, y => match seqOf x M, seqOf y M with
    | some i, some j => i.length + j.length ≤ 100000 ∧ Q (.lst (i ++ j)) M
    | _, _ => False
theorem gAdd_mono : Mono2 gAdd := fun x y M Q Q' w q => by
  unfold gAdd at q ⊢
  split at q
  · exact w _ _ q
  · exact ⟨q.1, w _ _ q.2⟩
  · exact ⟨q.1, w _ _ q.2⟩
  · split at q
    · exact ⟨q.1, w _ _ q.2⟩
    · exact q.elim
theorem o_add : O2 X (binaryOp .Add) gAdd := O2.of (OpR.or op_add (OpR.or op_add_str (OpR.or op_catA op_cat))) gAdd_mono fun al F G H M x y dx dy Q W r1 r2 q => by
  unfold gAdd at q
  split at q
  · cases r1; cases r2
    exact .inl ⟨_, _, rfl, rfl, kont.here q W (.int _)⟩
  · cases r1; cases r2
    exact .inr (.inl ⟨_, _, rfl, rfl, le_line q.1, kont.here q.2 W (.str _)⟩)
  · cases r1 with
    | tup a1 b1 =>
      cases r2 with
      | tup a2 b2 =>
        have l1 := b1.length
        have l2 := b2.length
        refine .inr (.inr (.inl ⟨_, _, _, _, rfl, rfl, SqT.of (W.sm _ _ a1), SqT.of (W.sm _ _ a2), le_line (by have := q.1; omega), fun z => ?_, fun _ z => ?_, fun _ _ p hp => kont.tup q.2 W (b1.append b2) hp⟩))
        · subst z
          cases b1
          exact kont.here q.2 W (.tup a2 b2)
        · subst z
          cases b2
          rw [List.append_nil] at q
          exact kont.here q.2 W (.tup a1 b1)
  · split at q
    · next e1 e2 =>
      obtain ⟨p1, xs1, rfl, h1, s1⟩ := seqOf_ok W r1 e1
      obtain ⟨p2, xs2, rfl, h2, s2⟩ := seqOf_ok W r2 e2
      have l1 := s1.length
      have l2 := s2.length
      exact .inr (.inr (.inr ⟨_, _, _, _, rfl, rfl, h1, h2, le_line (by have := q.1; omega), fun p hp => kont.lst q.2 W (s1.append s2) hp⟩))
    · exact q.elim
theorem Rps.rep {K : PySem.W.Frag} {F : Hp} {al : List Addr} {xs : List V} {ds : List D} (h : Rps K F al xs ds) : ∀ k : Nat, Rps K F al (List.replicate k xs).flatten (List.replicate k ds).flatten
  | 0 => .nil
  | k + 1 => by rw [List.replicate_succ, List.replicate_succ, List.flatten_cons, List.flatten_cons]; exact h.append (h.rep k)
/-- * : ints; lists and tuples some times -/
@[reducible] def gMul : G2 := fun x y M Q => match x, y with
  | .int i, .int j => CMul i j ∧ Q (.int (i * j)) M
  | .tup ds, .int k => ds ≠ [] ∧ 2 ≤ k ∧ k ≤ 1000 ∧ ds.length ≤ 1000 ∧ Q (.tup (List.replicate k.toNat ds).flatten) M
  | x, .int k => match seqOf x M with
    | some ds => 0 ≤ k ∧ k < 100000 ∧ ds.length * k.toNat ≤ 100000 ∧ Q (.lst (List.replicate k.toNat ds).flatten) M
    | none => False
  | _, _ => False
def isNon : D → Bool
  | .non => true
  | _ => false
@[reducible] def gIsN (neg : Bool) : G2 := fun x y M Q => match y with
  | .non => Q (.bl (isNon x ^^ neg)) M
  | _ => False
theorem gIsN_mono (neg : Bool) : Mono2 (gIsN neg) := fun x y M Q Q' w q => by
  unfold gIsN at q ⊢
  split at q
  · exact w _ _ q
  · exact q.elim
theorem isNon_ok {K : PySem.W.Frag} {F : Hp} {al : List Addr} {v : V} {d : D} (r : Rp K F al v d) : decide (v = .non) = isNon d := by
  cases r <;> simp [isNon]
theorem o_isN : O2 X (compareOp .Is) (gIsN false) := O2.of op_isN (gIsN_mono _) fun al F G H M x y dx dy Q W r1 r2 q => by
  unfold gIsN at q
  split at q
  · cases r2
    rw [Bool.xor_false] at q
    exact ⟨rfl, by rw [isNon_ok r1]; exact kont.here q W (.bl _)⟩
  · exact q.elim
mutual
def toPy : D → PyData
  | .non => .none
  | .bl b => .bool b
  | .int i => .int i
  | .str x => .str x
  | .tup ds => .tuple (toPys ds)
  | .lst ds => .list (toPys ds)
  | .dct _ _ => .none
  | .ref _ => .none
  | .scr _ => .none
  | .exo _ _ _ _ _ => .none
  | .clo _ _ _ _ => .none
def toPys : List D → List PyData
  | [] => []
  | d :: ds => toPy d :: toPys ds
end
mutual
def pu : D → Bool
  | .non | .bl _ | .int _ | .str _ => true
  | .tup ds => pus ds
  | .lst ds => pus ds
  | .dct _ _ | .ref _ | .scr _ | .exo _ _ _ _ _ | .clo _ _ _ _ => false
def pus : List D → Bool
  | [] => true
  | d :: ds => pu d && pus ds
end
section
variable {K : PySem.W.Frag} {al : List Addr} {F G H : Hp} {M : Sto}
mutual
theorem dp_of (sm : Sm F H) : ∀ {d : D} {v : V}, Rp K F al v d → pu d = true → Dp K H v (toPy d)
  | .non, _, r, _ => by cases r; exact .non
  | .bl _, _, r, _ => by cases r; exact .bl _
  | .int _, _, r, _ => by cases r; exact .int _
  | .str _, _, r, _ => by cases r; exact .str _
  | .tup _, _, r, h => by
    cases r with
    | tup a b => exact .tup (SqT.of (sm _ _ a)) (dps_of sm b h)
  | .lst _, _, r, h => by
    cases r with
    | lst a b => exact .lst (SqL.of (sm _ _ a)) (dps_of sm b h)
  | .dct _ _, _, _, h => by cases h
  | .ref _, _, _, h => by cases h
  | .scr _, _, _, h => by cases h
  | .exo _ _ _ _ _, _, _, h => by cases h
  | .clo _ _ _ _, _, _, h => by cases h
theorem dps_of (sm : Sm F H) : ∀ {ds : List D} {vs : List V}, Rps K F al vs ds → pus ds = true → DpAll K H vs (toPys ds)
  | [], _, r, _ => by cases r; exact .nil
  | d :: ds, _, r, h => by
    cases r with
    | cons a b =>
      have h' : pu d = true ∧ pus ds = true := by simpa [pus] using h
      exact .cons (dp_of sm a h'.1) (dps_of sm b h'.2)
end
/-- a list of the store, as it stands -/
def vw : D → Sto → D
  | .ref n, M => match M[n]? with
    | some (.lst ds) => .lst ds
    | _ => .ref n
  | d, _ => d
theorem dp_vw {v : V} {d : D} (W : Wd K al F G H M) (r : Rp K F al v d) (h : pu (vw d M) = true) : Dp K H v (toPy (vw d M)) := by
  cases r with
  | ref a =>
    unfold vw at h ⊢
    dsimp only at h ⊢
    split at h
    · next ds e =>
      obtain ⟨xs, q, rs⟩ := W.cel _ _ _ e a
      exact .lst (SqL.of q) (dps_of W.sm rs h)
    · cases h
  | non => exact .non
  | bl b => exact .bl b
  | int i => exact .int i
  | str x => exact .str x
  | tup a b => exact dp_of W.sm (.tup a b) h
  | lst a b => exact dp_of W.sm (.lst a b) h
  | dct a l b => cases h
  | scr a => cases h
  | exo0 => cases h
  | exo a l b => cases h
  | clo a b => cases h
end
def eqOk (d : D) (M : Sto) : Prop := pu (vw d M) = true ∧ SeqAt.shaped (toPy (vw d M)) = true
@[reducible] def gEq (neg : Bool) : G2 := fun x y M Q => match x, y with
  | .int i, .int j => Q (.bl (decide (i = j) ^^ neg)) M
  | .str i, .str j => Q (.bl (decide (i = j) ^^ neg)) M
  | x, y => eqOk x M ∧ eqOk y M ∧ Q (.bl (PyData.eqv (toPy (vw x M)) (toPy (vw y M)) ^^ neg)) M
theorem gEq_mono (neg : Bool) : Mono2 (gEq neg) := fun x y M Q Q' w q => by
  unfold gEq at q ⊢
  split at q
  · exact w _ _ q
  · exact w _ _ q
  · exact ⟨q.1, q.2.1, w _ _ q.2.2⟩
theorem o_eq (hu : X.A.units + 64 < cLine) : O2 X (compareOp .Eq) (gEq false) := O2.of (OpR.or op_eq (op_eqD hu)) (gEq_mono _) fun al F G H M x y dx dy Q W r1 r2 q => by
  unfold gEq at q
  split at q
  · cases r1; cases r2
    rw [Bool.xor_false] at q
    refine .inl ⟨rfl, ?_⟩
    have e : ∀ i j : Int, decide (V.int i = V.int j) = decide (i = j) := fun i j => by simp
    rw [e]
    exact kont.here q W (.bl _)
  · cases r1; cases r2
    rw [Bool.xor_false] at q
    refine .inl ⟨rfl, ?_⟩
    have e : ∀ i j : Str, decide (V.str i = V.str j) = decide (i = j) := fun i j => by simp
    rw [e]
    exact kont.here q W (.bl _)
  · rw [Bool.xor_false] at q
    exact .inr ⟨_, _, dp_vw W r1 q.1.1, dp_vw W r2 q.2.1.1, q.1.2, q.2.1.2, kont.here q.2.2 W (.bl _)⟩
theorem o_ne (hu : X.A.units + 64 < cLine) : O2 X (compareOp .NotEq) (gEq true) := O2.of (OpR.or op_ne (op_neD hu)) (gEq_mono _) fun al F G H M x y dx dy Q W r1 r2 q => by
  unfold gEq at q
  split at q
  · cases r1; cases r2
    rw [Bool.xor_true] at q
    refine .inl ⟨rfl, ?_⟩
    have e : ∀ i j : Int, (!decide (V.int i = V.int j)) = !decide (i = j) := fun i j => by simp
    rw [e]
    exact kont.here q W (.bl _)
  · cases r1; cases r2
    rw [Bool.xor_true] at q
    refine .inl ⟨rfl, ?_⟩
    have e : ∀ i j : Str, (!decide (V.str i = V.str j)) = !decide (i = j) := fun i j => by simp
    rw [e]
    exact kont.here q W (.bl _)
  · rw [Bool.xor_true] at q
    exact .inr ⟨_, _, dp_vw W r1 q.1.1, dp_vw W r2 q.2.1.1, q.1.2, q.2.1.2, kont.here q.2.2 W (.bl _)⟩
def rN (K : PySem.W.Frag) (g : GN) : List V → Hp → VK → Prop := fun xs H Q => ∃ ds al F G M, Wd K al F G H M ∧ Rps K F al xs ds ∧ g ds M (kont K al F G Q)
theorem ON.callR {f : Value} {g : GN} (h : ON X f g) : CallR X f (rN X.K g) := fun pins s σ H xs us Q I r ⟨ds, al, F, G, M, W, rs, q⟩ => h.run pins s σ al F G H M xs us ds Q I r W rs q
theorem dApp_mono {es : List Expr} {fr : DTA} {g : GN} (ha : DA X es fr) (hg : MonoN g) : ∀ ρ M (Q Q' : DK), (∀ d M, Q d M → Q' d M) → dApp g fr ρ M Q → dApp g fr ρ M Q' :=
  fun ρ M Q Q' w q => ha.mono _ _ _ _ (fun ds M1 q1 => hg _ _ _ _ w q1) q
theorem app_ok {es : List Expr} {fr : DTA} {g : GN} (ha : DA X es fr) (hg : MonoN g) {σ : L2.St} {H : Hp} {Q : VK} (h : Lift X (dApp g fr) σ H Q) : tCB (rN X.K g) (LiftA X fr) σ H Q := by
  obtain ⟨ρ, M, al, F, G, W, es, q⟩ := h
  exact ha.seq W es q fun ds M1 al1 F1 H1 vs q1 e1 W1 r1 s1 => ⟨ds, al1, F1, G, M1, W1, r1, hg _ _ _ _ (fun d M2 k => kont.ext k e1) q1⟩
theorem d_callB {x : Str} {p : Pos} {es : List Expr} {fr : DTA} {id : String} {g : GN} (ho : ON X (.builtin id) g) (hg : Gl X x) (hm : X.mg x = none) (hv : bootBuiltins x = some (.builtin id)) (ha : DA X (a :: es) fr) (hn : x ≠ "__name__" := by decide) (hd : (x == ("__debug__" : Str)) = false := by decide)
    (hs : starEach (a :: es) X.env = (false, eval a X.env) :: starEach es X.env := by rfl) (hpl : (backTo pos (starEach es X.env)).any (·.1) = false := by rfl) : DE X (.Call (.Name x p) (a :: es) [] pos) (dApp g fr) :=
  ⟨PE.of (pe_callB ho.callR hg hm hv ha.pa hn hd hs hpl) fun σ H Q h => app_ok ha ho.mono h, dApp_mono ha ho.mono⟩
theorem d_callTy {x : Str} {p : Pos} {es : List Expr} {fr : DTA} {T : String} {g : GN} (ho : ON X (.type T) g) (hg : Gl X x) (hm : X.mg x = none) (hv : bootBuiltins x = some (.type T)) (ha : DA X (a :: es) fr) (hn : x ≠ "__name__" := by decide) (hd : (x == ("__debug__" : Str)) = false := by decide)
    (hs : starEach (a :: es) X.env = (false, eval a X.env) :: starEach es X.env := by rfl) (hpl : (backTo pos (starEach es X.env)).any (·.1) = false := by rfl) : DE X (.Call (.Name x p) (a :: es) [] pos) (dApp g fr) :=
  ⟨PE.of (pe_callTy ho.callR hg hm hv ha.pa hn hd hs hpl) fun σ H Q h => app_ok ha ho.mono h, dApp_mono ha ho.mono⟩
@[reducible] def g1 (g : G1) : GN := fun ds M Q => match ds with
  | [d] => g d M Q
  | _ => False
theorem g1_mono {g : G1} (h : Mono1 g) : MonoN (g1 g) := fun ds M Q Q' w q => by
  unfold g1 at q ⊢
  split at q
  · exact h _ _ _ _ w q
  · exact q.elim
theorem ON.of1 {f : Value} {r : List V → Hp → VK → Prop} {g : G1} (h : CallR X f r) (m : Mono1 g)
    (k : ∀ al F G H M x d Q, Wd X.K al F G H M → Rp X.K F al x d → g d M (kont X.K al F G Q) → r [x] H Q) : ON X f (g1 g) :=
  ON.of h (g1_mono m) fun al F G H M xs ds Q W rs q => by
    match ds, rs, q with
    | [d], .cons r .nil, q => exact k al F G H M _ d Q W r q
    | [], _, q => exact q.elim
    | _ :: _ :: _, _, q => exact q.elim
/-- len -/
def lenOf : D → Sto → Option Nat
  | .tup ds, _ => some ds.length
  | .scr ns, _ => some ns.length
  | d, M => match seqOf d M with
    | some ds => some ds.length
    | none => none
@[reducible] def gLen : G1 := fun d M Q => match d with
  | .str x => x.length ≤ 100000 ∧ Q (.int x.length) M
  | d => match lenOf d M with
    | some n => Q (.int n) M
    | none => False
theorem gLen_mono : Mono1 gLen := fun d M Q Q' w q => by
  unfold gLen at q ⊢
  split at q
  · exact ⟨q.1, w _ _ q.2⟩
  · split at q
    · exact w _ _ q
    · exact q.elim
theorem o_len : ON X (.builtin "len") (g1 gLen) := ON.of1 call_len gLen_mono fun al F G H M x d Q W r q => by
  unfold gLen at q
  split at q
  · cases r
    exact ⟨_, _, rfl, ⟨le_line q.1, rfl⟩, kont.here q.2 W (.int _)⟩
  · split at q
    · next e =>
      unfold lenOf at e
      split at e
      · cases e
        cases r with
        | tup a b =>
          rw [← b.length] at q
          exact ⟨_, _, rfl, .inr ⟨_, SqT.of (W.sm _ _ a), rfl⟩, kont.here q W (.int _)⟩
      · cases e
        cases r with
        | scr a => exact ⟨_, _, rfl, .inl ⟨_, W.sm.l a, (List.length_map ..).symm⟩, kont.here q W (.int _)⟩
      · cases e2 : seqOf d M with
        | none => rw [e2] at e; cases e
        | some ds =>
          rw [e2] at e
          cases e
          obtain ⟨p1, xs1, rfl, h1, s1⟩ := seqOf_ok W r e2
          rw [← s1.length] at q
          exact ⟨_, _, rfl, .inl ⟨_, SqL.of h1, rfl⟩, kont.here q W (.int _)⟩
    · exact q.elim
/-- tuple(..), list(..) -/
@[reducible] def gTuple : G1 := fun d M Q => match d with
  | .tup ds => Q (.tup ds) M
  | d => match seqOf d M with
    | some ds => Q (.tup ds) M
    | none => False
theorem gTuple_mono : Mono1 gTuple := fun d M Q Q' w q => by
  unfold gTuple at q ⊢
  split at q
  · exact w _ _ q
  · split at q
    · exact w _ _ q
    · exact q.elim
theorem o_tuple : ON X (.type "tuple") (g1 gTuple) := ON.of1 call_tuple_of gTuple_mono fun al F G H M x d Q W r q => by
  unfold gTuple at q
  split at q
  · cases r with
    | tup a b => exact ⟨_, _, rfl, .inr ⟨SqT.of (W.sm _ _ a), kont.here q W (.tup a b)⟩⟩
  · split at q
    · next e =>
      obtain ⟨p1, xs1, rfl, h1, s1⟩ := seqOf_ok W r e
      exact ⟨_, _, rfl, .inl ⟨SqL.of h1, fun l hl => kont.tup q W s1 hl⟩⟩
    · exact q.elim
@[reducible] def gList : G1 := fun d M Q => match d with
  | .tup ds => Q (.lst ds) M
  | d => match seqOf d M with
    | some ds => Q (.lst ds) M
    | none => False
/-- abs, max, min of two; int, str of an int -/
@[reducible] def gAbs : G1 := fun d M Q => match d with
  | .int i => Q (.int (if i < 0 then -i else i)) M
  | _ => False
theorem o_abs : ON X (.builtin "abs") (g1 gAbs) := ON.of1 call_abs (fun d M Q Q' w q => by
    unfold gAbs at q ⊢
    split at q
    · exact w _ _ q
    · exact q.elim) fun al F G H M x d Q W r q => by
  cases r <;> first | exact q.elim | exact ⟨_, rfl, kont.here q W (.int _)⟩
@[reducible] def g2I (f : Int → Int → Int) : GN := fun ds M Q => match ds with
  | [.int i, .int j] => Q (.int (f i j)) M
  | _ => False
theorem g2I_mono (f : Int → Int → Int) : MonoN (g2I f) := fun ds M Q Q' w q => by
  unfold g2I at q ⊢
  split at q
  · exact w _ _ q
  · exact q.elim
@[reducible] def gStrI : G1 := fun d M Q => match d with
  | .int i => i.natAbs.log2 < 1920 ∧ Q (.str (Str.ofString (toString i))) M
  | _ => False
@[reducible] def gInt1 : G1 := fun d M Q => match d with
  | .int i => Q (.int i) M
  | .bl b => Q (.int (if b = true then 1 else 0)) M
  | _ => False
theorem o_int1 : ON X (.type "int") (g1 gInt1) := ON.of1 call_int1 (fun d M Q Q' w q => by
    unfold gInt1 at q ⊢
    split at q
    · exact w _ _ q
    · exact w _ _ q
    · exact q.elim) fun al F G H M x d Q W r q => by
  cases r <;> first | exact q.elim | exact .inl ⟨_, rfl, kont.here q W (.int _)⟩ | exact .inr ⟨_, rfl, kont.here q W (.int _)⟩
/-- sum, min, max of a list of ints; all, any of a list of bools -/
def intsOf : List D → Option (List Int)
  | [] => some []
  | .int i :: r => (intsOf r).map (i :: ·)
  | _ :: _ => none
theorem intsOf_eq : ∀ {ds : List D} {ns : List Int}, intsOf ds = some ns → ds = ns.map D.int
  | [], _, h => by cases h; rfl
  | d :: r, ns, h => by
    cases d <;> first | (cases h; done) | skip
    unfold intsOf at h
    cases e : intsOf r with
    | none => rw [e] at h; cases h
    | some ms => rw [e] at h; cases h; rw [intsOf_eq e]; rfl
def blsOf : List D → Option (List Bool)
  | [] => some []
  | .bl i :: r => (blsOf r).map (i :: ·)
  | _ :: _ => none
theorem blsOf_eq : ∀ {ds : List D} {ns : List Bool}, blsOf ds = some ns → ds = ns.map D.bl
  | [], _, h => by cases h; rfl
  | d :: r, ns, h => by
    cases d <;> first | (cases h; done) | skip
    unfold blsOf at h
    cases e : blsOf r with
    | none => rw [e] at h; cases h
    | some ms => rw [e] at h; cases h; rw [blsOf_eq e]; rfl
def minI : List Int → Int
  | [] => 0
  | [x] => x
  | x :: y :: r => min x (minI (y :: r))
def maxI : List Int → Int
  | [] => 0
  | [x] => x
  | x :: y :: r => max x (maxI (y :: r))
theorem minI_le : ∀ {ns : List Int} {x : Int}, x ∈ ns → minI ns ≤ x
  | [y], x, h => by simp at h; subst h; exact Int.le_refl _
  | y :: z :: r, x, h => by
    unfold minI
    rcases List.mem_cons.mp h with rfl | h
    · exact Int.min_le_left _ _
    · exact Int.le_trans (Int.min_le_right _ _) (minI_le h)
theorem minI_mem : ∀ {ns : List Int}, ns ≠ [] → minI ns ∈ ns
  | [y], _ => by simp [minI]
  | y :: z :: r, _ => by
    unfold minI
    have ih := minI_mem (ns := z :: r) (by simp)
    rcases Int.le_total y (minI (z :: r)) with h | h
    · rw [Int.min_eq_left h]; exact List.mem_cons_self
    · rw [Int.min_eq_right h]; exact List.mem_cons_of_mem _ ih
theorem le_maxI : ∀ {ns : List Int} {x : Int}, x ∈ ns → x ≤ maxI ns
  | [y], x, h => by simp at h; subst h; exact Int.le_refl _
  | y :: z :: r, x, h => by
    unfold maxI
    rcases List.mem_cons.mp h with rfl | h
    · exact Int.le_max_left _ _
    · exact Int.le_trans (le_maxI h) (Int.le_max_right _ _)
theorem maxI_mem : ∀ {ns : List Int}, ns ≠ [] → maxI ns ∈ ns
  | [y], _ => by simp [maxI]
  | y :: z :: r, _ => by
    unfold maxI
    have ih := maxI_mem (ns := z :: r) (by simp)
    rcases Int.le_total y (maxI (z :: r)) with h | h
    · rw [Int.max_eq_right h]; exact List.mem_cons_of_mem _ ih
    · rw [Int.max_eq_left h]; exact List.mem_cons_self
theorem minI_uniq {ns : List Int} {m : Int} (h : m ∈ ns) (l : ∀ x ∈ ns, m ≤ x) : minI ns = m :=
  Int.le_antisymm (minI_le h) (l _ (minI_mem (List.ne_nil_of_mem h)))
theorem maxI_uniq {ns : List Int} {m : Int} (h : m ∈ ns) (l : ∀ x ∈ ns, x ≤ m) : maxI ns = m :=
  Int.le_antisymm (l _ (maxI_mem (List.ne_nil_of_mem h))) (le_maxI h)
@[reducible] def gInts (f : List Int → Sto → DK → Prop) : G1 := fun d M Q => match seqOf d M with
  | some ds => match intsOf ds with
    | some ns => f ns M Q
    | none => False
  | none => False
theorem gInts_mono {f : List Int → Sto → DK → Prop} (h : ∀ ns M (Q Q' : DK), (∀ d M, Q d M → Q' d M) → f ns M Q → f ns M Q') : Mono1 (gInts f) := fun d M Q Q' w q => by
  unfold gInts at q ⊢
  split at q
  · split at q
    · exact h _ _ _ _ w q
    · exact q.elim
  · exact q.elim
theorem gInts_ok {f : List Int → Sto → DK → Prop} {K : PySem.W.Frag} {al : List Addr} {F G H : Hp} {M : Sto} {v : V} {d : D} {Q : DK} (W : Wd K al F G H M) (r : Rp K F al v d) (h : gInts f d M Q) : ∃ a ns, v = .ref a ∧ SqL K H a (ns.map V.int) ∧ f ns M Q := by
  unfold gInts at h
  split at h
  · next ds e2 =>
    split at h
    · next ns e =>
      have e3 := intsOf_eq e
      subst e3
      obtain ⟨p1, xs1, rfl, h1, s1⟩ := seqOf_ok W r e2
      rw [s1.ints] at h1
      exact ⟨_, ns, rfl, SqL.of h1, h⟩
    · exact h.elim
  · exact h.elim
@[reducible] def fSum : List Int → Sto → DK → Prop := fun ns M Q => Q (.int ns.sum) M
@[reducible] def fMax : List Int → Sto → DK → Prop := fun ns M Q => ns ≠ [] ∧ Q (.int (maxI ns)) M
theorem o_sum (hc : X.calm = true) : ON X (.builtin "sum") (g1 (gInts fSum)) := ON.of1 (cr_sum hc) (gInts_mono fun _ _ _ _ w q => w _ _ q) fun al F G H M x d Q W r q => by
  obtain ⟨p, ns, rfl, h, k⟩ := gInts_ok W r q
  exact ⟨p, ns, rfl, h, kont.here k W (.int _)⟩
theorem len_pos {ns : List Int} (h : ns ≠ []) : 0 < ns.length := List.length_pos_iff.mpr h
theorem o_max2 (hc : X.calm = true) : ON X (.builtin "max") (g2I fun m n => if n > m then n else m) := ON.of (call_max2 hc) (g2I_mono _) fun al F G H M xs ds Q W rs q => by
  unfold g2I at q
  split at q
  · cases rs with
    | cons r1 rs =>
      cases rs with
      | cons r2 rs =>
        cases rs; cases r1; cases r2
        exact ⟨_, _, rfl, kont.here q W (.int _)⟩
  · exact q.elim
theorem o_min2 (hc : X.calm = true) : ON X (.builtin "min") (g2I fun m n => if n < m then n else m) := ON.of (call_min2 hc) (g2I_mono _) fun al F G H M xs ds Q W rs q => by
  unfold g2I at q
  split at q
  · cases rs with
    | cons r1 rs =>
      cases rs with
      | cons r2 rs =>
        cases rs; cases r1; cases r2
        exact ⟨_, _, rfl, kont.here q W (.int _)⟩
  · exact q.elim
end
end DL
namespace DL
open PySem PySem.Spec PyProof.Rows L2
section
variable {X : Cx} {a b c : Expr} {fa fb fc : DTE} {pos : Pos} {ta tb : DTT} {es : List Expr} {fr : DTA}
@[reducible] def dTup (fr : DTA) : DTE := fun ρ M Q => fr ρ M fun ds M1 => ds.length ≤ 100000 ∧ Q (.tup ds) M1
@[reducible] def dLst (fr : DTA) : DTE := fun ρ M Q => fr ρ M fun ds M1 => ds.length ≤ 100000 ∧ Q (.lst ds) M1
/-- a list that will be changed -/
@[reducible] def dLstM (fr : DTA) : DTE := fun ρ M Q => fr ρ M fun ds M1 => ds.length ≤ 100000 ∧ Q (.ref M1.length) (M1 ++ [.lst ds])
theorem d_tup {k : Nat} (h : DA X es fr) : DE X (.Tuple es k pos) (dTup fr) := by
  refine ⟨PE.of (pe_tup h.pa) fun σ H Q ⟨ρ, M, al, F, G, W, s, q⟩ => ?_, fun ρ M Q Q' w q => h.mono _ _ _ _ (fun ds M1 q1 => ⟨q1.1, w _ _ q1.2⟩) q⟩
  refine h.seq W s q fun ds M1 al1 F1 H1 vs q1 e1 W1 r1 s1 => ⟨le_line (by rw [r1.length]; exact q1.1), fun p hp => kont.tup (kont.ext q1.2 e1) W1 r1 hp⟩
theorem d_lst (h : DA X es fr) : DE X (.List es pos) (dLst fr) := by
  refine ⟨PE.of (pe_lst h.pa) fun σ H Q ⟨ρ, M, al, F, G, W, s, q⟩ => ?_, fun ρ M Q Q' w q => h.mono _ _ _ _ (fun ds M1 q1 => ⟨q1.1, w _ _ q1.2⟩) q⟩
  refine h.seq W s q fun ds M1 al1 F1 H1 vs q1 e1 W1 r1 s1 => ⟨le_line (by rw [r1.length]; exact q1.1), fun p hp => kont.lst (kont.ext q1.2 e1) W1 r1 hp⟩
theorem d_lstM (h : DA X es fr) : DE X (.List es pos) (dLstM fr) := by
  refine ⟨PE.of (pe_lst h.pa) fun σ H Q ⟨ρ, M, al, F, G, W, s, q⟩ => ?_, fun ρ M Q Q' w q => h.mono _ _ _ _ (fun ds M1 q1 => ⟨q1.1, w _ _ q1.2⟩) q⟩
  refine h.seq W s q fun ds M1 al1 F1 H1 vs q1 e1 W1 r1 s1 => ⟨le_line (by rw [r1.length]; exact q1.1), fun p hp => kont.new (kont.ext q1.2 e1) W1 r1 hp⟩
/-- *e in a display -/
def itemsOf : D → Sto → Option (List D)
  | .tup ds, _ => some ds
  | d, M => seqOf d M
theorem itemsOf_ok {K : PySem.W.Frag} {al : List Addr} {F G H : Hp} {M : Sto} {v : V} {d : D} {ds : List D} (W : Wd K al F G H M) (r : Rp K F al v d) (h : itemsOf d M = some ds) : ∃ a xs, v = .ref a ∧ (H a = some (.tup xs) ∨ H a = some (.lst xs)) ∧ Rps K F al xs ds := by
  unfold itemsOf at h
  split at h
  · cases h
    cases r with
    | tup a b => exact ⟨_, _, rfl, .inl (W.sm _ _ a), b⟩
  · obtain ⟨p, xs, rfl, h1, h2⟩ := seqOf_ok W r h
    exact ⟨p, xs, rfl, .inr h1, h2⟩
@[reducible] def dStar (fa : DTE) (fr : DTA) : DTA := fun ρ M Q => fa ρ M fun d M1 => match itemsOf d M1 with
  | some xs => fr ρ M1 fun ys M2 => Q (xs ++ ys) M2
  | none => False
@[reducible] def gIx : G2 := fun x y M Q => match x, y with
  | .str z, .int i => z.length ≤ 100000 ∧ (match atI z.cps.toList i with
    | some c => Q (.str ⟨#[c]⟩) M
    | none => False)
  | x, .int i => match itemsOf x M with
    | some ds => match atI ds i with
      | some d => Q d M
      | none => False
    | none => False
  | _, _ => False
theorem gIx_mono : Mono2 gIx := fun x y M Q Q' w q => by
  unfold gIx at q ⊢
  split at q
  · refine ⟨q.1, ?_⟩
    have q := q.2
    split at q
    · next e => exact w _ _ q
    · exact q.elim
  · split at q
    · split at q
      · exact w _ _ q
      · exact q.elim
    · exact q.elim
  · exact q.elim
theorem Rps.at {K : PySem.W.Frag} {F : Hp} {al : List Addr} {xs : List V} {ds : List D} {i : Int} {d : D} (h : Rps K F al xs ds) (e : atI ds i = some d) : ∃ v, atI xs i = some v ∧ Rp K F al v d := by
  unfold atI at e ⊢
  rw [h.length]
  cases q : ixN ds.length i with
  | none => rw [q] at e; cases e
  | some j =>
    rw [q] at e
    exact h.get e
theorem d_ix (ha : DE X a fa) (hb : DE X b fb) (hs : PlainIx b) : DE X (.Subscript a b pos) (dBin gIx fa fb) := by
  refine ⟨PE.of (pe_ix ix_seq ha.pe hb.pe hs) fun σ H Q ⟨ρ, M, al, F, G, W, s, q⟩ => ?_, dBin_mono gIx_mono ha hb⟩
  refine ha.seq W s q fun dx M1 al1 F1 H1 v q1 e1 W1 r1 s1 => ?_
  refine hb.seq W1 s1 q1 fun dy M2 al2 F2 H2 u q2 e2 W2 r2 s2 => ?_
  have r1 := r1.ext e2
  unfold gIx at q2
  split at q2
  · cases r1; cases r2
    have q3 := q2.2
    split at q3
    · next e => exact .inr (.inr ⟨_, _, _, rfl, rfl, le_line q2.1, e, kont.here (kont.ext q3 (e1.trans e2)) W2 (.str _)⟩)
    · exact q3.elim
  · cases r2
    split at q2
    · next ds e3 =>
      split at q2
      · next d e =>
        obtain ⟨p, xs, rfl, h1, h2⟩ := itemsOf_ok W2 r1 e3
        obtain ⟨z, h3, h4⟩ := h2.at (show atI ds _ = some d from e)
        have fin := kont.here (kont.ext q2 (e1.trans e2)) W2 h4
        rcases h1 with h1 | h1
        · exact .inr (.inl ⟨_, _, _, _, rfl, rfl, SqT.of h1, h3, fin⟩)
        · exact .inl ⟨_, _, _, _, rfl, rfl, SqL.of h1, h3, fin⟩
      · exact q2.elim
    · exact q2.elim
  · exact q2.elim
def cut {α : Type} (xs : List α) (lo hi : Option Int) : List α := (xs.drop (HT.sIx xs.length 0 lo)).take (HT.sIx xs.length xs.length hi - HT.sIx xs.length 0 lo)
theorem Rps.cut {K : PySem.W.Frag} {F : Hp} {al : List Addr} {xs : List V} {ds : List D} (h : Rps K F al xs ds) (lo hi : Option Int) : Rps K F al (cutV xs lo hi) (DL.cut ds lo hi) := by
  unfold cutV DL.cut
  rw [h.length]
  exact (h.drop _).take _
abbrev DTO := Dn → Sto → (Option Int → Sto → Prop) → Prop
def kontO (K : PySem.W.Frag) (al : List Addr) (F G : Hp) (Q : Option Int → Hp → Prop) : Option Int → Sto → Prop := fun b M' => ∀ al' F' H', Ext al F al' F' → Wd K al' F' G H' M' → Q b H'
def LiftO (X : Cx) (f : DTO) : TO := fun σ H Q => ∃ ρ M al F G, Wd X.K al F G H M ∧ Es X F G al σ ρ ∧ f ρ M (kontO X.K al F G Q)
structure DO (X : Cx) (e : Option Expr) (f : DTO) : Prop where
  po : PO X e (LiftO X f)
  mono : ∀ ρ M (Q Q' : Option Int → Sto → Prop), (∀ d M, Q d M → Q' d M) → f ρ M Q → f ρ M Q'
theorem PO.of {e : Option Expr} {t t' : TO} (h : PO X e t) (w : ∀ σ H Q, t' σ H Q → t σ H Q) : PO X e t' := ⟨fun pins s σ H Q I q => h.run pins s σ H Q I (w σ H Q q)⟩
@[reducible] def dNoPart : DTO := fun _ M Q => Q none M
@[reducible] def dPart (fa : DTE) : DTO := fun ρ M Q => fa ρ M fun d M1 => match d with
  | .int i => Q (some i) M1
  | _ => False
theorem do_none : DO X none dNoPart := ⟨PO.of po_none fun σ H Q ⟨ρ, M, al, F, G, W, s, q⟩ => q al F H (Ext.refl _ _) W, fun _ _ _ _ w q => w _ _ q⟩
theorem do_some (h : DE X a fa) : DO X (some a) (dPart fa) := by
  refine ⟨PO.of (po_some h.pe) fun σ H Q ⟨ρ, M, al, F, G, W, s, q⟩ => ?_, fun ρ M Q Q' w q => h.mono _ _ _ _ (fun d M1 q1 => ?_) q⟩
  · refine h.seq W s q fun d M1 al1 F1 H1 v q1 e1 W1 r1 s1 => ?_
    cases r1 <;> first | exact q1.elim | exact ⟨_, rfl, q1 al1 F1 H1 e1 W1⟩
  · cases d <;> first | exact q1.elim | exact w _ _ q1
theorem DO.seq {e : Option Expr} {f : DTO} (h : DO X e f) {ρ : Dn} {M : Sto} {al : List Addr} {F G H : Hp} {σ : L2.St} {R : Option Int → Sto → Prop} {P : Option Int → Hp → Prop} (W : Wd X.K al F G H M) (s : Es X F G al σ ρ) (q : f ρ M R)
    (k : ∀ d M1 al1 F1 H1, R d M1 → Ext al F al1 F1 → Wd X.K al1 F1 G H1 M1 → Es X F1 G al1 σ ρ → P d H1) : LiftO X f σ H P :=
  ⟨ρ, M, al, F, G, W, s, h.mono _ _ _ _ (fun d M1 r al1 F1 H1 e W1 => k d M1 al1 F1 H1 r e W1 (s.ext e)) q⟩
@[reducible] def gSl (lo hi : Option Int) : G1 := fun d M Q => match d with
  | .tup ds => Q (.tup (cut ds lo hi)) M
  | .scr ns => Q (.lst (cut (ns.map D.int) lo hi)) M
  | .str z => z.length ≤ 100000 ∧ Q (.str (cutS z lo hi)) M
  | d => match seqOf d M with
    | some ds => Q (.lst (cut ds lo hi)) M
    | none => False
theorem gSl_mono (lo hi : Option Int) : Mono1 (gSl lo hi) := fun d M Q Q' w q => by
  unfold gSl at q ⊢
  split at q
  · exact w _ _ q
  · exact w _ _ q
  · exact ⟨q.1, w _ _ q.2⟩
  · split at q
    · exact w _ _ q
    · exact q.elim
@[reducible] def dSl (fa : DTE) (lo hi : DTO) : DTE := fun ρ M Q => fa ρ M fun x M1 => lo ρ M1 fun l M2 => hi ρ M2 fun h M3 => gSl l h x M3 Q
theorem cut_whole {ds : List D} {lo hi : Option Int} (h1 : HT.sIx ds.length 0 lo = 0) (h2 : HT.sIx ds.length ds.length hi = ds.length) : cut ds lo hi = ds := by
  unfold cut
  rw [h1, h2, List.drop_zero, Nat.sub_zero, List.take_length]
theorem d_slice {lo hi : Option Expr} {fl fh : DTO} {p2 : Pos} (ha : DE X a fa) (hl : DO X lo fl) (hh : DO X hi fh) : DE X (.Subscript a (.Slice lo hi none p2) pos) (dSl fa fl fh) := by
  refine ⟨PE.of (pe_slice (SlR.or sl_tupA (SlR.or sl_list sl_str)) ha.pe hl.po hh.po) fun σ H Q ⟨ρ, M, al, F, G, W, s, q⟩ => ?_, fun ρ M Q Q' w q => ha.mono _ _ _ _ (fun d M1 q1 => hl.mono _ _ _ _ (fun l M2 q2 => hh.mono _ _ _ _ (fun h M3 q3 => gSl_mono _ _ _ _ _ _ w q3) q2) q1) q⟩
  refine ha.seq W s q fun d M1 al1 F1 H1 v q1 e1 W1 r1 s1 => ?_
  refine hl.seq W1 s1 q1 fun l M2 al2 F2 H2 q2 e2 W2 s2 => ?_
  refine hh.seq W2 s2 q2 fun h M3 al3 F3 H3 q3 e3 W3 s3 => ?_
  have r1 := r1.ext (e2.trans e3)
  have eA := e1.trans (e2.trans e3)
  unfold gSl at q3
  split at q3
  · cases r1 with
    | tup a1 b1 =>
      refine .inl ⟨_, _, rfl, SqT.of (W3.sm _ _ a1), fun z => ?_, fun _ p hp => kont.tup (kont.ext q3 eA) W3 (b1.cut _ _) hp⟩
      rw [b1.length] at z
      rw [cut_whole z.1 z.2] at q3
      exact kont.here (kont.ext q3 eA) W3 (.tup a1 b1)
  · cases r1 with
    | scr a1 => exact .inr (.inl ⟨_, _, rfl, W3.sm.l a1, fun p hp => kont.lst (kont.ext q3 eA) W3 (Rps.of_ints.cut _ _) hp⟩)
  · cases r1
    exact .inr (.inr ⟨_, rfl, le_line q3.1, kont.here (kont.ext q3.2 eA) W3 (.str _)⟩)
  · split at q3
    · next e =>
      obtain ⟨p1, xs1, rfl, h1, s1⟩ := seqOf_ok W3 r1 e
      exact .inr (.inl ⟨_, _, rfl, SqL.of h1, fun p hp => kont.lst (kont.ext q3 eA) W3 (s1.cut _ _) hp⟩)
    · exact q3.elim
theorem cell_ok {K : PySem.W.Frag} {al : List Addr} {F G H : Hp} {M : Sto} {v : V} {n : Nat} {ds : List D} (W : Wd K al F G H M) (r : Rp K F al v (.ref n)) (e : M[n]? = some (.lst ds)) : ∃ p xs, v = .ref p ∧ al[n]? = some p ∧ H p = some (.lst xs) ∧ Rps K F al xs ds := by
  cases r with
  | ref a =>
    obtain ⟨xs, q, rs⟩ := W.cel _ _ _ e a
    exact ⟨_, xs, rfl, a, q, rs⟩
def isCell (M : Sto) (n : Nat) : Prop := ∃ ds, M[n]? = some (.lst ds)
theorem isCell.ex {M : Sto} {n : Nat} (h : isCell M n) : ∃ ds, M[n]? = some (.lst ds) := h
/-- a method of a list of the store: what it makes of the list and gives back -/
@[reducible] def dMt (step : List D → List D → (List D → D → Prop) → Prop) (fo : DTE) (fr : DTA) : DTE := fun ρ M Q => fo ρ M fun o M1 => match o with
  | .ref n => isCell M1 n ∧ fr ρ M1 fun ys M2 => match M2[n]? with
    | some (.lst ds) => step ds ys fun ds' d => Q d (M2.set n (.lst ds'))
    | _ => False
  | _ => False
theorem dMt_mono {step : List D → List D → (List D → D → Prop) → Prop} (hst : ∀ ds ys (k k' : List D → D → Prop), (∀ a b, k a b → k' a b) → step ds ys k → step ds ys k') {o : Expr} {fo : DTE} (ho : DE X o fo) (hr : DA X es fr) :
    ∀ ρ M (Q Q' : DK), (∀ d M, Q d M → Q' d M) → dMt step fo fr ρ M Q → dMt step fo fr ρ M Q' := fun ρ M Q Q' w q => ho.mono _ _ _ _ (fun d M1 q1 => by
  cases d <;> first | exact q1.elim | skip
  refine ⟨q1.1, hr.mono _ _ _ _ (fun ys M2 q2 => ?_) q1.2⟩
  try dsimp only at q2 ⊢
  split at q2
  · exact hst _ _ _ _ (fun a b k => w _ _ k) q2
  · exact q2.elim) q
/-- the method's reading, from its data -/
theorem mt_ok {step : List D → List D → (List D → D → Prop) → Prop} {r : V → List V → Hp → VK → Prop} {o : Expr} {fo : DTE} (ho : DE X o fo) (hr : DA X es fr)
    (hk : ∀ (K : PySem.W.Frag) al F (H : Hp) p xs ds us ys Q, H p = some (.lst xs) → Rps K F al xs ds → Rps K F al us ys → step ds ys (fun ds' d => ∀ xs' v, Rps K F al xs' ds' → Rp K F al v d → Q v (upd H p (.lst xs'))) → r (.ref p) us H Q)
    (hst : ∀ ds ys (k k' : List D → D → Prop), (∀ a b, k a b → k' a b) → step ds ys k → step ds ys k') {σ : L2.St} {H : Hp} {Q : VK} (h : Lift X (dMt step fo fr) σ H Q) :
    tBM X.K "list" r (Lift X fo) (LiftA X fr) σ H Q := by
  obtain ⟨ρ, M, al, F, G, W, s, q⟩ := h
  refine ho.seq W s q fun d M1 al1 F1 H1 v q1 e1 W1 r1 s1 => ?_
  cases d <;> first | exact q1.elim | skip
  obtain ⟨ds, e⟩ := q1.1.ex
  obtain ⟨p, xs, rfl, hp, hx, rs⟩ := cell_ok W1 r1 e
  refine ⟨.inl ⟨rfl, xs, SqL.of hx⟩, hr.seq W1 s1 q1.2 fun ys M2 al2 F2 H2 us q2 e2 W2 r2 s2 => ?_⟩
  try dsimp only at q2
  split at q2
  · next ds2 c2 =>
    obtain ⟨p2, xs2, z, hp2, hx2, rs2⟩ := cell_ok W2 (r1.ext e2) c2
    cases z
    refine hk X.K al2 F2 H2 p xs2 ds2 us ys Q hx2 rs2 r2 (hst _ _ _ _ (fun ds' d k xs' v h1 h2 => ?_) q2)
    exact k al2 F2 _ _ (e1.trans e2) (W2.write hp2 ⟨xs', upd_same, h1⟩) h2
  · exact q2.elim
@[reducible] def stApp : List D → List D → (List D → D → Prop) → Prop := fun ds ys k => match ys with
  | [y] => ds.length < 100000 ∧ k (ds ++ [y]) .non
  | _ => False
theorem stApp_mono : ∀ ds ys (k k' : List D → D → Prop), (∀ a b, k a b → k' a b) → stApp ds ys k → stApp ds ys k' := fun ds ys k k' w q => by
  unfold stApp at q ⊢
  split at q
  · exact ⟨q.1, w _ _ q.2⟩
  · exact q.elim
theorem d_append {o e : Expr} {fo : DTE} {apos cpos : Pos} (ho : DE X o fo) (hr : DA X [e] fr) (hb : attributeBase o "append" X.env (eval o X.env) = eval o X.env := by rfl)
    (h2 : ((backTo cpos (starEach [e] X.env)).all (fun x => !x.1) && (backToKw cpos (keywordEach [] X.env)).all (fun x => x.1.isSome) && decide ([e].length + ([] : List Keyword).length + (if ([] : List Keyword).isEmpty = true then 0 else 1) < 30)) = true := by rfl)
    (h3 : (apos.endLine == cpos.line) = true := by rfl) (h4 : starEach [e] X.env = (false, eval e X.env) :: starEach [] X.env := by rfl) (h5 : (backTo cpos (starEach [] X.env)).any (·.1) = false := by rfl) :
    DE X (.Call (.Attribute o "append" apos) [e] [] cpos) (dMt stApp fo fr) :=
  ⟨PE.of (pe_bm PySem.F.plainAttrs_list PySem.F.slot_list_append PySem.F.type_list_append mt_append ho.pe hr.pa hb h2 h3 h4 h5) fun σ H Q h => mt_ok ho hr (fun K al F H p xs ds us ys Q hp rs r2 q => by
    unfold stApp at q
    split at q
    · cases r2 with
      | cons a b =>
        cases b
        exact ⟨_, _, _, rfl, rfl, hp, lt_line (by rw [rs.length]; exact q.1), q.2 _ _ (rs.append (.cons a .nil)) .non⟩
    · exact q.elim) stApp_mono h, dMt_mono stApp_mono ho hr⟩
@[reducible] def dMt0 (step : List D → (List D → D → Prop) → Prop) (fo : DTE) : DTE := fun ρ M Q => fo ρ M fun o M1 => match o with
  | .ref n => match M1[n]? with
    | some (.lst ds) => step ds fun ds' d => Q d (M1.set n (.lst ds'))
    | _ => False
  | _ => False
@[reducible] def stPop : List D → (List D → D → Prop) → Prop := fun ds k => match ds.getLast? with
  | some y => k ds.dropLast y
  | none => False
theorem Rps.dropLast {K : PySem.W.Frag} {F : Hp} {al : List Addr} {xs : List V} {ds : List D} (h : Rps K F al xs ds) : Rps K F al xs.dropLast ds.dropLast := by
  rw [List.dropLast_eq_take, List.dropLast_eq_take, h.length]
  exact h.take _
/-- o[i] = e -/
@[reducible] def dgSub (fo fi : DTE) : DTG := fun d ρ M Q => fo ρ M fun o M1 => fi ρ M1 fun i M2 => match o, i with
  | .ref n, .int k => match M2[n]? with
    | some (.lst ds) => match ixN ds.length k with
      | some j => Q ρ (M2.set n (.lst (ds.set j d)))
      | none => False
    | _ => False
  | _, _ => False
theorem dg_sub {o i : Expr} {fo fi : DTE} (ho : DE X o fo) (hi : DE X i fi) (h1 : ∀ (v : Value), assign (.Subscript o i pos) X.env v = (do
                let ov ← holding [v] (eval o X.env)
                let iv ← holding [v, ov] (eval i X.env)
                standAt pos
                holding [v, ov, iv] (setItem ov iv v)
                release [v, ov, iv] []) := by intro _; rfl) : DG X (.Subscript o i pos) (dgSub fo fi) [] := by
  refine ⟨PG.of (pg_sub ho.pe hi.pe set_list h1) fun v σ H Q ⟨d, ρ, M, al, F, G, W, s, r, q⟩ => ?_, fun d ρ M Q Q' w q => ho.mono _ _ _ _ (fun o M1 q1 => hi.mono _ _ _ _ (fun i M2 q2 => ?_) q1) q⟩
  · refine ho.seq W s q fun od M1 al1 F1 H1 ov q1 e1 W1 r1 s1 => ?_
    refine hi.seq W1 s1 q1 fun idx M2 al2 F2 H2 iv q2 e2 W2 r2 s2 => ?_
    split at q2
    · next n k =>
      split at q2
      · next ds e =>
        split at q2
        · next j ej =>
          obtain ⟨p, xs, rfl, hp, hx, rs⟩ := cell_ok W2 (r1.ext e2) e
          cases r2
          rw [← rs.length] at ej
          refine ⟨_, _, _, _, rfl, rfl, hx, ej, ?_⟩
          exact q2 al2 F2 _ σ (e1.trans e2) (W2.write hp ⟨_, upd_same, Rps.set (r.ext (e1.trans e2)) j rs⟩) s2.sl rfl (Off.refl _ _)
        · exact q2.elim
      · exact q2.elim
    · exact q2.elim
  · try dsimp only at q2 ⊢
    split at q2
    · split at q2
      · split at q2
        · exact w _ _ q2
        · exact q2.elim
      · exact q2.elim
    · exact q2.elim
end
end DL
namespace DL
open PySem PySem.Spec PyProof.Rows L2
section
variable {X : Cx} {a b c : Expr} {fa fb fc : DTE} {pos : Pos} {ta tb : DTT} {es : List Expr} {fr : DTA}
def showOk (d : D) (M : Sto) : Prop := pu (vw d M) = true ∧ (toPy (vw d M)).showable = true ∧ (toPy (vw d M)).depth ≤ 60 ∧ (toPy (vw d M)).shown.length ≤ sizeLine
@[reducible] def gRepr : G1 := fun d M Q => showOk d M ∧ Q (.str (toPy (vw d M)).shown) M
theorem gRepr_mono : Mono1 gRepr := fun d M Q Q' w q => ⟨q.1, w _ _ q.2⟩
theorem Dp.noDict {K : PySem.W.Frag} {H : Hp} : ∀ {d : D}, pu d = true → (toPy d).hasDict = false := by
  intro d h
  have key : (∀ d : D, pu d = true → (toPy d).hasDict = false) ∧ (∀ ds : List D, pus ds = true → PyData.hasDictAll (toPys ds) = false) := by
    refine ⟨fun d => ?_, fun ds => ?_⟩
    · exact D.rec (motive_1 := fun d => pu d = true → (toPy d).hasDict = false) (motive_2 := fun ds => pus ds = true → PyData.hasDictAll (toPys ds) = false)
        (fun _ => rfl) (fun _ _ => rfl) (fun _ _ => rfl) (fun _ _ => rfl) (fun ds ih h => by
          show PyData.hasDict (.tuple (toPys ds)) = false
          unfold PyData.hasDict
          exact ih h) (fun ds ih h => by
          show PyData.hasDict (.list (toPys ds)) = false
          unfold PyData.hasDict
          exact ih h) (fun _ _ _ h => by cases h) (fun _ h => by cases h) (fun _ h => by cases h) (fun _ _ _ _ _ _ h => by cases h) (fun _ _ _ _ _ h => by cases h) (fun _ => by unfold toPys PyData.hasDictAll; rfl) (fun d ds i1 i2 h => by
          have h' : pu d = true ∧ pus ds = true := by simpa [pus] using h
          unfold toPys PyData.hasDictAll
          rw [i1 h'.1, i2 h'.2]
          rfl) d
    · exact D.rec_1 (motive_1 := fun d => pu d = true → (toPy d).hasDict = false) (motive_2 := fun ds => pus ds = true → PyData.hasDictAll (toPys ds) = false)
        (fun _ => rfl) (fun _ _ => rfl) (fun _ _ => rfl) (fun _ _ => rfl) (fun ds ih h => by
          show PyData.hasDict (.tuple (toPys ds)) = false
          unfold PyData.hasDict
          exact ih h) (fun ds ih h => by
          show PyData.hasDict (.list (toPys ds)) = false
          unfold PyData.hasDict
          exact ih h) (fun _ _ _ h => by cases h) (fun _ h => by cases h) (fun _ h => by cases h) (fun _ _ _ _ _ _ h => by cases h) (fun _ _ _ _ _ h => by cases h) (fun _ => by unfold toPys PyData.hasDictAll; rfl) (fun d ds i1 i2 h => by
          have h' : pu d = true ∧ pus ds = true := by simpa [pus] using h
          unfold toPys PyData.hasDictAll
          rw [i1 h'.1, i2 h'.2]
          rfl) ds
  exact key.1 d h
theorem o_repr (hgd : X.A.guards = some []) (hu : X.A.units + 64 < cLine) : ON X (.builtin "repr") (g1 gRepr) := by
  refine ⟨fun pins s σ al F G H M xs us ds Q I rv W rs q => ?_, g1_mono gRepr_mono⟩
  match ds, rs, q with
  | [], _, q => exact q.elim
  | _ :: _ :: _, _, q => exact q.elim
  | [d], .cons r .nil, q =>
    cases rv with
    | cons r1 r2 =>
      cases r2
      obtain ⟨⟨h1, h2, h3, h4⟩, k⟩ := q
      have dp := dp_vw W r h1
      obtain ⟨as, rd⟩ := Dp.reads I _ _ _ dp r1
      have fin : ∀ (h' : Heap) (u : Tok) (tk : Nat), (∀ b o, s.heap.get? b = some o → h'.get? b = some o) → EP X pins σ Q (.str (toPy (vw d M)).shown u) { s with heap := h', toks := tk } :=
        fun h' u tk hk => ⟨.str _, H, I.kept hk, ⟨u, rfl⟩, kont.here k W (.str _)⟩
      generalize hv : vw d M = e at *
      match e, rd, h1, h2, h3, h4, fin with
      | .tup ds, .tuple x1 x2 x3 x4, h1, h2, h3, h4, fin => exact repr_of_reads' (.tuple x1 x2 x3 x4) h2 (PyData.noDict_hsm (Dp.noDict (K := X.K) (H := H) h1)) hgd (by have h3' : (PyData.tuple (toPys ds)).depth ≤ 60 := h3; omega) (fun _ _ z => z) fin h4
      | .lst ds, .list x1 x2 x3 x4, h1, h2, h3, h4, fin => exact repr_of_reads' (.list x1 x2 x3 x4) h2 (PyData.noDict_hsm (Dp.noDict (K := X.K) (H := H) h1)) hgd (by have h3' : (PyData.list (toPys ds)).depth ≤ 60 := h3; omega) (fun _ _ z => z) fin h4
      | .int i, .int _ t, h1, h2, h3, h4, fin =>
        have hz : i.natAbs.log2 < 1920 := by simpa [toPy, PyData.showable] using h2
        exact PySem.P.repr_of_int hz (fin s.heap s.toks (s.toks + 1) fun _ _ z => z)
      | .non, .none, h1, h2, h3, h4, fin => exact PySem.P.repr_of_none (fin s.heap s.toks (s.toks + 1) fun _ _ z => z)
      | .bl i, .bool _, h1, h2, h3, h4, fin => exact PySem.P.repr_of_bool (fin s.heap s.toks (s.toks + 1) fun _ _ z => z)
      | .str i, .str _ _, h1, h2, h3, h4, fin => exact PySem.P.repr_of_str (fin s.heap s.toks (s.toks + 1) fun _ _ z => z) h4
def tyNm : D → Sto → Option String
  | .non, _ => some "NoneType"
  | .bl _, _ => some "bool"
  | .int _, _ => some "int"
  | .str _, _ => some "str"
  | .tup _, _ => some "tuple"
  | .lst _, _ => some "list"
  | .dct _ _, _ => some "dict"
  | .ref n, M => match M[n]? with
    | some (.lst _) => some "list"
    | _ => none
  | .scr _, _ => none
  | .exo _ _ _ _ _, _ => none
  | .clo _ _ _ _, _ => none
/-- T's name of the class; tab: which of our classes are it -/
@[reducible] def dIsi (tab : String → Bool) (fa : DTE) : DTE := fun ρ M Q => fa ρ M fun d M1 => match tyNm d M1 with
  | some t => Q (.bl (tab t)) M1
  | none => False
def tabInt : String → Bool := fun t => t == "int" || t == "bool"
def tabBool : String → Bool := fun t => t == "bool"
def tabTuple : String → Bool := fun t => t == "tuple"
def tabStr : String → Bool := fun t => t == "str"
def tabList : String → Bool := fun t => t == "list"
@[reducible] def stYes : Sto → Prop := fun _ => True
/-- a list or tuple: a list of the store must stand while it is walked -/
@[reducible] def diSeq (fa : DTE) : DTI := fun ρ M R => fa ρ M fun d M1 => match d with
  | .tup ds => R ds stYes M1
  | .lst ds => R ds stYes M1
  | .ref n => match M1[n]? with
    | some (.lst ds) => R ds (fun M' => M'[n]? = some (.lst ds)) M1
    | _ => False
  | _ => False
theorem it_of {K : PySem.W.Frag} {al : List Addr} {F : Hp} {xs : List V} {ds : List D} {x : V} {d : D} {i : Nat} (rs : Rps K F al xs ds) (hd : ds[i]? = some d) (hx : xs[i]? = some x) : Rp K F al x d := by
  obtain ⟨v, h1, h2⟩ := rs.get hd
  rw [hx] at h1
  cases h1
  exact h2
theorem itl_ok {K : PySem.W.Frag} {al : List Addr} {F G : Hp} {p : Addr} {ds : List D} {st : Sto → Prop} (h : ∀ al' F' G' H' M', Ext al F al' F' → Sm G G' → Wd K al' F' G' H' M' → st M' → ∃ xs, H' p = some (.lst xs) ∧ Rps K F' al' xs ds) : ItOk K (Itl K p) ds st al F G := by
  intro al' F' G' H' M' e sg W hst i
  obtain ⟨xs, hx, rs⟩ := h al' F' G' H' M' e sg W hst
  refine ⟨fun d hd => ?_, fun hl => ⟨xs, SqL.of hx, by rw [rs.length]; exact hl⟩⟩
  obtain ⟨v, h1, h2⟩ := rs.get hd
  refine ⟨⟨xs, v, SqL.of hx, h1⟩, fun x H'' hy => ?_⟩
  obtain ⟨rfl, hy⟩ := hy
  exact ⟨F', Sm.refl _, W, it_of rs hd (hy xs (SqL.of hx))⟩
theorem itt_ok {K : PySem.W.Frag} {al : List Addr} {F G : Hp} {p : Addr} {ds : List D} {xs : List V} {st : Sto → Prop} (h : F p = some (.tup xs)) (rs : Rps K F al xs ds) : ItOk K (Itt K p) ds st al F G := by
  intro al' F' G' H' M' e sg W hst i
  have hx := W.sm _ _ (e.sm _ _ h)
  have rs := rs.ext e
  refine ⟨fun d hd => ?_, fun hl => ⟨xs, SqT.of hx, by rw [rs.length]; exact hl⟩⟩
  obtain ⟨v, h1, h2⟩ := rs.get hd
  refine ⟨⟨xs, v, SqT.of hx, h1⟩, fun x H'' hy => ?_⟩
  obtain ⟨rfl, hy⟩ := hy
  exact ⟨F', Sm.refl _, W, it_of rs hd (hy xs (SqT.of hx))⟩
theorem di_seq {tg : Expr} (h : DE X a fa) : DI X tg a (diSeq fa) := by
  refine ⟨⟨fun pins s σ H R I q => ?_⟩, fun ρ M Q Q' w q => h.mono _ _ _ _ (fun d M1 q1 => ?_) q⟩
  · obtain ⟨ρ, M, al, F, G, W, es, q⟩ := q
    have hl : Lift X fa σ H (fun v H1 => (∃ p xs, v = .ref p ∧ SqL X.K H1 p xs ∧ R (Itl X.K p) H1) ∨ (∃ p xs, v = .ref p ∧ SqT X.K H1 p xs ∧ R (Itt X.K p) H1)) := h.seq W es q fun d M1 al1 F1 H1 v q1 e1 W1 r1 s1 => by
      cases r1 with
      | tup a1 b1 => exact .inr ⟨_, _, rfl, SqT.of (W1.sm _ _ a1), q1 al1 F1 H1 _ e1 W1 (itt_ok a1 b1)⟩
      | lst a1 b1 => exact .inl ⟨_, _, rfl, SqL.of (W1.sm _ _ a1), q1 al1 F1 H1 _ e1 W1 (itl_ok fun al' F' G' H' M' e sg W' _ => ⟨_, W'.sm _ _ (e.sm _ _ a1), b1.ext e⟩)⟩
      | ref a1 =>
        dsimp only at q1
        split at q1
        · next ds e =>
          obtain ⟨xs, hx, rs⟩ := W1.cel _ _ _ e a1
          exact .inl ⟨_, _, rfl, SqL.of hx, q1 al1 F1 H1 _ e1 W1 (itl_ok fun al' F' G' H' M' e' sg W' st => by
            obtain ⟨xs', hx', rs'⟩ := W'.cel _ _ _ st (e'.get a1)
            exact ⟨xs', hx', rs'⟩)⟩
        · exact q1.elim
      | _ => exact q1.elim
    refine thn (h.pe.run pins s σ H _ I hl) fun v s1 ⟨x, H1, I1, r1, q1⟩ => ?_
    rcases q1 with ⟨p, xs, rfl, hq, q⟩ | ⟨p, xs, rfl, hq, q⟩
    · cases r1
      obtain ⟨its, rv, pl, hz⟩ := I1.list hq
      refine wpAny_pyIter_list pl.isList ⟨s1.heap.objs.size, [s1.heap.objs.size], _, _, H1, rfl, I1.kept (t' := s1.toks) fun b o e => Heap.get?_push_of_some _ e, turn_list p _, ⟨_, Heap.get?_push_size _ rfl, rfl, rfl⟩, fun b hb => ?_, q⟩
      rw [List.mem_singleton.mp hb]
      exact I1.fpOk (Nat.le_refl _) (I1.hok.fresh (Nat.le_refl _))
    · cases r1
      obtain ⟨its, rv, pl, hz⟩ := I1.tuple hq
      refine wpAny_pyIter_tuple (show s1.heap.IsTuple p its.toArray from pl) ⟨s1.heap.objs.size, [s1.heap.objs.size], _, _, H1, rfl, I1.kept (t' := s1.toks) fun b o e => Heap.get?_push_of_some _ e, turn_tuple p _, ⟨_, Heap.get?_push_size _ rfl, rfl, rfl⟩, fun b hb => ?_, q⟩
      rw [List.mem_singleton.mp hb]
      exact I1.fpOk (Nat.le_refl _) (I1.hok.fresh (Nat.le_refl _))
  · cases d <;> first | exact q1.elim | exact w _ _ _ q1 | skip
    try dsimp only at q1 ⊢
    split at q1
    · exact w _ _ _ q1
    · exact q1.elim
def rng (lo : Int) (n : Nat) : List D := (List.range n).map fun (i : Nat) => D.int (lo + i)
theorem rng_get {lo : Int} {n i : Nat} : (rng lo n)[i]? = if i < n then some (D.int (lo + i)) else none := by
  unfold rng
  rw [List.getElem?_map]
  by_cases h : i < n
  · rw [List.getElem?_range h, if_pos h]; rfl
  · rw [if_neg h, List.getElem?_eq_none (by simpa using h)]; rfl
theorem itr_ok {K : PySem.W.Frag} {al : List Addr} {F G : Hp} {st : Sto → Prop} (lo : Int) (n : Nat) : ItOk K (Itr lo n) (rng lo n) st al F G := by
  intro al' F' G' H' M' e sg W hst i
  refine ⟨fun d hd => ?_, fun hl => ?_⟩
  rotate_left
  · unfold rng at hl
    rw [List.length_map, List.length_range] at hl
    exact hl
  rw [rng_get] at hd
  split at hd
  · next h =>
    cases hd
    refine ⟨h, fun x H'' hy => ?_⟩
    obtain ⟨rfl, rfl⟩ := hy
    exact ⟨F', Sm.refl _, W, .int _⟩
  · cases hd
@[reducible] def diR1 (fr : DTA) : DTI := fun ρ M R => fr ρ M fun ds M1 => match ds with
  | [.int j] => (-(2 ^ 62) ≤ j ∧ j < 2 ^ 62) ∧ R (rng 0 j.toNat) stYes M1
  | _ => False
theorem di_range1 {tg : Expr} {p : Pos} (hg : Gl X "range") (hm : X.mg "range" = none) (h : DA X [a] fr) (hs : starEach [a] X.env = [(false, eval a X.env)] := by rfl) : DI X tg (.Call (.Name "range" p) [a] [] pos) (diR1 fr) := by
  refine ⟨PI.of (pi_range1 hg hm h.pa hs) fun σ H R ⟨ρ, M, al, F, G, W, es, q⟩ => ?_, fun ρ M Q Q' w q => h.mono _ _ _ _ (fun ds M1 q1 => ?_) q⟩
  · refine h.seq W es q fun ds M1 al1 F1 H1 vs q1 e1 W1 r1 s1 => ?_
    split at q1
    · cases r1 with
      | cons a1 b1 =>
        cases a1; cases b1
        exact ⟨_, rfl, q1.1.1, q1.1.2, q1.2 al1 F1 H1 _ e1 W1 (itr_ok 0 _)⟩
    · exact q1.elim
  · try dsimp only at q1 ⊢
    split at q1
    · exact ⟨q1.1, w _ _ _ q1.2⟩
    · exact q1.elim
@[reducible] def diR2 (fr : DTA) : DTI := fun ρ M R => fr ρ M fun ds M1 => match ds with
  | [.int i, .int j] => (-(2 ^ 62) ≤ i ∧ i < 2 ^ 62 ∧ -(2 ^ 62) ≤ j ∧ j < 2 ^ 62) ∧ R (rng i (j - i).toNat) stYes M1
  | _ => False
theorem di_range2 {tg : Expr} {p : Pos} (hg : Gl X "range") (hm : X.mg "range" = none) (h : DA X [a, b] fr) (hs : starEach [a, b] X.env = [(false, eval a X.env), (false, eval b X.env)] := by rfl) (hs2 : starEach [b] X.env = [(false, eval b X.env)] := by rfl) : DI X tg (.Call (.Name "range" p) [a, b] [] pos) (diR2 fr) := by
  refine ⟨PI.of (pi_range2 hg hm h.pa hs hs2) fun σ H R ⟨ρ, M, al, F, G, W, es, q⟩ => ?_, fun ρ M Q Q' w q => h.mono _ _ _ _ (fun ds M1 q1 => ?_) q⟩
  · refine h.seq W es q fun ds M1 al1 F1 H1 vs q1 e1 W1 r1 s1 => ?_
    split at q1
    · cases r1 with
      | cons a1 b1 =>
        cases b1 with
        | cons a2 b2 =>
          cases a1; cases a2; cases b2
          exact ⟨_, _, rfl, q1.1, q1.2 al1 F1 H1 _ e1 W1 (itr_ok _ _)⟩
    · exact q1.elim
  · try dsimp only at q1 ⊢
    split at q1
    · exact ⟨q1.1, w _ _ _ q1.2⟩
    · exact q1.elim
/-- zip of two lists, or of two tuples -/
def zipD (xs ys : List D) : List D := List.zipWith (fun x y => D.tup [x, y]) xs ys
@[reducible] def diZip (fr : DTA) : DTI := fun ρ M R => fr ρ M fun ds M1 => match ds with
  | [.tup xs, .tup ys] => R (zipD xs ys) stYes M1
  | [.lst xs, .lst ys] => R (zipD xs ys) stYes M1
  | _ => False
@[reducible] def dWhile (t : DTT) (f : DTS) : DTS := fun E ρ M => ∃ W : Nat → Dn → Sto → Prop, (∃ m, W m ρ M) ∧ ∀ m ρ M, W m ρ M → t ρ M fun b M1 => if b = true then f { nx := fun ρ' M' => ∃ m', m' < m ∧ W m' ρ' M', rt := E.rt, bk := E.nx, ct := fun ρ' M' => ∃ m', m' < m ∧ W m' ρ' M' } ρ M1 else E.nx ρ M1
theorem ds_while {body : List Stmt} {f : DTS} (hp : PassesOwn (model X.prog X.w) X.A X.env X.xe) (hc : DT X c ta) (hb : DSs X body f) : DS X (.While c body [] pos) (dWhile ta f) := by
  refine ⟨PS.of (ps_while hp hc.pt hb.ps) fun E σ H ⟨ρ, M, al, F, G, W, es, Wh, ⟨m, h0⟩, step⟩ => ?_, fun D D' ρ M w ⟨Wh, h0, step⟩ => ⟨Wh, h0, fun m ρ M h => hc.mono _ _ _ _ (fun b M1 q1 => ?_) (step m ρ M h)⟩⟩
  · refine ⟨fun m σ' H' => ∃ ρ' M' al' F', Wh m ρ' M' ∧ Ext al F al' F' ∧ Wd X.K al' F' G H' M' ∧ Es X F' G al' σ' ρ' ∧ ρ'.x = ρ.x, ⟨m, ρ, M, al, F, h0, Ext.refl _ _, W, es, rfl⟩, ?_⟩
    rintro m σ' H' ⟨ρ', M', al', F', hw, e', W', s', x'⟩
    refine hc.seq W' s' (step m ρ' M' hw) fun b M1 al1 F1 H1 q1 e1 W1 s1 => ?_
    cases b with
    | true =>
      refine ⟨fun σ2 H2 => ∃ m', m' < m ∧ ∃ ρ2 M2 al2 F2, Wh m' ρ2 M2 ∧ Ext al F al2 F2 ∧ Wd X.K al2 F2 G H2 M2 ∧ Es X F2 G al2 σ2 ρ2 ∧ ρ2.x = ρ.x, fun σ2 H2 ⟨m', hm, z⟩ => ⟨m', hm, z⟩, ?_⟩
      refine ⟨ρ', M1, al1, F1, G, W1, s1, ?_⟩
      rw [x']
      refine MonoS.up hb.mono (D := { nx := fun ρ' M' => ∃ m', m' < m ∧ Wh m' ρ' M', rt := (kontS X.K al F G ρ.x E).rt, bk := (kontS X.K al F G ρ.x E).nx, ct := fun ρ' M' => ∃ m', m' < m ∧ Wh m' ρ' M' }) q1 ⟨?_, fun d M2 k => kont.ext k (e'.trans e1), fun ρ2 M2 k => kN.ext k (e'.trans e1), ?_⟩
      · rintro ρ2 M2 ⟨m', hm, z⟩ al2 F2 H2 σ2 e2 W2 s2 x2
        exact ⟨m', hm, ρ2, M2, al2, F2, z, e'.trans (e1.trans e2), W2, s1.of e2 s2 (x2.trans x'.symm), x2⟩
      · rintro ρ2 M2 ⟨m', hm, z⟩ al2 F2 H2 σ2 e2 W2 s2 x2
        exact ⟨m', hm, ρ2, M2, al2, F2, z, e'.trans (e1.trans e2), W2, s1.of e2 s2 (x2.trans x'.symm), x2⟩
    | false => exact q1 al1 F1 H1 σ' (e'.trans e1) W1 s1.sl x'
  · cases b with
    | true => exact MonoS.up hb.mono (D := { nx := fun ρ' M' => ∃ m', m' < m ∧ Wh m' ρ' M', rt := D.rt, bk := D.nx, ct := fun ρ' M' => ∃ m', m' < m ∧ Wh m' ρ' M' }) q1 ⟨fun _ _ z => z, w.rt, w.nx, fun _ _ z => z⟩
    | false => exact w.nx _ _ q1
def pick {α : Type} (xs : List α) (lo hi st : Option Int) : List α := (sliceRange (sliceBounds lo hi st xs.length).1 (sliceBounds lo hi st xs.length).2.1 (sliceBounds lo hi st xs.length).2.2).filterMap (xs[·]?)
@[reducible] def dSlS (fa : DTE) (lo hi st : DTO) : DTE := fun ρ M Q => fa ρ M fun x M1 => lo ρ M1 fun l M2 => hi ρ M2 fun h M3 => st ρ M3 fun k M4 => match seqOf x M4 with
  | some ds => k ≠ some 0 ∧ (pick ds l h k).length ≤ 100000 ∧ Q (.lst (pick ds l h k)) M4
  | none => False
end
end DL
namespace DL
open PySem PySem.Spec PyProof.Rows L2
mutual
/-- all places that a datum names lie below n -/
def bel (n : Nat) : D → Bool
  | .ref m => decide (m < n)
  | .tup ds => bels n ds
  | .lst ds => bels n ds
  | .dct _ ds => bels n ds
  | .exo _ _ _ _ ds => bels n ds
  | .clo _ _ _ ds => bels n ds
  | .non | .bl _ | .int _ | .str _ | .scr _ => true
def bels (n : Nat) : List D → Bool
  | [] => true
  | d :: ds => bel n d && bels n ds
end
def Cell.bel (n : Nat) : Cell → Bool
  | .lst ds => bels n ds
  | .ins _ fs => bels n (fs.map (·.2))
  | .gone => true
section
variable {K : PySem.W.Frag} {F G H : Hp} {al : List Addr} {M : Sto}
mutual
theorem Rp.bel : ∀ {d : D} {v : V}, Rp K F al v d → DL.bel al.length d = true
  | .non, _, _ => rfl
  | .bl _, _, _ => rfl
  | .int _, _, _ => rfl
  | .str _, _, _ => rfl
  | .scr _, _, _ => rfl
  | .tup _, _, h => by
    cases h with
    | tup a b => exact Rps.bels b
  | .lst _, _, h => by
    cases h with
    | lst a b => exact Rps.bels b
  | .dct _ _, _, h => by
    cases h with
    | dct a l b => exact Rps.bels b
  | .exo _ _ _ _ _, _, h => by
    cases h with
    | exo0 => rfl
    | exo a l b => exact Rps.bels b
  | .clo _ _ _ _, _, h => by
    cases h with
    | clo a b => exact Rps.bels b
  | .ref _, _, h => by
    cases h with
    | ref a => exact decide_eq_true (List.getElem?_eq_some_iff.mp a).1
theorem Rps.bels : ∀ {ds : List D} {vs : List V}, Rps K F al vs ds → DL.bels al.length ds = true
  | [], _, _ => rfl
  | d :: ds, _, h => by
    cases h with
    | cons a b =>
      show (DL.bel al.length d && DL.bels al.length ds) = true
      rw [Rp.bel a, Rps.bels b]
      rfl
end
mutual
theorem Rp.cutA {n : Nat} : ∀ {d : D} {v : V}, Rp K F al v d → DL.bel n d = true → Rp K F (al.take n) v d
  | .non, _, h, _ => by cases h; exact .non
  | .bl _, _, h, _ => by cases h; exact .bl _
  | .int _, _, h, _ => by cases h; exact .int _
  | .str _, _, h, _ => by cases h; exact .str _
  | .scr _, _, h, _ => by
    cases h with
    | scr a => exact .scr a
  | .tup _, _, h, q => by
    cases h with
    | tup a b => exact .tup a (Rps.cutA b q)
  | .lst _, _, h, q => by
    cases h with
    | lst a b => exact .lst a (Rps.cutA b q)
  | .dct _ _, _, h, q => by
    cases h with
    | dct a l b => exact .dct a l (Rps.cutA b q)
  | .exo _ _ _ _ _, _, h, q => by
    cases h with
    | exo0 => exact .exo0 _ _
    | exo a l b => exact .exo a l (Rps.cutA b q)
  | .clo _ _ _ _, _, h, q => by
    cases h with
    | clo a b => exact .clo a (Rps.cutA b q)
  | .ref _, _, h, q => by
    cases h with
    | ref a => exact .ref (by rw [List.getElem?_take_of_lt (of_decide_eq_true q)]; exact a)
theorem Rps.cutA {n : Nat} : ∀ {ds : List D} {vs : List V}, Rps K F al vs ds → DL.bels n ds = true → Rps K F (al.take n) vs ds
  | [], _, h, _ => by cases h; exact .nil
  | d :: ds, _, h, q => by
    cases h with
    | cons a b =>
      have q' : DL.bel n d = true ∧ DL.bels n ds = true := by simpa [DL.bels] using q
      exact .cons (Rp.cutA a q'.1) (Rps.cutA b q'.2)
end
theorem CellOk.bel {a : Addr} {c : Cell} (h : CellOk K F al H a c) : c.bel al.length = true := by
  cases c with
  | lst ds => obtain ⟨xs, _, r⟩ := h; exact r.bels
  | ins C fs => obtain ⟨dx, vs, _, _, r⟩ := h; exact r.bels
  | gone => rfl
theorem CellOk.cutA {a : Addr} {c : Cell} {n : Nat} (h : CellOk K F al H a c) (q : c.bel n = true) : CellOk K F (al.take n) H a c := by
  cases c with
  | lst ds => obtain ⟨xs, e, r⟩ := h; exact ⟨xs, e, r.cutA q⟩
  | ins C fs => obtain ⟨dx, vs, e, z, r⟩ := h; exact ⟨dx, vs, e, z, r.cutA q⟩
  | gone => exact h
def stoBel (n : Nat) (M : Sto) : Prop := ∀ c ∈ M, Cell.bel n c = true
theorem Wd.bels (W : Wd K al F G H M) : stoBel M.length M := by
  intro c hc
  obtain ⟨n, hn, e⟩ := List.getElem_of_mem hc
  have hl : n < al.length := by rw [W.len]; exact hn
  rw [← W.len]
  exact (W.cel n c al[n] (by rw [List.getElem?_eq_getElem hn, e]) (List.getElem?_eq_getElem hl)).bel
theorem Wd.cutA (W : Wd K al F G H M) {n : Nat} (h : stoBel n (M.take n)) : Wd K (al.take n) F G H (M.take n) :=
  W.take n fun m c a hm q r => (W.cel m c a q r).cutA (h c (by
    have : (M.take n)[m]? = some c := by rw [List.getElem?_take_of_lt hm]; exact q
    exact List.mem_of_getElem? this))
/-- what a def hands back, as its caller sees it: as it is; without the places that the def has made; a list of these as a tree -/
def See (n : Nat) (Q : DK) (d : D) (M : Sto) : Prop :=
  Q d M ∨ (bel n d = true ∧ stoBel n (M.take n) ∧ Q d (M.take n)) ∨ ∃ m ds, d = .ref m ∧ n ≤ m ∧ M[m]? = some (.lst ds) ∧ bels n ds = true ∧ stoBel n (M.take n) ∧ Q (.lst ds) (M.take n)
theorem See.ok {al0 : List Addr} {F0 : Hp} {Q : VK} {d : D} {v : V} (e : Ext al0 F0 al F) (W : Wd K al F G H M) (r : Rp K F al v d) (h : See al0.length (kont K al0 F0 G Q) d M) : Q v H := by
  obtain ⟨be, rfl⟩ := e.al
  have tk : (al0 ++ be).take al0.length = al0 := List.take_left
  rcases h with h | ⟨h1, h2, h3⟩ | ⟨m, ds, rfl, hm, hc, hb, h2, h3⟩
  · exact h _ F H v e W r
  · have W' := W.cutA h2
    have r' := r.cutA h1
    rw [tk] at W' r'
    exact h3 al0 F H v ⟨⟨[], by simp⟩, e.sm⟩ W' r'
  · cases r with
    | @ref _ pa ha =>
      obtain ⟨xs, hx, rs⟩ := W.cel _ _ _ hc ha
      have W' := W.cutA h2
      have rs' := rs.cutA hb
      rw [tk] at W' rs'
      have ham := List.mem_of_getElem? ha
      have hF := W.out _ ham
      have hn : ∀ a ∈ al0, a ≠ pa := fun a ha0 z => by
        obtain ⟨i, hi, ei⟩ := List.getElem_of_mem ha0
        have h1 : (al0 ++ be)[i]? = some a := by rw [List.getElem?_append_left hi, List.getElem?_eq_getElem hi, ei]
        rw [z] at h1
        obtain ⟨hi1, e1⟩ := List.getElem?_eq_some_iff.mp h1
        obtain ⟨hi2, e2⟩ := List.getElem?_eq_some_iff.mp ha
        have := (List.getElem_inj W.nd).mp (e1.trans e2.symm)
        omega
      have eF : Ext al0 F al0 (upd F pa (.lst xs)) := ⟨⟨[], by simp⟩, Sm.new hF⟩
      refine h3 al0 (upd F pa (.lst xs)) H _ ⟨⟨[], by simp⟩, e.sm.trans eF.sm⟩ ⟨fun b o q => ?_, W.sg, fun a o q => ⟨?_, (W'.fg a o q).2⟩, W'.len, W'.nd, fun a q => ?_, fun n c a q1 q2 => (W'.cel n c a q1 q2).ext eF rfl, W.tb.to eF.sm fun P x f g y => ⟨rfl, (upd_ne (show P ≠ pa from fun z => y (by rw [z]; exact ham))).trans f, g, fun z => y (List.mem_append_left _ z)⟩⟩ (.lst upd_same (rs'.ext eF))
      · by_cases hb : b = pa
        · subst hb; rw [upd_same] at q; cases q; exact hx
        · rw [upd_ne hb] at q; exact W.sm b o q
      · rw [upd_ne (show a ≠ pa from fun z => (W.fg a o q).2 (z ▸ ham))]
        exact (W.fg a o q).1
      · rw [upd_ne (hn a q)]
        exact W'.out a q
theorem See.keep {n : Nat} {Q : DK} {d : D} (h : Q d M) : See n Q d M := .inl h
theorem See.drop {Q : DK} {d : D} {M M' : Sto} (hd : bel M.length d = true) (hb : stoBel M.length M) (h : Q d M) : See M.length Q d (M ++ M') := .inr (.inl ⟨hd, by rw [List.take_left]; exact hb, by rw [List.take_left]; exact h⟩)
theorem See.frz {Q : DK} {M M' : Sto} {m : Nat} {ds : List D} (hm : M.length ≤ m) (hc : (M ++ M')[m]? = some (.lst ds)) (hd : bels M.length ds = true) (hb : stoBel M.length M) (h : Q (.lst ds) M) : See M.length Q (.ref m) (M ++ M') :=
  .inr (.inr ⟨m, ds, rfl, hm, hc, hd, by rw [List.take_left]; exact hb, by rw [List.take_left]; exact h⟩)
end
abbrev DSp := List D → Sto → DK → DXK → Prop
def kontX (K : PySem.W.Frag) (al : List Addr) (F G : Hp) (E : XK) : DXK := fun c fs M' => ∀ al' F' H' o, Ext al F al' F' → Wd K al' F' G H' M' → FldOk K F' al' o fs → E c o H'
def spOf (K : PySem.W.Frag) (ds : DSp) : Sp := fun vs H Q E => ∃ args M al F G, Wd K al F G H M ∧ Rps K F al vs args ∧ ds args M (kont K al F G Q) (kontX K al F G E)
def MonoSp (ds : DSp) : Prop := ∀ args M (Q Q' : DK) (E E' : DXK), (∀ d M, Q d M → Q' d M) → (∀ c f M, E c f M → E' c f M) → ds args M Q E → ds args M Q' E'
def startD (N : List Str) (args : List D) : List (Option D) := args.map some ++ List.replicate (N.length - args.length) none
theorem start_es {K : PySem.W.Frag} {F : Hp} {al : List Addr} {N : List Str} {vs : List V} {args : List D} (r : Rps K F al vs args) : Sl K F al (L2.start N vs) (startD N args) := by
  have hl := r.length
  unfold L2.start startD
  refine ⟨by simp [hl], fun i d q => ?_⟩
  by_cases hi : i < args.length
  · rw [List.getElem?_append_left (by simpa using hi), List.getElem?_map] at q
    cases e : args[i]? with
    | none => rw [e] at q; cases q
    | some z =>
      rw [e] at q
      have : z = d := by simpa using q
      subst this
      obtain ⟨v, h1, h2⟩ := r.get e
      exact ⟨v, by rw [List.getElem?_append_left (by rw [List.length_map, hl]; exact hi), List.getElem?_map, h1]; rfl, h2⟩
  · rw [List.getElem?_append_right (by simpa using hi)] at q
    have := List.mem_of_getElem? q
    rw [List.mem_replicate] at this
    exact absurd this.2 (by simp)
section
variable {P : Program} {w : World} {K : PySem.W.Frag} {mg : Str → Option Value} {base : Heap}
/-- an exception, as the caller sees it -/
def SeeX (n : Nat) (E : DXK) : DXK := fun c fs M => E c fs M ∨ (bels n (fs.map (·.2)) = true ∧ stoBel n (M.take n) ∧ E c fs (M.take n))
theorem SeeX.ok {F G H : Hp} {al : List Addr} {M : Sto} {al0 : List Addr} {F0 : Hp} {E : XK} {c : Value} {o : Option Addr} {fs : List (Str × D)} (e : Ext al0 F0 al F) (W : Wd K al F G H M) (r : FldOk K F al o fs) (h : SeeX al0.length (kontX K al0 F0 G E) c fs M) : E c o H := by
  obtain ⟨be, rfl⟩ := e.al
  have tk : (al0 ++ be).take al0.length = al0 := List.take_left
  rcases h with h | ⟨h1, h2, h3⟩
  · exact h _ F H o e W r
  · have W' := W.cutA h2
    rw [tk] at W'
    refine h3 al0 F H o ⟨⟨[], by simp⟩, e.sm⟩ W' ?_
    rcases r with r | ⟨a, vs, r1, r2, r3, r4⟩
    · exact .inl r
    · have r' := r4.cutA h1
      rw [tk] at r'
      exact .inr ⟨a, vs, r1, r2, r3, r'⟩
theorem SeeX.keep {n : Nat} {E : DXK} {c : Value} {fs : List (Str × D)} {M : Sto} (h : E c fs M) : SeeX n E c fs M := .inl h
theorem SeeX.drop {E : DXK} {c : Value} {fs : List (Str × D)} {M M' : Sto} (hd : bels M.length (fs.map (·.2)) = true) (hb : stoBel M.length M) (h : E c fs M) : SeeX M.length E c fs (M ++ M') := .inr ⟨hd, by rw [List.take_left]; exact hb, by rw [List.take_left]; exact h⟩
/-- where a def's body runs -/
abbrev cx0 (P : Program) (w : World) (K : PySem.W.Frag) (mg : Str → Option Value) (base : Heap) (N : List Str) (qual : Str) (st : Stmt) (f : Addr) (cdv : Value) (A : Around) (outer : List Env) (s : Shared) (H : Hp) (E : XK) : Cx :=
  cxOf (CXd P w) P w K mg base N qual (defScope st) f cdv A outer s H E
/-- a def that lets an exception out only as it promises; its code object is told -/
theorem fnXC {k : Nat} {f : Addr} {x qual : Str} {st : Stmt} {fd : FuncData} {N ps : List Str} {ds : DSp} (F : Fun K x qual st f fd) (S : FnScope N ps (defScope st)) (len : ∀ args M Q E, ds args M Q E → args.length = ps.length)
    (body : ∀ (cdv : Value), fd.code = cdv → ∀ (A : Around) (outer : List Env) (s : Shared) (H : Hp) (E : XK), (cx0 P w K mg base N qual st f cdv A outer s H E).A.guards = some [] → Room k (cx0 P w K mg base N qual st f cdv A outer s H E).A →
      ∃ fb, DSs (cx0 P w K mg base N qual st f cdv A outer s H E) (defBody st) fb ∧ ∀ args M Q E', stoBel M.length M → bels M.length args = true → ds args M Q E' → fb { nx := fun _ M' => See M.length Q .non M', rt := See M.length Q } ⟨startD N args, fun c fs _ M' => SeeX M.length E' c fs M'⟩ M) :
    FnG P w K mg base (CXd P w) (k + 1) f fd ps (spOf K ds) := by
  refine fnG_of F S (fun vs H Q E ⟨args, M, al, F, G, W, r, q⟩ => r.length.trans (len _ _ _ _ q)) fun cdv hcdv A outer s H vs Q E hgd hr ⟨args, M, al, F, G, W, r, q⟩ => ?_
  obtain ⟨fb, pb, h⟩ := body cdv hcdv A outer s H E hgd hr
  have W0' : al.length = M.length := W.len
  have hb := r.bels
  rw [W0'] at hb
  obtain ⟨tk, tkc⟩ := takes_ofD (X := cx0 P w K mg base N qual st f cdv A outer s H E) (E := E) rfl rfl rfl rfl
  refine ⟨_, pb.ps, ⟨startD N args, fun c fs _ M' => SeeX M.length (kontX K al F G E) c fs M'⟩, M, al, F, G, W, ⟨start_es r, fun c fs vs M' al' F' H' o σ' e' W' s' f' z => W0.of2 tk tkc (SeeX.ok e' W' f' (by rw [W0']; exact z))⟩, MonoS.up pb.mono (h args M _ _ W.bels hb q) ⟨fun ρ' M' k al' F' H' σ' e' W' s' _ => ?_, fun d M' k al' F' H' v e' W' r' => ?_, fun _ _ z => z.elim, fun _ _ z => z.elim⟩⟩
  · exact See.ok e' W' .non (by rw [W0']; exact k)
  · exact See.ok e' W' r' (by rw [W0']; exact k)
/-- a def that lets an exception out only as it promises -/
theorem fnX {k : Nat} {f : Addr} {x qual : Str} {st : Stmt} {fd : FuncData} {N ps : List Str} {ds : DSp} (F : Fun K x qual st f fd) (S : FnScope N ps (defScope st)) (len : ∀ args M Q E, ds args M Q E → args.length = ps.length)
    (body : ∀ (cdv : Value) (A : Around) (outer : List Env) (s : Shared) (H : Hp) (E : XK), (cx0 P w K mg base N qual st f cdv A outer s H E).A.guards = some [] → Room k (cx0 P w K mg base N qual st f cdv A outer s H E).A →
      ∃ fb, DSs (cx0 P w K mg base N qual st f cdv A outer s H E) (defBody st) fb ∧ ∀ args M Q E', stoBel M.length M → bels M.length args = true → ds args M Q E' → fb { nx := fun _ M' => See M.length Q .non M', rt := See M.length Q } ⟨startD N args, fun c fs _ M' => SeeX M.length E' c fs M'⟩ M) :
    FnG P w K mg base (CXd P w) (k + 1) f fd ps (spOf K ds) :=
  fnXC F S len fun cdv _ => body cdv
/-- a def that lets no exception out; its code object is told -/
theorem fnDC {k : Nat} {f : Addr} {x qual : Str} {st : Stmt} {fd : FuncData} {N ps : List Str} {ds : DSp} (F : Fun K x qual st f fd) (S : FnScope N ps (defScope st)) (len : ∀ args M Q E, ds args M Q E → args.length = ps.length)
    (body : ∀ (cdv : Value), fd.code = cdv → ∀ (A : Around) (outer : List Env) (s : Shared) (H : Hp) (E : XK), (cx0 P w K mg base N qual st f cdv A outer s H E).A.guards = some [] → Room k (cx0 P w K mg base N qual st f cdv A outer s H E).A →
      ∃ fb, DSs (cx0 P w K mg base N qual st f cdv A outer s H E) (defBody st) fb ∧ ∀ args M Q E', stoBel M.length M → bels M.length args = true → ds args M Q E' → fb { nx := fun _ M' => See M.length Q .non M', rt := See M.length Q } ⟨startD N args, noX⟩ M) :
    FnG P w K mg base (CXd P w) (k + 1) f fd ps (spOf K ds) := by
  refine fnG_of F S (fun vs H Q E ⟨args, M, al, F, G, W, r, q⟩ => r.length.trans (len _ _ _ _ q)) fun cdv hcdv A outer s H vs Q E hgd hr ⟨args, M, al, F, G, W, r, q⟩ => ?_
  obtain ⟨fb, pb, h⟩ := body cdv hcdv A outer s H E hgd hr
  have W0' : al.length = M.length := W.len
  have hb := r.bels
  rw [W0'] at hb
  refine ⟨_, pb.ps, ⟨startD N args, noX⟩, M, al, F, G, W, Es.none (start_es r) rfl, MonoS.up pb.mono (h args M _ _ W.bels hb q) ⟨fun ρ' M' k al' F' H' σ' e' W' s' _ => ?_, fun d M' k al' F' H' v e' W' r' => ?_, fun _ _ z => z.elim, fun _ _ z => z.elim⟩⟩
  · exact See.ok e' W' .non (by rw [W0']; exact k)
  · exact See.ok e' W' r' (by rw [W0']; exact k)
/-- a def that lets no exception out -/
theorem fnD {k : Nat} {f : Addr} {x qual : Str} {st : Stmt} {fd : FuncData} {N ps : List Str} {ds : DSp} (F : Fun K x qual st f fd) (S : FnScope N ps (defScope st)) (len : ∀ args M Q E, ds args M Q E → args.length = ps.length)
    (body : ∀ (cdv : Value) (A : Around) (outer : List Env) (s : Shared) (H : Hp) (E : XK), (cx0 P w K mg base N qual st f cdv A outer s H E).A.guards = some [] → Room k (cx0 P w K mg base N qual st f cdv A outer s H E).A →
      ∃ fb, DSs (cx0 P w K mg base N qual st f cdv A outer s H E) (defBody st) fb ∧ ∀ args M Q E', stoBel M.length M → bels M.length args = true → ds args M Q E' → fb { nx := fun _ M' => See M.length Q .non M', rt := See M.length Q } ⟨startD N args, noX⟩ M) :
    FnG P w K mg base (CXd P w) (k + 1) f fd ps (spOf K ds) :=
  fnDC F S len fun cdv _ => body cdv
end
section
variable {X : Cx} {a b c : Expr} {fa fb fc : DTE} {pos : Pos} {es : List Expr} {fr : DTA}
@[reducible] def dCall (ds : DSp) (fr : DTA) : DTE := fun ρ M Q => fr ρ M fun args M1 => ds args M1 Q fun c fs M2 => ρ.x c fs ρ.v M2
theorem d_call {ds : DSp} {k : Nat} {f : Addr} {fd : FuncData} {ps : List Str} {x : Str} {p : Pos} (G : FnG X.prog X.w X.K X.mg X.base (CXd X.prog X.w) k f fd ps (spOf X.K ds)) (hgd : X.A.guards = some []) (hr : Room k X.A) (hg : Gl X x) (hm : X.mg x = some (.ref f)) (hk : PySem.W.keepIn X.K (.ref f) = true) (hb : Binds X.K fd ps [])
    (hmono : MonoSp ds) (ha : DA X (a :: es) fr) (hdb : (x == ("__debug__" : Str)) = false := by decide) (he : starEach (a :: es) X.env = (false, eval a X.env) :: starEach es X.env := by rfl) (hpl : (backTo pos (starEach es X.env)).any (·.1) = false := by rfl) :
    DE X (.Call (.Name x p) (a :: es) [] pos) (dCall ds fr) := by
  refine ⟨PE.of (peG_callS G hgd hr hg hm hk hb .nil (passD X) ha.pa hdb he hpl) fun σ H Q ⟨ρ, M, al, F, Gg, W, s, q⟩ => ?_, fun ρ M Q Q' w q => ha.mono _ _ _ _ (fun args M1 q1 => hmono _ _ _ _ _ _ w (fun _ _ _ z => z) q1) q⟩
  refine ha.seq W s q fun args M1 al1 F1 H1 vs q1 e1 W1 r1 s1 => ?_
  exact ⟨args, M1, al1, F1, Gg, W1, by rw [List.append_nil]; exact r1, hmono _ _ _ _ _ _ (fun d M2 k => kont.ext k e1) (fun c fs M2 z al2 F2 H2 o e2 W2 f2 => s1.xo c fs ρ.v M2 al2 F2 H2 o σ e2 W2 (s1.sl.ext e2) f2 z) q1⟩
/-- a def whose answer is a function of its arguments, and which changes nothing -/
@[reducible] def spF (f : List D → Option D) : DSp := fun args M Q _ => match f args with
  | some d => Q d M
  | none => False
/-- three names at once -/
@[reducible] def dPar3 (i j l : Nat) (fa : DTA) : DTS := fun D ρ M => fa ρ M fun ds M1 => match ds with
  | [d, e, f] => D.nx ⟨((ρ.v.set i (some d)).set j (some e)).set l (some f), ρ.x⟩ M1
  | _ => False
theorem ds_par3 {i j l : Nat} {tgs : List Expr} {v : Expr} (ha : DA X [a, b, c] fr) (ps : ∀ {ta : TA}, PA X [a, b, c] ta → PS X (.Assign tgs v pos) (tPar3 i j l ta)) : DS X (.Assign tgs v pos) (dPar3 i j l fr) := by
  refine ⟨PS.of (ps ha.pa) fun E σ H ⟨ρ, M, al, F, G, W, es, q⟩ => ?_, fun D D' ρ M w q => ha.mono _ _ _ _ (fun ds M1 q1 => ?_) q⟩
  · refine ha.seq W es q fun ds M1 al1 F1 H1 vs q1 e1 W1 r1 s1 => ?_
    match ds, r1, q1 with
    | [d, e, f], .cons r2 (.cons r3 (.cons r4 .nil)), q1 => exact ⟨_, _, _, rfl, q1 al1 F1 H1 _ e1 W1 (((s1.sl.set r2 i).set r3 j).set r4 l) rfl⟩
  · match ds, q1 with
    | [d, e, f], q1 => exact w.nx _ _ q1
end
end DL
namespace DL
open PySem PySem.Spec PyProof.Rows L2
section
variable {X : Cx} {a b c : Expr} {fa fb fc : DTE} {pos : Pos} {es : List Expr} {fr : DTA}
theorem dv (i : Nat) {x : Str} {pos : Pos} (hN : X.N[i]? = some x := by rfl) (hv : Vis X.env.scope x := by first | exact Or.inl rfl | exact Or.inr (Or.inl rfl) | exact Or.inr (Or.inr rfl)) (hd : (x == ("__debug__" : Str)) = false := by decide)
    (hcd : (x == ("__classdict__" : Str)) = false := by decide) : DE X (.Name x pos) (dVar i) := d_var i hN hv hd hcd
theorem dgn (i : Nat) {x : Str} {pos : Pos} (hN : X.N.Nodup) (hi : X.N[i]? = some x := by rfl) (hx : Loc X.env.scope x := by first | exact Or.inl rfl | exact Or.inr rfl) (hf : X.fn x = true ∨ X.env.scope.names.lookup x = some .local := by first | exact .inl rfl | exact .inr rfl) : DG X (.Name x pos) (dgName i) [i] := dg_name hN hi hx hf
theorem dss (i : Nat) {x : Str} {pos' : Pos} (hN : X.N.Nodup) (h : DE X a fa) (hi : X.N[i]? = some x := by rfl) (hx : Loc X.env.scope x := by first | exact Or.inl rfl | exact Or.inr rfl) (hs : swapsWith a (some (.Name x pos')) pos.line X.env = pure false := by rfl) (hf : X.fn x = true ∨ X.env.scope.names.lookup x = some .local := by first | exact .inl rfl | exact .inr rfl) :
    DS X (.Assign [.Name x pos'] a pos) (dAsg fa (dgName i)) := ds_set hN hi hx h hs hf
theorem dsp2 (i j : Nat) {x y : Str} {px py pt : Pos} {kt k2 : Nat} {pt2 : Pos} (hN : X.N.Nodup) (ha : DA X [a, b] fr) (hc : X.calm = true := by rfl) (hi : X.N[i]? = some x := by rfl) (hj : X.N[j]? = some y := by rfl) (hij : i ≠ j := by decide) (hx : X.env.scope.names.lookup x = some .local := by rfl) (hy : X.env.scope.names.lookup y = some .local := by rfl)
    (hw : swappedStores [.Tuple [.Name x px, .Name y py] kt pt] (.Tuple [a, b] k2 pt2) X.env = pure (some [x, y]) := by rfl) (hs : swapsWithSole [.Tuple [.Name x px, .Name y py] kt pt] (.Tuple [a, b] k2 pt2) pos.line X.env = pure false := by rfl) :
    DS X (.Assign [.Tuple [.Name x px, .Name y py] kt pt] (.Tuple [a, b] k2 pt2) pos) (dPar i j fr) :=
  ds_par hc hN hi hj hij hx hy ha fun h => ps_par hc hN hi hj hij hx hy h hw hs
theorem dsp3 (i j l : Nat) {x y z : Str} {px py pz pt : Pos} {kt k2 : Nat} {pt2 : Pos} (hN : X.N.Nodup) (ha : DA X [a, b, c] fr) (hc : X.calm = true := by rfl) (hi : X.N[i]? = some x := by rfl) (hj : X.N[j]? = some y := by rfl) (hl : X.N[l]? = some z := by rfl) (hij : i ≠ j := by decide) (hil : i ≠ l := by decide) (hjl : j ≠ l := by decide)
    (hx : X.env.scope.names.lookup x = some .local := by rfl) (hy : X.env.scope.names.lookup y = some .local := by rfl) (hz : X.env.scope.names.lookup z = some .local := by rfl)
    (hw : swappedStores [.Tuple [.Name x px, .Name y py, .Name z pz] kt pt] (.Tuple [a, b, c] k2 pt2) X.env = pure (some [x, y, z]) := by rfl) (hs : swapsWithSole [.Tuple [.Name x px, .Name y py, .Name z pz] kt pt] (.Tuple [a, b, c] k2 pt2) pos.line X.env = pure false := by rfl) :
    DS X (.Assign [.Tuple [.Name x px, .Name y py, .Name z pz] kt pt] (.Tuple [a, b, c] k2 pt2) pos) (dPar3 i j l fr) :=
  ds_par3 ha fun h => ps_par3 hc hN hi hj hl hij hil hjl hx hy hz h hw hs
def r2 (K : PySem.W.Frag) (g : G2) : R2 := fun x y H Q => ∃ dx dy al F G M, Wd K al F G H M ∧ Rp K F al x dx ∧ Rp K F al y dy ∧ g dx dy M (kont K al F G Q)
@[reducible] def dChain (g g' : G2) (fa fb fc : DTE) : DTE := fun ρ M Q => fa ρ M fun x M1 => fb ρ M1 fun y M2 => g x y M2 fun z M3 => match z with
  | .bl true => fc ρ M3 fun w M4 => g' y w M4 Q
  | .bl false => Q (.bl false) M3
  | _ => False
structure Cl (P : Program) (w : World) (K : PySem.W.Frag) (mg : Str → Option Value) (base : Heap) (x : Str) (k : Nat) (ps : List Str) (ds : DSp) : Prop where
  ex : ∃ (f : Addr) (fd : FuncData), FnG P w K mg base (CXd P w) k f fd ps (spOf K ds) ∧ mg x = some (.ref f) ∧ PySem.W.keepIn K (.ref f) = true ∧ Binds K fd ps []
  mono : MonoSp ds
theorem d_cl {ds : DSp} {k : Nat} {ps : List Str} {x : Str} {p : Pos} (C : Cl X.prog X.w X.K X.mg X.base x k ps ds) (hgd : X.A.guards = some []) (hr : Room k X.A) (ha : DA X (a :: es) fr) (hg : Gl X x := by rfl) (hdb : (x == ("__debug__" : Str)) = false := by decide)
    (he : starEach (a :: es) X.env = (false, eval a X.env) :: starEach es X.env := by rfl) (hpl : (backTo pos (starEach es X.env)).any (·.1) = false := by rfl) : DE X (.Call (.Name x p) (a :: es) [] pos) (dCall ds fr) := by
  obtain ⟨f, fd, G, hm, hk, hb⟩ := C.ex
  exact d_call G hgd hr hg hm hk hb C.mono ha hdb he hpl
theorem Cl.up {P : Program} {w : World} {K : PySem.W.Frag} {mg : Str → Option Value} {base : Heap} {x : Str} {j k : Nat} {ps : List Str} {ds : DSp} (C : Cl P w K mg base x j ps ds) (h : j ≤ k) : Cl P w K mg base x k ps ds := by
  obtain ⟨f, fd, G, r⟩ := C.ex
  exact ⟨⟨f, fd, G.mono h, r⟩, C.mono⟩
/-- a def of the top -/
structure Df (K : PySem.W.Frag) (mg : Str → Option Value) (x : Str) (st : Stmt) : Prop where
  ex : ∃ (f : Addr) (fd : FuncData), Fun K x x st f fd ∧ mg x = some (.ref f)
/-- the built-in names that no text here takes -/
structure Bn (mg : Str → Option Value) : Prop where
  abs : mg "abs" = none
  all : mg "all" = none
  any : mg "any" = none
  bool : mg "bool" = none
  dict : mg "dict" = none
  enumerate : mg "enumerate" = none
  int : mg "int" = none
  isinstance : mg "isinstance" = none
  len : mg "len" = none
  list : mg "list" = none
  max : mg "max" = none
  min : mg "min" = none
  range : mg "range" = none
  repr : mg "repr" = none
  set : mg "set" = none
  sorted : mg "sorted" = none
  str : mg "str" = none
  sum : mg "sum" = none
  tuple : mg "tuple" = none
  zip : mg "zip" = none
  LookupError : mg "LookupError" = none
  ValueError : mg "ValueError" = none
theorem b_LookupError : bootBuiltins "LookupError" = some (.type "LookupError") := by decide +kernel
theorem b_abs : bootBuiltins "abs" = some (.builtin "abs") := by decide +kernel
theorem b_int : bootBuiltins "int" = some (.type "int") := by decide +kernel
theorem b_len : bootBuiltins "len" = some (.builtin "len") := by decide +kernel
theorem b_max : bootBuiltins "max" = some (.builtin "max") := by decide +kernel
theorem b_min : bootBuiltins "min" = some (.builtin "min") := by decide +kernel
theorem b_repr : bootBuiltins "repr" = some (.builtin "repr") := by decide +kernel
theorem b_sum : bootBuiltins "sum" = some (.builtin "sum") := by decide +kernel
theorem b_tuple : bootBuiltins "tuple" = some (.type "tuple") := by decide +kernel
/-- a comprehension's list that will be changed -/
@[reducible] def dLcM (fi : DTI) (g : DTG) (t : DTT) (fe : DTE) (vs : List Nat) : DTE := fun ρ M Q => fi ρ M fun ds st M1 => lcGo st (lcStep ρ vs g t fe) ds [] M1 fun acc M2 => Q (.ref M2.length) (M2 ++ [Cell.lst acc])
theorem Wd.thawM {K : PySem.W.Frag} {al : List Addr} {F G H : Hp} {M : Sto} {p : Addr} {xs : List V} {ds : List D} (W : Wd K al F (upd G p (.lst xs)) H M) (hg : G p = none) (rs : Rps K F al xs ds) : Wd K (al ++ [p]) F G H (M ++ [.lst ds]) ∧ Ext al F (al ++ [p]) F := by
  have hp := W.fg p _ upd_same
  have e : Ext al F (al ++ [p]) F := ⟨⟨[p], rfl⟩, Sm.refl F⟩
  refine ⟨⟨W.sm, fun b u q => W.sg b u (Sm.new hg b u q), fun a u q => ?_, by simp [W.len], ?_, fun a q => ?_, fun n c a q r => ?_, W.tb.to (Sm.refl F) fun P x f g y => ?_⟩, e⟩
  rotate_right
  · have np : P ≠ p := fun z => by rw [z, upd_same] at g; cases g
    exact ⟨rfl, f, (upd_ne np).symm.trans g, fun z => (List.mem_append.mp z).elim y fun z => np (by simpa using z)⟩
  · have hn : a ≠ p := fun z => by subst z; rw [hg] at q; cases q
    obtain ⟨h1, h2⟩ := W.fg a u (Sm.new hg a u q)
    refine ⟨h1, fun z => ?_⟩
    rcases List.mem_append.mp z with z | z
    · exact h2 z
    · exact hn (by simpa using z)
  · rw [List.nodup_append]
    refine ⟨W.nd, by simp, fun a ha b hb => ?_⟩
    have hb' : b = p := by simpa using hb
    subst hb'
    exact fun z => hp.2 (z ▸ ha)
  · rcases List.mem_append.mp q with q | q
    · exact W.out a q
    · have q' : a = p := by simpa using q
      subst q'
      exact hp.1
  · by_cases hn : n < M.length
    · rw [List.getElem?_append_left hn] at q
      rw [List.getElem?_append_left (by rw [W.len]; exact hn)] at r
      exact (W.cel n c a q r).ext e rfl
    · have hn' : n = M.length := by
        have := (List.getElem?_eq_some_iff.mp q).1
        rw [List.length_append, List.length_singleton] at this
        omega
      subst hn'
      rw [List.getElem?_append_right (Nat.le_refl _)] at q
      rw [← W.len, List.getElem?_append_right (Nat.le_refl _)] at r
      simp at q r
      subst q
      subst r
      exact ⟨xs, W.sg _ _ upd_same, rs.ext e⟩
theorem lcM_ok {Y : Cx} {wi : DTI} {g : DTG} {t : DTT} {fe : DTE} {vs js : List Nat} {σ : L2.St} {H : Hp} {Q : VK} (hi : ∀ ρ M (Q Q' : List D → (Sto → Prop) → Sto → Prop), (∀ ds st M, Q ds st M → Q' ds st M) → wi ρ M Q → wi ρ M Q')
    (hg : MonoG g) (ht : ∀ ρ M (Q Q' : Bool → Sto → Prop), (∀ d M, Q d M → Q' d M) → t ρ M Q → t ρ M Q') (he : ∀ ρ M (Q Q' : DK), (∀ d M, Q d M → Q' d M) → fe ρ M Q → fe ρ M Q') (hj : ∀ j ∈ js, j ∈ vs)
    (h : Lift Y (dLcM wi g t fe vs) σ H Q) : tLc (LiftI Y wi) (LiftGN Y.K g js) (LiftTN Y.K t) (LiftN Y.K fe) vs σ H Q := by
  obtain ⟨ρ, M, al, F, G, W, es, q⟩ := h
  refine ⟨ρ, M, al, F, G, W, es, hi _ _ _ _ (fun ds st M1 q1 al1 F1 H1 J e1 W1 ok => ?_) q⟩
  intro Dd hD
  have hGD : G Dd = none := W1.sg.free hD
  refine ⟨fun i m H' => ∃ M' al' F' acc xs, i + m = ds.length ∧ Ext al1 F1 al' F' ∧ Wd Y.K al' F' (upd G Dd (.lst xs)) H' M' ∧ Rps Y.K F' al' xs acc ∧ lcGo st (lcStep ρ vs g t fe) (ds.drop i) acc M' (fun acc M2 => kont Y.K al F G Q (.ref M2.length) (M2 ++ [Cell.lst acc])),
    ⟨ds.length, M1, al1, F1, [], [], by omega, Ext.refl _ _, W1.hide hD, .nil, q1⟩, ?_⟩
  rintro i m H' ⟨M', al', F', acc, xs, em, e', W', rs, q'⟩
  have smG : Sm G (upd G Dd (.lst xs)) := Sm.new hGD
  by_cases hil : i < ds.length
  · rw [List.drop_eq_getElem_cons hil] at q'
    obtain ⟨hst, q'⟩ := q'
    obtain ⟨go, yl⟩ := (ok al' F' _ H' M' e' smG W' hst i).1 ds[i] (List.getElem?_eq_getElem hil)
    refine .inr ⟨go, fun H2 => ∃ M2 al2 F2 acc2 xs2, Ext al1 F1 al2 F2 ∧ Wd Y.K al2 F2 (upd G Dd (.lst xs2)) H2 M2 ∧ Rps Y.K F2 al2 xs2 acc2 ∧ lcGo st (lcStep ρ vs g t fe) (ds.drop (i + 1)) acc2 M2 (fun acc M2 => kont Y.K al F G Q (.ref M2.length) (M2 ++ [Cell.lst acc])), ?_, fun x H2 hy => ?_⟩
    · rintro H2 ⟨M2, al2, F2, acc2, xs2, e2, W2, r2, q2⟩
      exact ⟨m - 1, by omega, M2, al2, F2, acc2, xs2, by omega, e2, W2, r2, q2⟩
    · obtain ⟨F2, sm2, W2, r2⟩ := yl x H2 hy
      have e2 : Ext al' F' al' F2 := ⟨⟨[], by simp⟩, sm2⟩
      have esw : Sl Y.K F2 al' (wipe σ vs) (wipeD ρ.v vs) := (es.sl.ext (e1.trans (e'.trans e2))).wipe vs
      refine ⟨ds[i], ⟨wipeD ρ.v vs, noX⟩, M', al', F2, _, W2, esw, rfl, r2, hg _ _ _ _ _ (fun ρ3 M3 q3 al3 F3 H3 σ3 e3 W3 s3 x3 o3 => ?_) q'⟩
      refine ⟨(wipe_eq o3 hj).trans wipe_wipe, ρ3, M3, al3, F3, _, W3, s3, x3, ht _ _ _ _ (fun b M4 q4 al4 F4 H4 e4 W4 => ?_) q3⟩
      cases b with
      | false =>
        exact ⟨M4, al4, F4, acc, xs, e'.trans (e2.trans (e3.trans e4)), W4, rs.ext (e2.trans (e3.trans e4)), q4⟩
      | true =>
        refine ⟨ρ3, M4, al4, F4, _, W4, s3.ext e4, x3, he _ _ _ _ (fun y M5 q5 al5 F5 H5 v5 e5 W5 r5 => ?_) q4⟩
        have eA : Ext al' F' al5 F5 := e2.trans (e3.trans (e4.trans e5))
        have rl := rs.length
        refine ⟨xs, W5.sg _ _ upd_same, Nat.lt_of_lt_of_le (by have := q5.1; omega : xs.length < 100000) (by decide), M5, al5, F5, acc ++ [y], xs ++ [v5], e'.trans eA, W5.rehide, (rs.ext eA).append (.cons r5 .nil), q5.2⟩
  · rw [List.drop_eq_nil_of_le (by omega)] at q'
    refine .inl ⟨(ok al' F' _ H' M' e' smG W' q'.1 i).2 (by omega), ?_⟩
    obtain ⟨W2, e2⟩ := W'.thawM hGD rs
    exact q'.2 _ _ H' _ (e1.trans (e'.trans e2)) W2 (.ref (by rw [← W'.len, List.getElem?_append_right (Nat.le_refl _)]; simp))
theorem d_lcM {elt tg iter : Expr} {ifs : List Expr} {scope : Scope} {own : List (Str × Nat)} {fi : DTI} {g : DTG} {t : DTT} {fe : DTE} {js : List Nat} (hc : X.calm = true) (hN : X.N.Nodup) (hi : DI X tg iter fi) (ok : BlkOk X.N X.env.scope scope own) (hj : ∀ j ∈ js, j ∈ own.map (·.2))
    (hg : ∀ (s : Shared) (H : Hp) (C : Addr) (cl : List (Str × Addr)) (fp : List Addr), DG (X.blk s H scope (compEnvC scope cl C X.env) fp) tg g js)
    (ht : ∀ (s : Shared) (H : Hp) (C : Addr) (cl : List (Str × Addr)) (fp : List Addr), DTTs (X.blk s H scope (compEnvC scope cl C X.env) fp) ifs t)
    (he : ∀ (s : Shared) (H : Hp) (C : Addr) (cl : List (Str × Addr)) (fp : List Addr), DE (X.blk s H scope (compEnvC scope cl C X.env) fp) elt fe)
    (hfs : ∀ x : Value, foldedSetIterable iter X.env x = pure x := by intro _; rfl) : DE X (.ListComp elt [⟨tg, iter, ifs, 0⟩] scope pos) (dLcM fi g t fe (own.map (·.2))) := by
  have g0 := (hg X.s_0 (fun _ => none) 0 [] []).mono
  have t0 := (ht X.s_0 (fun _ => none) 0 [] []).2
  have e0 := (he X.s_0 (fun _ => none) 0 [] []).mono
  refine ⟨PE.of (pe_lc hc hN hi.pi ok (fun s H C cl fp => PG.of (hg s H C cl fp).pg fun _ _ _ _ z => LiftGN.of (hg s H C cl fp).mono z) (fun s H C cl fp => PTs.of (ht s H C cl fp).1 fun _ _ _ z => LiftTN.of z) (fun s H C cl fp => PE.of (he s H C cl fp).pe fun _ _ _ z => LiftN.of z) hfs) fun σ H Q h => lcM_ok (Y := X) hi.mono g0 t0 e0 hj h, fun ρ M Q Q' w q => ?_⟩
  exact hi.mono _ _ _ _ (fun ds st M1 q1 => lcGo_mono (lcStep_mono g0 t0 e0) _ _ (fun a M2 q2 => w _ _ q2) ds [] M1 q1) q
end
end DL
namespace DL
open PySem PySem.Spec PyProof.Rows L2
theorem itemsOf_tup (ds : List D) (M : Sto) : itemsOf (.tup ds) M = some ds := rfl
theorem itemsOf_lst (ds : List D) (M : Sto) : itemsOf (.lst ds) M = some ds := rfl
theorem itemsOf_ref (n : Nat) (M : Sto) : itemsOf (.ref n) M = match M[n]? with
    | some (.lst ds) => some ds
    | _ => none := rfl
theorem seqOf_lst (ds : List D) (M : Sto) : seqOf (.lst ds) M = some ds := rfl
theorem seqOf_ref (n : Nat) (M : Sto) : seqOf (.ref n) M = match M[n]? with
    | some (.lst ds) => some ds
    | _ => none := rfl
theorem lenOf_tup (ds : List D) (M : Sto) : lenOf (.tup ds) M = some ds.length := rfl
theorem lenOf_lst (ds : List D) (M : Sto) : lenOf (.lst ds) M = some ds.length := rfl
theorem lenOf_ref (n : Nat) (M : Sto) : lenOf (.ref n) M = match M[n]? with
    | some (.lst ds) => some ds.length
    | _ => none := by
  show (match (match M[n]? with | some (.lst ds) => some ds | _ => none) with | some ds => some ds.length | none => none) = _
  cases M[n]? with
  | none => rfl
  | some c => cases c <;> rfl
theorem atI_0 {α : Type} (x : α) (xs : List α) : atI (x :: xs) 0 = some x := atI_nat (xs := x :: xs) (j := 0) rfl
theorem atI_1 {α : Type} (x y : α) (xs : List α) : atI (x :: y :: xs) 1 = some y := atI_nat (xs := x :: y :: xs) (j := 1) rfl
theorem atI_2 {α : Type} (x y z : α) (xs : List α) : atI (x :: y :: z :: xs) 2 = some z := atI_nat (xs := x :: y :: z :: xs) (j := 2) rfl
theorem atI_3 {α : Type} (x y z u : α) (xs : List α) : atI (x :: y :: z :: u :: xs) 3 = some u := atI_nat (xs := x :: y :: z :: u :: xs) (j := 3) rfl
theorem ixN_0 (n : Nat) : ixN (n + 1) 0 = some 0 := by unfold ixN; rw [if_pos (by decide), if_pos (by omega)]; rfl
theorem ixN_1 (n : Nat) : ixN (n + 1 + 1) 1 = some 1 := by unfold ixN; rw [if_pos (by decide), if_pos (by omega)]; rfl
/-- an item at an index that is known to lie within -/
theorem atI_of {α : Type} {xs : List α} {i : Int} {j : Nat} {x : α} (e : i = (j : Int)) (h : xs[j]? = some x) : atI xs i = some x := by rw [e]; exact atI_nat h
theorem ixN_of {n : Nat} {i : Int} (h0 : 0 ≤ i) (h1 : i < n) : ixN n i = some i.toNat := by unfold ixN; rw [if_pos h0, if_pos h1]
theorem atI_ints {ns : List Int} {i : Int} (h0 : 0 ≤ i) (h1 : i < ns.length) : ∃ x, x ∈ ns ∧ ns[i.toNat]? = some x ∧ atI (ns.map D.int) i = some (.int x) := by
  have hl : i.toNat < ns.length := by omega
  refine ⟨ns[i.toNat], List.getElem_mem hl, List.getElem?_eq_getElem hl, ?_⟩
  refine atI_of (j := i.toNat) (by omega) ?_
  rw [List.getElem?_map, List.getElem?_eq_getElem hl]
  rfl
theorem ite_dec {p : Prop} [Decidable p] {A B : Prop} (h1 : p → A) (h2 : ¬ p → B) : if decide p = true then A else B := by
  by_cases h : p
  · rw [if_pos (decide_eq_true h)]; exact h1 h
  · rw [if_neg (by rw [decide_eq_false h]; decide)]; exact h2 h
def forI (st : Sto → Prop) (g : DTG) (body : DTS) (ds : List D) (E : DEnds) (ρ : Dn) (M : Sto) : Prop := ∃ I : List D → List D → Dn → Sto → Prop, I [] ds ρ M ∧ (∀ done todo ρ M, I done todo ρ M → st M) ∧
  (∀ done d todo ρ M, I done (d :: todo) ρ M → g d ρ M fun ρ1 M1 => body { nx := fun ρ2 M2 => I (done ++ [d]) todo ρ2 M2, rt := E.rt, bk := E.nx, ct := fun ρ2 M2 => I (done ++ [d]) todo ρ2 M2 } ρ1 M1) ∧ ∀ done ρ M, I done [] ρ M → E.nx ρ M
theorem for_go {st : Sto → Prop} {g : DTG} {body : DTS} {E : DEnds} {I : List D → List D → Dn → Sto → Prop} (hst : ∀ done todo ρ M, I done todo ρ M → st M)
      (step : ∀ done d todo ρ M, I done (d :: todo) ρ M → g d ρ M fun ρ1 M1 => body { nx := fun ρ2 M2 => I (done ++ [d]) todo ρ2 M2, rt := E.rt, bk := E.nx, ct := fun ρ2 M2 => I (done ++ [d]) todo ρ2 M2 } ρ1 M1)
      (hend : ∀ done ρ M, I done [] ρ M → E.nx ρ M) (mg : MonoG g) (mb : MonoS body) : ∀ (done todo : List D) (ρ : Dn) (M : Sto), I done todo ρ M → forGo st g body todo E ρ M
  | done, [], ρ, M, h => ⟨hst _ _ _ _ h, hend _ _ _ h⟩
  | done, d :: todo, ρ, M, h => by
    refine ⟨hst _ _ _ _ h, mg _ _ _ _ _ (fun ρ1 M1 q1 => ?_) (step done d todo ρ M h)⟩
    exact MonoS.up mb (D := { nx := fun ρ2 M2 => I (done ++ [d]) todo ρ2 M2, rt := E.rt, bk := E.nx, ct := fun ρ2 M2 => I (done ++ [d]) todo ρ2 M2 }) q1
      ⟨fun ρ2 M2 q2 => for_go hst step hend mg mb (done ++ [d]) todo ρ2 M2 q2, fun _ _ z => z, fun _ _ z => z, fun ρ2 M2 q2 => for_go hst step hend mg mb (done ++ [d]) todo ρ2 M2 q2⟩
@[reducible] def dForI (fi : DTI) (g : DTG) (body : DTS) : DTS := fun E ρ M => fi ρ M fun ds st M1 => forI st g body ds E ρ M1
theorem forI_mono {st : Sto → Prop} {g : DTG} {body : DTS} (hg : MonoG g) (hb : MonoS body) (ds : List D) : MonoS (forI st g body ds) := by
  rintro D D' ρ M w ⟨I, h0, h1, h2, h3⟩
  refine ⟨I, h0, h1, fun done d todo ρ M h => hg _ _ _ _ _ (fun ρ1 M1 q1 => ?_) (h2 done d todo ρ M h), fun done ρ M h => w.nx _ _ (h3 done ρ M h)⟩
  exact MonoS.up hb (D := { nx := fun ρ2 M2 => I (done ++ [d]) todo ρ2 M2, rt := D.rt, bk := D.nx, ct := fun ρ2 M2 => I (done ++ [d]) todo ρ2 M2 }) q1 ⟨fun _ _ z => z, w.rt, w.nx, fun _ _ z => z⟩
def lcI (st : Sto → Prop) (step : D → Sto → (Option D → Sto → Prop) → Prop) (ds : List D) (M : Sto) (Q : List D → Sto → Prop) : Prop := ∃ I : List D → List D → List D → Sto → Prop, I [] ds [] M ∧ (∀ done todo acc M, I done todo acc M → st M) ∧
  (∀ done d todo acc M, I done (d :: todo) acc M → step d M fun o M1 => match o with
      | some y => acc.length < 100000 ∧ I (done ++ [d]) todo (acc ++ [y]) M1
      | none => I (done ++ [d]) todo acc M1) ∧ ∀ done acc M, I done [] acc M → Q acc M
theorem lc_go {st : Sto → Prop} {step : D → Sto → (Option D → Sto → Prop) → Prop} {Q : List D → Sto → Prop} {I : List D → List D → List D → Sto → Prop} (hst : ∀ done todo acc M, I done todo acc M → st M)
    (hs : ∀ done d todo acc M, I done (d :: todo) acc M → step d M fun o M1 => match o with
      | some y => acc.length < 100000 ∧ I (done ++ [d]) todo (acc ++ [y]) M1
      | none => I (done ++ [d]) todo acc M1)
    (hm : ∀ d M (k k' : Option D → Sto → Prop), (∀ o M, k o M → k' o M) → step d M k → step d M k') (hend : ∀ done acc M, I done [] acc M → Q acc M) :
    ∀ (done todo acc : List D) (M : Sto), I done todo acc M → lcGo st step todo acc M Q
  | done, [], acc, M, h => ⟨hst _ _ _ _ h, hend _ _ _ h⟩
  | done, d :: todo, acc, M, h => ⟨hst _ _ _ _ h, hm _ _ _ _ (fun o M1 q => by
    cases o with
    | none => exact lc_go hst hs hm hend (done ++ [d]) todo acc M1 q
    | some y => exact ⟨q.1, lc_go hst hs hm hend (done ++ [d]) todo (acc ++ [y]) M1 q.2⟩) (hs done d todo acc M h)⟩
theorem lcI_go {st : Sto → Prop} {step : D → Sto → (Option D → Sto → Prop) → Prop} {ds : List D} {M : Sto} {Q : List D → Sto → Prop} (hm : ∀ d M (k k' : Option D → Sto → Prop), (∀ o M, k o M → k' o M) → step d M k → step d M k') (h : lcI st step ds M Q) : lcGo st step ds [] M Q :=
  let ⟨I, h0, h1, h2, h3⟩ := h
  lc_go (I := I) h1 h2 hm h3 [] ds [] M h0
@[reducible] def dLcI (fi : DTI) (g : DTG) (t : DTT) (fe : DTE) (vs : List Nat) : DTE := fun ρ M Q => fi ρ M fun ds st M1 => lcI st (lcStep ρ vs g t fe) ds M1 fun acc M2 => Q (.lst acc) M2
@[reducible] def dLcMI (fi : DTI) (g : DTG) (t : DTT) (fe : DTE) (vs : List Nat) : DTE := fun ρ M Q => fi ρ M fun ds st M1 => lcI st (lcStep ρ vs g t fe) ds M1 fun acc M2 => Q (.ref M2.length) (M2 ++ [Cell.lst acc])
section
variable {X : Cx} {pos : Pos}
theorem DE.weak {e : Expr} {f f' : DTE} (h : DE X e f) (w : ∀ ρ M Q, f' ρ M Q → f ρ M Q) (m : ∀ ρ M (Q Q' : DK), (∀ d M, Q d M → Q' d M) → f' ρ M Q → f' ρ M Q') : DE X e f' :=
  ⟨PE.of h.pe fun σ H Q ⟨ρ, M, al, F, G, W, s, q⟩ => ⟨ρ, M, al, F, G, W, s, w _ _ _ q⟩, m⟩
theorem DS.weak {e : Stmt} {f f' : DTS} (h : DS X e f) (w : ∀ E ρ M, f' E ρ M → f E ρ M) (m : MonoS f') : DS X e f' :=
  ⟨PS.of h.ps fun E σ H ⟨ρ, M, al, F, G, W, s, q⟩ => ⟨ρ, M, al, F, G, W, s, w _ _ _ q⟩, m⟩
theorem ds_forI {tg iter : Expr} {body : List Stmt} {fi : DTI} {g : DTG} {js : List Nat} {f : DTS} (hp : PassesOwn (model X.prog X.w) X.A X.env X.xe) (hc : X.calm = true) (hi : DI X tg iter fi) (hg : DG X tg g js) (hb : DSs X body f)
    (hfs : ∀ x : Value, foldedSetIterable iter X.env x = pure x := by intro _; rfl) : DS X (.For tg iter body [] pos) (dForI fi g f) :=
  (ds_for hp hc hi hg hb hfs).weak (fun E ρ M q => hi.mono _ _ _ _ (fun ds st M1 ⟨I, h0, h1, h2, h3⟩ => for_go (I := I) h1 h2 h3 hg.mono hb.mono [] ds ρ M1 h0) q)
    fun D D' ρ M w q => hi.mono _ _ _ _ (fun ds st M1 q1 => forI_mono hg.mono hb.mono ds D D' ρ M1 w q1) q
theorem d_lcI {elt tg iter : Expr} {ifs : List Expr} {scope : Scope} {own : List (Str × Nat)} {fi : DTI} {g : DTG} {t : DTT} {fe : DTE} {js : List Nat} (hc : X.calm = true) (hN : X.N.Nodup) (hi : DI X tg iter fi) (ok : BlkOk X.N X.env.scope scope own) (hj : ∀ j ∈ js, j ∈ own.map (·.2))
    (hg : ∀ (s : Shared) (H : Hp) (C : Addr) (cl : List (Str × Addr)) (fp : List Addr), DG (X.blk s H scope (compEnvC scope cl C X.env) fp) tg g js)
    (ht : ∀ (s : Shared) (H : Hp) (C : Addr) (cl : List (Str × Addr)) (fp : List Addr), DTTs (X.blk s H scope (compEnvC scope cl C X.env) fp) ifs t)
    (he : ∀ (s : Shared) (H : Hp) (C : Addr) (cl : List (Str × Addr)) (fp : List Addr), DE (X.blk s H scope (compEnvC scope cl C X.env) fp) elt fe)
    (hfs : ∀ x : Value, foldedSetIterable iter X.env x = pure x := by intro _; rfl) : DE X (.ListComp elt [⟨tg, iter, ifs, 0⟩] scope pos) (dLcI fi g t fe (own.map (·.2))) := by
  have g0 := (hg X.s_0 (fun _ => none) 0 [] []).mono
  have t0 := (ht X.s_0 (fun _ => none) 0 [] []).2
  have e0 := (he X.s_0 (fun _ => none) 0 [] []).mono
  exact (d_lc hc hN hi ok hj hg ht he hfs).weak (fun ρ M Q q => hi.mono _ _ _ _ (fun ds st M1 q1 => lcI_go (lcStep_mono g0 t0 e0) q1) q)
    fun ρ M Q Q' w q => hi.mono _ _ _ _ (fun ds st M1 ⟨I, h0, h1, h2, h3⟩ => ⟨I, h0, h1, h2, fun done acc M h => w _ _ (h3 done acc M h)⟩) q
theorem d_lcMI {elt tg iter : Expr} {ifs : List Expr} {scope : Scope} {own : List (Str × Nat)} {fi : DTI} {g : DTG} {t : DTT} {fe : DTE} {js : List Nat} (hc : X.calm = true) (hN : X.N.Nodup) (hi : DI X tg iter fi) (ok : BlkOk X.N X.env.scope scope own) (hj : ∀ j ∈ js, j ∈ own.map (·.2))
    (hg : ∀ (s : Shared) (H : Hp) (C : Addr) (cl : List (Str × Addr)) (fp : List Addr), DG (X.blk s H scope (compEnvC scope cl C X.env) fp) tg g js)
    (ht : ∀ (s : Shared) (H : Hp) (C : Addr) (cl : List (Str × Addr)) (fp : List Addr), DTTs (X.blk s H scope (compEnvC scope cl C X.env) fp) ifs t)
    (he : ∀ (s : Shared) (H : Hp) (C : Addr) (cl : List (Str × Addr)) (fp : List Addr), DE (X.blk s H scope (compEnvC scope cl C X.env) fp) elt fe)
    (hfs : ∀ x : Value, foldedSetIterable iter X.env x = pure x := by intro _; rfl) : DE X (.ListComp elt [⟨tg, iter, ifs, 0⟩] scope pos) (dLcMI fi g t fe (own.map (·.2))) := by
  have g0 := (hg X.s_0 (fun _ => none) 0 [] []).mono
  have t0 := (ht X.s_0 (fun _ => none) 0 [] []).2
  have e0 := (he X.s_0 (fun _ => none) 0 [] []).mono
  exact (d_lcM hc hN hi ok hj hg ht he hfs).weak (fun ρ M Q q => hi.mono _ _ _ _ (fun ds st M1 q1 => lcI_go (lcStep_mono g0 t0 e0) q1) q)
    fun ρ M Q Q' w q => hi.mono _ _ _ _ (fun ds st M1 ⟨I, h0, h1, h2, h3⟩ => ⟨I, h0, h1, h2, fun done acc M h => w _ _ (h3 done acc M h)⟩) q
theorem ds_setLcI {i : Nat} {y : Str} {py spos : Pos} {elt tg iter : Expr} {ifs : List Expr} {scope : Scope} {own : List (Str × Nat)} {fi : DTI} {g : DTG} {t : DTT} {fe : DTE} {js : List Nat} (hc : X.calm = true) (hN : X.N.Nodup) (hy : X.N[i]? = some y) (hl : X.env.scope.names.lookup y = some .local)
    (hsw : swapsWith (.ListComp elt [⟨tg, iter, ifs, 0⟩] scope pos) (some (.Name y py)) spos.line X.env = pure true) (hi : DI X tg iter fi) (ok : BlkOk X.N X.env.scope scope own) (hj : ∀ j ∈ js, j ∈ own.map (·.2))
    (hg : ∀ (s : Shared) (H : Hp) (C : Addr) (cl : List (Str × Addr)) (fp : List Addr), DG (X.blk s H scope (compEnvC scope cl C X.env) fp) tg g js)
    (ht : ∀ (s : Shared) (H : Hp) (C : Addr) (cl : List (Str × Addr)) (fp : List Addr), DTTs (X.blk s H scope (compEnvC scope cl C X.env) fp) ifs t)
    (he : ∀ (s : Shared) (H : Hp) (C : Addr) (cl : List (Str × Addr)) (fp : List Addr), DE (X.blk s H scope (compEnvC scope cl C X.env) fp) elt fe)
    (hfs : ∀ x : Value, foldedSetIterable iter X.env x = pure x := by intro _; rfl) : DS X (.Assign [.Name y py] (.ListComp elt [⟨tg, iter, ifs, 0⟩] scope pos) spos) (dAsg (dLcI fi g t fe (own.map (·.2))) (dgName i)) := by
  have g0 := (hg X.s_0 (fun _ => none) 0 [] []).mono
  have t0 := (ht X.s_0 (fun _ => none) 0 [] []).2
  have e0 := (he X.s_0 (fun _ => none) 0 [] []).mono
  have hd := d_lcI (pos := pos) hc hN hi ok hj hg ht he hfs
  exact (ds_setLc hc hN hy hl hsw hi ok hj hg ht he hfs).weak (fun E ρ M q => hi.mono _ _ _ _ (fun ds st M1 q1 => lcI_go (lcStep_mono g0 t0 e0) q1) q)
    fun D D' ρ M w q => hd.mono _ _ _ _ (fun d M1 q1 => w.nx _ _ q1) q
end
/-- a comprehension whose turns change nothing: element by element a function -/
theorem lc_map {st : Sto → Prop} {step : D → Sto → (Option D → Sto → Prop) → Prop} (f : D → D) {ds : List D} {M : Sto} {Q : List D → Sto → Prop} (hst : st M) (hl : ds.length ≤ 100000) (hs : ∀ d ∈ ds, ∀ k : Option D → Sto → Prop, k (some (f d)) M → step d M k) (q : Q (ds.map f) M) : lcI st step ds M Q := by
  refine ⟨fun done todo acc M' => M' = M ∧ acc = done.map f ∧ done ++ todo = ds, ⟨rfl, rfl, rfl⟩, ?_, ?_, ?_⟩
  · rintro done todo acc M' ⟨rfl, _⟩
    exact hst
  · rintro done d todo acc M' ⟨rfl, rfl, e⟩
    refine hs d (by rw [← e]; simp) _ ⟨?_, rfl, by rw [List.map_append]; rfl, by rw [← e]; simp⟩
    rw [← e, List.length_append, List.length_cons] at hl
    rw [List.length_map]
    omega
  · rintro done acc M' ⟨rfl, rfl, e⟩
    rw [List.append_nil] at e
    rw [e]
    exact q
theorem rng_mid {lo : Int} {n : Nat} {done todo : List D} {d : D} (e : done ++ d :: todo = rng lo n) : d = .int (lo + done.length) ∧ done.length < n := by
  have h : (rng lo n)[done.length]? = some d := by rw [← e, List.getElem?_append_right (Nat.le_refl _)]; simp
  rw [rng_get] at h
  split at h
  · next hl => exact ⟨(Option.some.inj h).symm, hl⟩
  · cases h
theorem rng_length (lo : Int) (n : Nat) : (rng lo n).length = n := by unfold rng; rw [List.length_map, List.length_range]
theorem cut_map {α β : Type} (f : α → β) (xs : List α) (lo hi : Option Int) : cut (xs.map f) lo hi = (cut xs lo hi).map f := by
  unfold cut
  rw [List.length_map, List.map_take, List.map_drop]
theorem cut_len {α : Type} (xs : List α) (lo hi : Option Int) : (cut xs lo hi).length ≤ xs.length := by
  unfold cut
  rw [List.length_take, List.length_drop]
  omega
/-- data without places: n bounds the signs of its text, h its depth -/
inductive Sh : Nat → Nat → D → Prop
  | non : Sh 4 0 .non
  | bl (b : Bool) : Sh 5 0 (.bl b)
  | int {i : Int} (h : i.natAbs < 10 ^ 12) : Sh 13 0 (.int i)
  | intB {i : Int} {n : Nat} (h : i.natAbs.log2 < 1920) (hn : (PyData.shown (.int i)).length ≤ n) : Sh n 0 (.int i)
  | str {x : Str} {n : Nat} (h : (reprText x).length ≤ n) : Sh n 0 (.str x)
  | tup {n h m : Nat} {ds : List D} (hd : ∀ d ∈ ds, Sh n h d) (hl : ds.length ≤ m) : Sh (m * (n + 2) + 3) (h + 1) (.tup ds)
  | lst {n h m : Nat} {ds : List D} (hd : ∀ d ∈ ds, Sh n h d) (hl : ds.length ≤ m) : Sh (m * (n + 2) + 3) (h + 1) (.lst ds)
  | up {n h n' h' : Nat} {d : D} (s : Sh n h d) (hn : n ≤ n') (hh : h ≤ h') : Sh n' h' d
structure ShOk (n h : Nat) (d : D) : Prop where
  pu : DL.pu d = true
  showable : (toPy d).showable = true
  depth : (toPy d).depth ≤ h
  len : (toPy d).shown.length ≤ n
theorem shAll {n h : Nat} : ∀ {ds : List D}, (∀ d ∈ ds, ShOk n h d) → DL.pus ds = true ∧ PyData.showableAll (toPys ds) = true ∧ PyData.depthAll (toPys ds) ≤ h ∧ ((PyData.shownAll (toPys ds)).map (·.length)).sum ≤ ds.length * n ∧ (PyData.shownAll (toPys ds)).length = ds.length
  | [], _ => ⟨rfl, rfl, Nat.zero_le _, Nat.zero_le _, rfl⟩
  | d :: ds, hd => by
    obtain ⟨a1, a2, a3, a4⟩ := hd d List.mem_cons_self
    obtain ⟨b1, b2, b3, b4, b5⟩ := shAll (ds := ds) fun x hx => hd x (List.mem_cons_of_mem _ hx)
    refine ⟨?_, ?_, ?_, ?_, ?_⟩
    · show (DL.pu d && DL.pus ds) = true
      rw [a1, b1]; rfl
    · show (PyData.showable (toPy d) && PyData.showableAll (toPys ds)) = true
      rw [a2, b2]; rfl
    · show max (PyData.depth (toPy d)) (PyData.depthAll (toPys ds)) ≤ h
      exact Nat.max_le.mpr ⟨a3, b3⟩
    · show (PyData.shown (toPy d)).length + ((PyData.shownAll (toPys ds)).map (·.length)).sum ≤ (ds.length + 1) * n
      rw [Nat.add_mul]
      omega
    · show (PyData.shownAll (toPys ds)).length + 1 = ds.length + 1
      rw [b5]
theorem Sh.ok' {n h : Nat} {d : D} (s : Sh n h d) : ShOk n h d := by
  induction s with
  | non => exact ⟨rfl, rfl, Nat.le_refl _, by decide +kernel⟩
  | bl b => exact ⟨rfl, rfl, Nat.zero_le _, by cases b <;> decide +kernel⟩
  | @int i h =>
    refine ⟨rfl, ?_, Nat.zero_le _, PyData.shown_int_le h⟩
    show decide _ = true
    refine decide_eq_true ?_
    by_cases h0 : i.natAbs = 0
    · rw [h0]; decide
    · exact Nat.lt_of_lt_of_le ((Nat.log2_lt h0).mpr (Nat.lt_of_lt_of_le h (by decide : 10 ^ 12 ≤ 2 ^ 40))) (by decide)
  | intB h hn => exact ⟨rfl, decide_eq_true h, Nat.zero_le _, hn⟩
  | str h => exact ⟨rfl, rfl, Nat.zero_le _, h⟩
  | @tup n h m ds hd hl ih =>
    obtain ⟨b1, b2, b3, b4, b5⟩ := shAll ih
    refine ⟨b1, b2, Nat.succ_le_succ b3, ?_⟩
    show (tupleText (PyData.shownAll (toPys ds))).length ≤ _
    refine Nat.le_trans (tupleText_len_le _) ?_
    rw [b5, Nat.mul_add]
    have := Nat.mul_le_mul_right n hl
    omega
  | @lst n h m ds hd hl ih =>
    obtain ⟨b1, b2, b3, b4, b5⟩ := shAll ih
    refine ⟨b1, b2, Nat.succ_le_succ b3, ?_⟩
    show (listText (PyData.shownAll (toPys ds))).length ≤ _
    refine Nat.le_trans (listText_len_le _) ?_
    rw [b5, Nat.mul_add]
    have := Nat.mul_le_mul_right n hl
    omega
  | up s hn hh ih => exact ⟨ih.pu, ih.showable, Nat.le_trans ih.depth hh, Nat.le_trans ih.len hn⟩
theorem Sh.vw {n h : Nat} {d : D} (s : Sh n h d) (M : Sto) : DL.vw d M = d := by
  have := s.ok'.pu
  cases d <;> first | rfl | (cases this)
theorem Sh.ok {n h : Nat} {d : D} (s : Sh n h d) (hn : n ≤ 16000000) (hh : h ≤ 60) (M : Sto) : showOk d M := by
  unfold showOk
  rw [s.vw M]
  exact ⟨s.ok'.pu, s.ok'.showable, Nat.le_trans s.ok'.depth hh, Nat.le_trans s.ok'.len (Nat.le_trans hn (by decide))⟩
theorem get_new (M : Sto) (c : Cell) : (M ++ [c])[M.length]? = some c := by rw [List.getElem?_append_right (Nat.le_refl _)]; simp
theorem get_new1 (M : Sto) (a b : Cell) : (M ++ [a] ++ [b])[M.length]? = some a := by rw [List.getElem?_append_left (by simp), get_new]
theorem set_new (M : Sto) (c d : Cell) : (M ++ [c]).set M.length d = M ++ [d] := by rw [List.set_append_right _ _ (Nat.le_refl _)]; simp
theorem set_new1 (M : Sto) (a b d : Cell) : (M ++ [a] ++ [b]).set M.length d = M ++ [d] ++ [b] := by rw [List.set_append_left _ _ (by simp), set_new]
theorem atI_back {α : Type} (xs : List α) (x : α) : atI (xs ++ [x]) (-1) = some x := atI_last xs x
theorem atI_back2 {α : Type} (xs : List α) (x y : α) : atI (xs ++ [x] ++ [y]) (-2) = some x := by
  unfold atI ixN
  rw [if_neg (by omega), if_pos (by simp; omega)]
  have e : (-2 + ((xs ++ [x] ++ [y]).length : Int)).toNat = xs.length := by simp; omega
  show (xs ++ [x] ++ [y])[(-2 + ((xs ++ [x] ++ [y]).length : Int)).toNat]? = some x
  rw [e, List.getElem?_append_left (by simp), List.getElem?_append_right (Nat.le_refl _)]
  simp
theorem len_snoc (M : Sto) (c : Cell) : (M ++ [c]).length = M.length + 1 := by simp
theorem get_newS (M : Sto) (a b : Cell) : (M ++ [a] ++ [b])[M.length + 1]? = some b := by rw [← len_snoc M a, get_new]
theorem set_newS (M : Sto) (a b d : Cell) : (M ++ [a] ++ [b]).set (M.length + 1) d = M ++ [a] ++ [d] := by rw [← len_snoc M a, set_new]
theorem bels_of {n : Nat} : ∀ {ds : List D}, (∀ d ∈ ds, bel n d = true) → bels n ds = true
  | [], _ => rfl
  | d :: ds, h => by
    show (bel n d && bels n ds) = true
    rw [h d List.mem_cons_self, bels_of fun x hx => h x (List.mem_cons_of_mem _ hx)]
    rfl
theorem rng_two : rng 0 2 = [.int 0, .int 1] := rfl
/-- a def that may never be called -/
theorem Cl.never {P : Program} {w : World} {K : PySem.W.Frag} {mg : Str → Option Value} {base : Heap} {x : Str} {st : Stmt} {ps : List Str} {ds : DSp} (F : Df K mg x st) (hb : ∀ {f : Addr} {fd : FuncData}, Fun K x x st f fd → Binds K fd ps []) (h : ∀ args M Q E, ¬ ds args M Q E) (k : Nat) : Cl P w K mg base x k ps ds := by
  obtain ⟨f, fd, F, hm⟩ := F.ex
  exact ⟨⟨f, fd, ⟨fun vs H Q E ⟨_, _, _, _, _, _, _, q⟩ => (h _ _ _ _ q).elim, fun A outer s H args us vs Q E _ _ _ _ _ ⟨_, _, _, _, _, _, _, q⟩ => (h _ _ _ _ q).elim⟩, hm, F.kp, hb F⟩, fun args M Q Q' E E' _ _ q => (h _ _ _ _ q).elim⟩
/-- all but the tables (ahead of the law) -/
def offT (H : Hp) : Hp := fun b => match H b with
  | some (.tbl _) => none
  | o => o
theorem offT_of {H : Hp} {b : Addr} {o : HO} (h : offT H b = some o) : H b = some o := by
  unfold offT at h
  split at h
  · cases h
  · exact h
theorem offT_eq {H : Hp} {b : Addr} {o : HO} (h : H b = some o) (n : ∀ ps, o ≠ .tbl ps) : offT H b = some o := by
  unfold offT
  rw [h]
  cases o <;> first | rfl | exact (n _ rfl).elim
theorem scr_start {K : PySem.W.Frag} {H : Hp} {a : Addr} {ns : List Int} {ds : DSp} {E : XK} (hT : ∀ p ∈ Tk K, H p.1 = some (.tbl #[])) (hS : SqL K H a (ns.map V.int)) (h : ∀ Q : DK, (∀ M, Q (.bl true) M) → ∀ E', ds [.scr ns] [] Q E') : spOf K ds [.ref a] H (fun v _ => v = .bl true) E := by
  have hS' : SqL K (offT H) a (ns.map V.int) := by
    rcases hS with (h | ⟨o, h⟩) | h
    · exact .inl (.inl (offT_eq h fun _ z => by cases z))
    · exact .inl (.inr ⟨o, offT_eq h fun _ z => by cases z⟩)
    · exact .inr h
  refine ⟨[.scr ns], [], [], offT H, fun _ => none, ⟨fun _ _ e => offT_of e, (fun _ _ e => by cases e), (fun _ _ e => by cases e), rfl, List.nodup_nil, (fun _ h => (List.not_mem_nil h).elim), (fun n c a e _ => by simp at e), fun p hp => ⟨⟨#[], hT p hp, trivial, fun pos cv hc => ?_⟩, ?_, rfl, List.not_mem_nil⟩⟩, .cons (.scr hS') .nil, h _ (fun M al' F' H' v _ _ r => by cases r; rfl) _⟩
  · have z : codeAmong pos [] = some cv := hc
    simp [codeAmong] at z
  · unfold offT
    rw [hT p hp]
end DL
namespace DL
open PySem PySem.Spec PyProof.Rows L2
def enumD (k : Int) (xs : List D) : List D := xs.mapIdx fun i x => D.tup [.int (k + (i : Int)), x]
section
variable {X : Cx} {a b : Expr} {fr : DTA} {pos : Pos}
@[reducible] def diEnum (fr : DTA) : DTI := fun ρ M R => fr ρ M fun ds M1 => match ds with
  | [.tup xs] => R (enumD 0 xs) stYes M1
  | [.lst xs] => R (enumD 0 xs) stYes M1
  | _ => False
@[reducible] def diEnum2 (fr : DTA) : DTI := fun ρ M R => fr ρ M fun ds M1 => match ds with
  | [.tup xs, .int k] => (-(2 ^ 62) ≤ k ∧ k < 2 ^ 62) ∧ R (enumD k xs) stYes M1
  | _ => False
end
end DL
set_option maxHeartbeats 1000000
namespace DL
open PySem PySem.Spec PyProof.Rows L2
open PySem.AutoSeq1 (wpAny_loadPart')
theorem tuple_once (l : Addr) (items : Array Value) (n : Nat) (dd : Option Addr) (sl : Array (Option Value)) (u : Tok) :
    Meets (Builtin.«tuple.__mul__» ⟨[.ref l, .int 1 u], []⟩) (fun _ R s => s.heap.get? l = some { cls := .type "tuple", dict := dd, data := .seq items n, slots := sl } ∧ R (.ok (.ret (Value.ref l))) s) :=
  .of_wp fun prog w A R s ⟨hl, h⟩ => by
    obtain ⟨hp, g, d, tk, os⟩ := s
    have f1 := AutoSeq1.idx_int
    have c1 : (items.isEmpty || (1 : Int) == 1) = true := by simp
    wp_walk using wpAny_loadPart' hl
    exact ⟨_, rfl, h⟩
def rOnce (K : PySem.W.Frag) : R2 := fun x y H Q => ∃ l xs, x = .ref l ∧ y = .int 1 ∧ SqT K H l xs ∧ Q (.ref l) H
section
variable {X : Cx} {a b c : Expr} {fa fb fc : DTE} {pos : Pos} {ta tb : DTT} {es : List Expr} {fr : DTA}
theorem op_once : OpR X (binaryOp .Mult) (rOnce X.K) := by
  intro pins s σ H x y v u Q I rx ry ⟨l, xs, ex, ey, hT, q⟩
  subst ex ey
  cases rx
  obtain ⟨t, rfl⟩ := ry
  obtain ⟨its, r, ⟨⟨cls, dd, data, sl⟩, ho, hc, n, hd⟩, hs⟩ := I.tuple hT
  simp only at hc hd
  subst hc hd
  refine wpAny_binaryOp_repeat_ref (T := "tuple") (U := "int") (by decide) ⟨_, ho, rfl⟩ (fun s' => typeIs_int s' 1 t) noFill_tuple_mul F.fills_int_mul F.slot_int_rmul repeat_tuple F.slot_int_index.lookup (call_meets F.slot_int_rmul (typeIs_int s 1 t) F.entry_int_rmul (F.args_int_rmul_2 _ _) (int_rmul_tuple 1 t l its.toArray n dd sl) ⟨ho, rfl, ⟨_, ho, rfl⟩, ?_⟩)
  exact call_meets F.slot_tuple_mul ⟨_, ho, rfl⟩ F.entry_tuple_mul (F.args_tuple_mul_2 _ _) (tuple_once l its.toArray n dd sl t) ⟨ho, ⟨.ref l, H, I, rfl, q⟩⟩
/-- * : a tuple once, too -/
@[reducible] def gMulA : G2 := fun x y M Q => match x, y with
  | .int i, .int j => CMul i j ∧ Q (.int (i * j)) M
  | .tup ds, .int k => ds ≠ [] ∧ 1 ≤ k ∧ k ≤ 1000 ∧ ds.length ≤ 1000 ∧ Q (.tup (List.replicate k.toNat ds).flatten) M
  | x, .int k => match seqOf x M with
    | some ds => 0 ≤ k ∧ k < 100000 ∧ ds.length * k.toNat ≤ 100000 ∧ Q (.lst (List.replicate k.toNat ds).flatten) M
    | none => False
  | _, _ => False
theorem gMulA_mono : Mono2 gMulA := fun x y M Q Q' w q => by
  unfold gMulA at q ⊢
  split at q
  · exact ⟨q.1, w _ _ q.2⟩
  · exact ⟨q.1, q.2.1, q.2.2.1, q.2.2.2.1, w _ _ q.2.2.2.2⟩
  · split at q
    · exact ⟨q.1, q.2.1, q.2.2.1, w _ _ q.2.2.2⟩
    · exact q.elim
  · exact q.elim
theorem o_mulA : O2 X (binaryOp .Mult) gMulA := O2.of (OpR.or op_once (OpR.or op_mul (OpR.or op_repT op_rep))) gMulA_mono fun al F G H M x y dx dy Q W r1 r2 q => by
  unfold gMulA at q
  split at q
  · cases r1; cases r2
    exact .inr (.inl ⟨_, _, rfl, rfl, q.1, kont.here q.2 W (.int _)⟩)
  · cases r2
    cases r1 with
    | tup a1 b1 =>
      have l1 := b1.length
      rename_i ds1 k xs1 p1
      by_cases hk : k = 1
      · subst hk
        refine .inl ⟨_, _, rfl, rfl, SqT.of (W.sm _ _ a1), kont.here q.2.2.2.2 W ?_⟩
        have e : (List.replicate (1 : Int).toNat ds1).flatten = ds1 := by simp
        rw [e]
        exact .tup a1 b1
      · refine .inr (.inr (.inl ⟨_, _, _, rfl, rfl, SqT.of (W.sm _ _ a1), fun z => ?_, by omega, q.2.2.1, by have := q.2.2.2.1; omega, fun p hp => kont.tup q.2.2.2.2 W (b1.rep _) hp⟩))
        subst z
        cases b1
        exact q.1 rfl
  · cases r2
    split at q
    · next e =>
      obtain ⟨p1, xs1, rfl, h1, s1⟩ := seqOf_ok W r1 e
      have l1 := s1.length
      exact .inr (.inr (.inr ⟨_, _, _, rfl, rfl, h1, by have := q.1; omega, by have := q.2.1; omega, le_line (by rw [l1]; exact q.2.2.1), fun p hp => kont.lst q.2.2.2 W (s1.rep _) hp⟩))
    · exact q.elim
  · exact q.elim
/-- o.extend(e) of a list of the store, by a list that nobody changes -/
@[reducible] def dExt (fo : DTE) (fr : DTA) : DTE := fun ρ M Q => fo ρ M fun o M1 => match o with
  | .ref n => isCell M1 n ∧ fr ρ M1 fun ys M2 => match M2[n]?, ys with
    | some (.lst ds), [.lst zs] => ds.length + zs.length ≤ 100000 ∧ Q .non (M2.set n (.lst (ds ++ zs)))
    | _, _ => False
  | _ => False
theorem d_extend {o e : Expr} {fo : DTE} {apos cpos : Pos} (ho : DE X o fo) (hr : DA X [e] fr) (hb : attributeBase o "extend" X.env (eval o X.env) = eval o X.env := by rfl)
    (h2 : ((backTo cpos (starEach [e] X.env)).all (fun x => !x.1) && (backToKw cpos (keywordEach [] X.env)).all (fun x => x.1.isSome) && decide ([e].length + ([] : List Keyword).length + (if ([] : List Keyword).isEmpty = true then 0 else 1) < 30)) = true := by rfl)
    (h3 : (apos.endLine == cpos.line) = true := by rfl) (h4 : starEach [e] X.env = (false, eval e X.env) :: starEach [] X.env := by rfl) (h5 : (backTo cpos (starEach [] X.env)).any (·.1) = false := by rfl) :
    DE X (.Call (.Attribute o "extend" apos) [e] [] cpos) (dExt fo fr) := by
  refine ⟨PE.of (pe_bm PySem.F.plainAttrs_list PySem.F.slot_list_extend PySem.F.type_list_extend mt_extend ho.pe hr.pa hb h2 h3 h4 h5) fun σ H Q ⟨ρ, M, al, F, G, W, s, q⟩ => ?_, fun ρ M Q Q' w q => ho.mono _ _ _ _ (fun d M1 q1 => ?_) q⟩
  · refine ho.seq W s q fun d M1 al1 F1 H1 v q1 e1 W1 r1 s1 => ?_
    cases d <;> first | exact q1.elim | skip
    obtain ⟨ds, e⟩ := q1.1.ex
    obtain ⟨p, xs, rfl, hp, hx, rs⟩ := cell_ok W1 r1 e
    refine ⟨.inl ⟨rfl, xs, SqL.of hx⟩, hr.seq W1 s1 q1.2 fun ys M2 al2 F2 H2 us q2 e2 W2 r2 s2 => ?_⟩
    try dsimp only at q2
    split at q2
    · next ds2 zs c2 =>
      obtain ⟨p2, xs2, z, hp2, hx2, rs2⟩ := cell_ok W2 (r1.ext e2) c2
      cases z
      cases r2 with
      | cons a1 b1 =>
        cases b1
        cases a1 with
        | lst c1 d1 =>
          have l1 := rs2.length
          have l2 := d1.length
          exact ⟨_, _, _, _, rfl, rfl, hx2, W2.sm _ _ c1, le_line (by rw [l1, l2]; exact q2.1), q2.2 al2 F2 _ _ (e1.trans e2) (W2.write hp2 ⟨_, upd_same, rs2.append d1⟩) .non⟩
    · exact q2.elim
  · cases d <;> first | exact q1.elim | skip
    refine ⟨q1.1, hr.mono _ _ _ _ (fun ys M2 q2 => ?_) q1.2⟩
    try dsimp only at q2 ⊢
    split at q2
    · exact ⟨q2.1, w _ _ q2.2⟩
    · exact q2.elim
end
end DL
set_option maxHeartbeats 1000000
namespace DL
open PySem PySem.Spec PyProof.Rows L2
section
variable {X : Cx} {a b c : Expr} {fa fb fc : DTE} {pos : Pos} {ta tb : DTT} {es : List Expr} {fr : DTA}
theorem ints_at {us : List Value} {ns : List Int} (h : IntsAre us ns) : ∀ (i : Nat) (v : Value), us.toArray[i]? = some v → ∃ t, v = Value.int (ns.getD i 0) t := by
  induction h with
  | nil => intro i v e; simp at e
  | cons n t h ih =>
    intro i v e
    cases i with
    | zero => exact ⟨t, by simpa using e.symm⟩
    | succ i => exact ih i v (by simpa using e)
theorem getD_at {ns : List Int} {j : Nat} {y : Int} (hj : j < ns.length) (e : ns[j] = y) : ns.getD j 0 = y := by rw [List.getD_eq_getElem?_getD, List.getElem?_eq_getElem hj, e]; rfl
def rMaxT (K : PySem.W.Frag) : List V → Hp → VK → Prop := fun vs H Q => ∃ (a : Addr) (ns : List Int), vs = [V.ref a] ∧ SqT K H a (ns.map V.int) ∧ 0 < ns.length ∧ ∀ m, m ∈ ns → (∀ y, y ∈ ns → y ≤ m) → Q (.int m) H
theorem cr_maxT (hc : X.calm = true) : CallR X (.builtin "max") (rMaxT X.K) := by
  intro pins s σ H vs us Q I r ⟨a, ns, ev, hs, hne, q⟩
  subst ev
  obtain ⟨its, rv, hl, _⟩ := I.tuple hs
  rw [Vals.ref1 r]
  have hl : s.heap.IsTuple a its.toArray := hl
  have hsz : its.toArray.size = ns.length := by
    have := rv.length
    rw [List.length_map] at this
    rw [List.size_toArray, this]
  have ha : a < s.heap.objs.size := by
    obtain ⟨o, ho, _⟩ := hl
    exact Heap.lt_size ho
  refine call_max_walk (wpAny_pyIter_tuple hl ⟨s.heap.objs.size, _, _, _, _, _, _, rfl, Walks.tuple (show X.A.in1.handled = none from I.ok.hd hc) s.heap.objs.size a (Nat.ne_of_lt ha) its.toArray, ⟨⟨_, Heap.get?_push_size _ rfl, rfl, rfl⟩, hl.at fun o e => Heap.get?_push_of_some _ e⟩, fun b hb => ?_, by omega, CmpOf.ints_gt (fun i => ns.getD i 0) (ints_at rv.ints), fun v h' tk hv' hk => ?_⟩)
  · show b < (s.heap.push _).objs.size
    rw [size_push']
    have : b = s.heap.objs.size ∨ b = a := by simpa using hb
    rcases this with z | z
    · rw [z]; exact Nat.lt_succ_self _
    · rw [z]; exact Nat.lt_succ_of_lt ha
  · obtain ⟨t, rfl⟩ := ints_at rv.ints _ _ hv'
    obtain ⟨m1, m2⟩ := argBest_gt (fun i => ns.getD i 0) (its.toArray.size - 1)
    refine ⟨.int _, H, I.kept (t' := tk) (fun b o e => hk b o (fun z => ?_) (Heap.get?_push_of_some _ e)), ⟨t, rfl⟩, q _ (PySem.getD_mem (by omega)) fun y hy => ?_⟩
    · rw [List.mem_singleton.mp z] at e
      exact absurd (Heap.lt_size e) (Nat.lt_irrefl _)
    · obtain ⟨j, hj, e⟩ := List.mem_iff_getElem.mp hy
      have z := m2 j (by omega)
      rw [getD_at hj e] at z
      exact z
@[reducible] def gIntsA (f : List Int → Sto → DK → Prop) : G1 := fun d M Q => match itemsOf d M with
  | some ds => match intsOf ds with
    | some ns => f ns M Q
    | none => False
  | none => False
theorem gIntsA_mono {f : List Int → Sto → DK → Prop} (h : ∀ ns M (Q Q' : DK), (∀ d M, Q d M → Q' d M) → f ns M Q → f ns M Q') : Mono1 (gIntsA f) := fun d M Q Q' w q => by
  unfold gIntsA at q ⊢
  split at q
  · split at q
    · exact h _ _ _ _ w q
    · exact q.elim
  · exact q.elim
theorem gIntsA_ok {f : List Int → Sto → DK → Prop} {K : PySem.W.Frag} {al : List Addr} {F G H : Hp} {M : Sto} {v : V} {d : D} {Q : DK} (W : Wd K al F G H M) (r : Rp K F al v d) (h : gIntsA f d M Q) : ∃ a ns, v = .ref a ∧ (SqT K H a (ns.map V.int) ∨ SqL K H a (ns.map V.int)) ∧ f ns M Q := by
  unfold gIntsA at h
  split at h
  · next ds e2 =>
    split at h
    · next ns e =>
      have e3 := intsOf_eq e
      subst e3
      obtain ⟨p1, xs1, rfl, h1, s1⟩ := itemsOf_ok W r e2
      rw [s1.ints] at h1
      rcases h1 with h1 | h1
      · exact ⟨_, ns, rfl, .inl (SqT.of h1), h⟩
      · exact ⟨_, ns, rfl, .inr (SqL.of h1), h⟩
    · exact h.elim
  · exact h.elim
theorem o_maxA (hc : X.calm = true) : ON X (.builtin "max") (g1 (gIntsA fMax)) := ON.of1 (CallR.or (cr_maxT hc) (cr_max hc)) (gIntsA_mono fun _ _ _ _ w q => ⟨q.1, w _ _ q.2⟩) fun al F G H M x d Q W r q => by
  obtain ⟨p, ns, rfl, h, n0, k⟩ := gIntsA_ok W r q
  have fin : ∀ m, m ∈ ns → (∀ y, y ∈ ns → y ≤ m) → _ := fun m hm hl => by rw [maxI_uniq hm hl] at k; exact kont.here k W (.int _)
  rcases h with h | h
  · exact .inl ⟨p, ns, rfl, h, len_pos n0, fin⟩
  · exact .inr ⟨p, ns, rfl, h, len_pos n0, fin⟩
end
theorem map_mid {α β : Type} {f : α → β} {L : List α} {done todo : List β} {d : β} (e : done ++ d :: todo = L.map f) : ∃ x, L[done.length]? = some x ∧ d = f x ∧ done.length < L.length := by
  have h : (L.map f)[done.length]? = some d := by rw [← e, List.getElem?_append_right (Nat.le_refl _)]; simp
  rw [List.getElem?_map] at h
  cases q : L[done.length]? with
  | none => rw [q] at h; cases h
  | some x =>
    rw [q] at h
    exact ⟨x, rfl, (Option.some.inj h).symm, (List.getElem?_eq_some_iff.mp q).1⟩
theorem take_more {α : Type} {L : List α} {n : Nat} {x : α} (h : L[n]? = some x) : L.take (n + 1) = L.take n ++ [x] := by
  rw [List.take_succ, h]
  rfl
theorem map_done {α β : Type} {f : α → β} {L : List α} {done : List β} (e : done ++ [] = L.map f) : L.take done.length = L := by
  rw [List.append_nil] at e
  rw [e, List.length_map, List.take_length]
theorem idx_at {α : Type} {L : List α} {n : Nat} {q : α × Nat} (h : L.zipIdx[n]? = some q) : q.2 = n ∧ L[n]? = some q.1 := by
  rw [List.getElem?_zipIdx] at h
  cases e : L[n]? with
  | none => rw [e] at h; cases h
  | some x => rw [e] at h; cases h; exact ⟨by simp, rfl⟩
theorem idx_mem {α : Type} {L : List α} {q : α × Nat} (h : q ∈ L.zipIdx) : L[q.2]? = some q.1 := by
  obtain ⟨n, hn, e⟩ := List.getElem_of_mem h
  have := idx_at (L := L) (n := n) (q := q) (by rw [List.getElem?_eq_getElem hn, e])
  rw [this.1]; exact this.2
end DL
set_option maxHeartbeats 1000000
namespace DL
open PySem PySem.Spec PyProof.Rows L2
section
variable {prog : Program} {w : World} {A : Around} {E : Value → Shared → Prop}
theorem draw_lst {it l : Addr} {items : Array Value} (hne : l ≠ it) : ∀ (n i : Nat) (s : Shared) (Q : List Value → Shared → Prop), s.heap.IsListIter it l i → s.heap.IsList l items → i + n ≤ items.size →
    (∀ h', h'.IsListIter it l (i + n) → h'.IsList l items → Heap.SameBut it s.heap h' → Q ((items.toList.drop i).take n) { s with heap := h' }) → wpAny (model prog w) A (draw (.ref it) n) Q E s
  | 0, i, s, Q, hit, hl, _, hQ => by
    show wpAny _ _ (pure []) Q E s
    have := hQ s.heap hit hl (Heap.SameBut.refl ..)
    rw [List.take_zero] at this
    exact wpAny_pure this
  | n + 1, i, s, Q, hit, hl, hle, hQ => by
    have hi : i < items.size := by omega
    show wpAny _ _ (pyNext (.ref it) >>= _) Q E s
    refine wpAny_bind (wpAny_pyNext_list_item hit hl (x := items[i]) (by simp [hi]) fun h1 hit1 hs1 => wpAny_bind (wpAny_holding (draw_lst hne n (i + 1) _ _ hit1 (hl.extBut hs1.extBut hne) (by omega) fun h2 hit2 hl2 hs2 => wpAny_pure ?_)))
    have q := hQ h2 (by rw [show i + (n + 1) = i + 1 + n by omega]; exact hit2) hl2 (hs1.trans hs2)
    rw [show items.toList.drop i = items[i] :: items.toList.drop (i + 1) by simp [List.drop_eq_getElem_cons, hi], List.take_succ_cons] at q
    exact q
theorem unpack_lst {s : Shared} {l : Addr} {items : Array Value} {targets : List (Bool × (Value → Sem Unit))} {Q : Unit → Shared → Prop} (hh : A.handled = none) (hl : s.heap.IsList l items) (hn : targets.length = items.size) (hstar : targets.findIdx? (·.1) = none)
    (h : ∀ h', Heap.ExtBut s.heap.objs.size s.heap h' → wpAny (model prog w) A (assignInOrder (targets.map (·.2)) items.toList) Q E { s with heap := h' }) : wpAny (model prog w) A (unpack (.ref l) targets) Q E s := by
  have hlt : l ≠ s.heap.objs.size := by
    obtain ⟨o, ho, _⟩ := hl
    exact Nat.ne_of_lt (Heap.lt_size ho)
  unfold unpack
  rw [hn, hstar]
  refine wpAny_bind (wpAny_holding ?_)
  unfold unpackItems notIterableAtAll
  refine wpAny_bind (wpAny_bind (wpAny_specialOf hl.typeIs F.slot_list_iter.lookup (wpAny_pure ?_)))
  simp only [Bool.false_eq_true, if_false]
  have hl1 : ∀ o, (s.heap.push o).IsList l items := fun o => hl.at fun _ e => Heap.get?_push_of_some _ e
  refine wpAny_bind (wpAny_holding (wpAny_pyIter_list hl (wpAny_bind (wpAny_holding (draw_lst hlt items.size 0 _ _ ⟨_, Heap.get?_push_size _ rfl, rfl, rfl⟩ (hl1 _) (by omega) fun h1 hit1 hl2 hs1 => ?_)))))
  rw [show List.take items.size (List.drop 0 items.toList) = items.toList by rw [List.drop_zero]; exact List.take_of_length_le (by simp), if_neg (by simp)]
  refine wpAny_bind (wpAny_holding (wpAny_pyNext_list_end hh hit1 hl2 (by simp) fun h2 he2 => ?_))
  simp only [Option.isSome_none, Bool.false_eq_true, if_false]
  exact wpAny_pure (h h2 fun b o hb e => he2 b o hb (hs1.extBut b o hb (Heap.get?_push_of_some _ e)))
end
section
variable {X : Cx} {a b c : Expr} {fa fb fc : DTE} {pos : Pos} {es : List Expr} {fr : DTA}
def gTupL (K : PySem.W.Frag) (n : Nat) (t : TGs) : TG := fun v σ H Q => ∃ a xs, v = .ref a ∧ (SqT K H a xs ∨ SqL K H a xs) ∧ xs.length = n ∧ t xs σ H Q
theorem pg_tupL {k : Nat} {t : TGs} {n : Nat} (hc : X.calm = true) (h : PGs X es t) (hn : (assignEach es X.env).length = n := by rfl) (hst : (assignEach es X.env).findIdx? (·.1) = none := by rfl) : PG X (.Tuple es k pos) (gTupL X.K n t) := by
  refine ⟨fun pins s σ H v u Q I r ⟨a, xs, e1, hq, hl, hw⟩ => ?_⟩
  subst e1
  cases r
  rcases hq with hq | hq
  · obtain ⟨its, rv, ht, hz⟩ := I.tuple hq
    refine assign_Tuple_tuple (I.ok.hd hc) ht (by simp [hn, ← hl, rv.length]) hst fun h' hx => ?_
    exact h.run pins _ σ H xs _ Q (I.kept (t' := s.toks) fun b o e => hx b o (Nat.ne_of_lt (Heap.lt_size e)) e) (by simpa using rv) hw
  · obtain ⟨its, rv, ht, hz⟩ := I.list hq
    rw [assign_Tuple]
    refine wpAny_bind (wpAny_standAt (unpack_lst (I.ok.hd hc) ht.isList (by simp [hn, ← hl, rv.length]) hst fun h' hx => ?_))
    exact h.run pins _ σ H xs _ Q (I.kept (t' := s.toks) fun b o e => hx b o (Nat.ne_of_lt (Heap.lt_size e)) e) (by simpa using rv) hw
/-- a tuple or a list, unpacked -/
@[reducible] def dgTupL (n : Nat) (g : DTGs) : DTG := fun d ρ M Q => match itemsOf d M with
  | some ds => ds.length = n ∧ g ds ρ M Q
  | none => False
theorem dg_tupL {k n : Nat} {g : DTGs} {js : List Nat} (hc : X.calm = true) (h : DGs X es g js) (hn : (assignEach es X.env).length = n := by rfl) (hst : (assignEach es X.env).findIdx? (·.1) = none := by rfl) : DG X (.Tuple es k pos) (dgTupL n g) js := by
  refine ⟨PG.of (pg_tupL hc h.pg hn hst) fun v σ H Q ⟨d, ρ, M, al, F, G, W, es, r, q⟩ => ?_, fun d ρ M Q Q' w q => ?_⟩
  · unfold dgTupL at q
    split at q
    · next ds e =>
      obtain ⟨p, xs, rfl, h1, rs⟩ := itemsOf_ok W r e
      rcases h1 with h1 | h1
      · exact ⟨_, _, rfl, .inl (SqT.of h1), rs.length.trans q.1, _, ρ, M, al, F, G, W, es, rs, q.2⟩
      · exact ⟨_, _, rfl, .inr (SqL.of h1), rs.length.trans q.1, _, ρ, M, al, F, G, W, es, rs, q.2⟩
    · exact q.elim
  · unfold dgTupL at q ⊢
    split at q
    · exact ⟨q.1, h.mono _ _ _ _ _ w q.2⟩
    · exact q.elim
end
end DL
namespace DL
open PySem PySem.Spec PyProof.Rows L2
inductive Pl : Nat → D → Prop
  | non : Pl 0 .non
  | bl (b : Bool) : Pl 0 (.bl b)
  | int (i : Int) : Pl 0 (.int i)
  | tup {h : Nat} {ds : List D} (hd : ∀ d ∈ ds, Pl h d) : Pl (h + 1) (.tup ds)
  | lst {h : Nat} {ds : List D} (hd : ∀ d ∈ ds, Pl h d) : Pl (h + 1) (.lst ds)
def PlOk (h : Nat) (d : D) : Prop := pu d = true ∧ (toPy d).canLay0 = true ∧ (toPy d).depth ≤ h
theorem plAll {h : Nat} : ∀ {ds : List D}, (∀ d ∈ ds, PlOk h d) → DL.pus ds = true ∧ PyData.canLayAll0 (toPys ds) = true ∧ PyData.depthAll (toPys ds) ≤ h
  | [], _ => ⟨rfl, rfl, Nat.zero_le _⟩
  | d :: ds, hd => by
    obtain ⟨a1, a2, a3⟩ := hd d (by simp)
    obtain ⟨b1, b2, b3⟩ := plAll fun x hx => hd x (List.mem_cons_of_mem _ hx)
    refine ⟨?_, ?_, ?_⟩
    · show (pu d && DL.pus ds) = true
      rw [a1, b1]; rfl
    · show ((toPy d).canLay0 && PyData.canLayAll0 (toPys ds)) = true
      rw [a2, b2]; rfl
    · show max (toPy d).depth (PyData.depthAll (toPys ds)) ≤ h
      exact Nat.max_le.mpr ⟨a3, b3⟩
theorem Pl.ok' {h : Nat} {d : D} (s : Pl h d) : PlOk h d := by
  induction s with
  | non => exact ⟨rfl, rfl, Nat.zero_le _⟩
  | bl b => exact ⟨rfl, rfl, Nat.zero_le _⟩
  | int i => exact ⟨rfl, rfl, Nat.zero_le _⟩
  | tup hd ih =>
    obtain ⟨b1, b2, b3⟩ := plAll ih
    exact ⟨b1, b2, Nat.succ_le_succ b3⟩
  | lst hd ih =>
    obtain ⟨b1, b2, b3⟩ := plAll ih
    exact ⟨b1, b2, Nat.succ_le_succ b3⟩
theorem Pl.vw {h : Nat} {d : D} (s : Pl h d) (M : Sto) : DL.vw d M = d := by
  have := s.ok'.1
  cases d <;> first | rfl | (cases this)
theorem PlOk.eq {h : Nat} {d : D} (s : PlOk h d) (hh : h ≤ 60) : pu d = true ∧ SeqAt.shaped (toPy d) = true := ⟨s.1, by
  unfold SeqAt.shaped
  rw [s.2.1, Bool.true_and]
  exact decide_eq_true (Nat.le_trans s.2.2 (by omega))⟩
end DL
namespace DL
open PySem PySem.Spec PyProof.Rows L2
section
variable {X : Cx} {a b c : Expr} {fa fb fc : DTE} {pos : Pos}
@[reducible] def gMulM : G2 := fun x y M Q => match y with
  | .int k => match seqOf x M with
    | some ds => 0 ≤ k ∧ k < 100000 ∧ ds.length * k.toNat ≤ 100000 ∧ Q (.ref M.length) (M ++ [.lst (List.replicate k.toNat ds).flatten])
    | none => False
  | _ => False
theorem gMulM_mono : Mono2 gMulM := fun x y M Q Q' w q => by
  unfold gMulM at q ⊢
  split at q
  · split at q
    · exact ⟨q.1, q.2.1, q.2.2.1, w _ _ q.2.2.2⟩
    · exact q.elim
  · exact q.elim
theorem o_mulM : O2 X (binaryOp .Mult) gMulM := O2.of op_rep gMulM_mono fun al F G H M x y dx dy Q W r1 r2 q => by
  unfold gMulM at q
  split at q
  · cases r2
    split at q
    · next e =>
      obtain ⟨p1, xs1, rfl, h1, s1⟩ := seqOf_ok W r1 e
      have l1 := s1.length
      exact ⟨_, _, _, rfl, rfl, h1, by have := q.1; omega, by have := q.2.1; omega, le_line (by rw [l1]; exact q.2.2.1), fun p hp => kont.new q.2.2.2 W (s1.rep _) hp⟩
    · exact q.elim
  · exact q.elim
@[reducible] def gAddM : G2 := fun x y M Q => match seqOf x M, seqOf y M with
    | some i, some j => i.length + j.length ≤ 100000 ∧ Q (.ref M.length) (M ++ [.lst (i ++ j)])
    | _, _ => False
end
end DL
set_option maxHeartbeats 2000000
namespace PySem
namespace HandSPX
open Builtin Builtin.ObjectAttr
section
variable {prog : Program} {w : World} {A : Around} {E : Value → Shared → Prop} {R : Result → Shared → Prop} {hp : Heap} {g : Array GenState} {d : Drawn} {t : Nat} {os : OsState}
theorem exc_osaB {B : String} {bmB : List Value} {K : W.Frag} {name : Str} {tk : Tok} {v : Value} {x C : Addr} {fv : Array Value} {cd : ClassData} (SB : StoreFacts B bmB "object.__setattr__" "object")
    (X : K.In hp) (hx : hp.get? x = some { cls := .ref C, data := .fields fv }) (hcd : W.clsIn K C = some cd) (hm : W.excTail bmB cd.mro = true) (hh : cd.hasDict = true) (ha : W.findIn K (.ref C) name = some none)
    (hq : ∀ h' tk' dx, (∀ b o, b ≠ x → hp.get? b = some o → h'.get? b = some o) → hp.objs.size ≤ dx → dx ≠ x → h'.get? x = some { cls := .ref C, dict := some dx, data := .fields fv } →
      h'.Ns1 dx (fun y => if y = name then some v else none) → R (.ok (.ret .none)) ⟨h', g, d, tk', os⟩) :
    codeAny (model prog w) A (.call (.builtin "object.__setattr__") ⟨[.ref x, .str name tk, v], []⟩) R ⟨hp, g, d, t, os⟩ := by
  have I : W.InstAt hp x { cls := .ref C, data := .fields fv } C none := ⟨hx, rfl, rfl, trivial⟩
  have SF := F.store_object
  have hob : cd.mro.contains (.type "object") = true := (W.excTail_contains "object" _ hm).trans SB.hasOwner
  have ne : cd.mro.isEmpty = false := by
    cases e : cd.mro with
    | nil => rw [e] at hob; cases hob
    | cons _ _ => rfl
  have hxs : x ≠ hp.objs.size := Nat.ne_of_lt (Heap.lt_size hx)
  have sub : W.Looks (model prog w) hp (isInstance (.ref x) (.type "object")) true := I.type.andThen (W.looks_mroIn X (by unfold W.mroIn; rw [hcd, Option.bind_some, if_neg (by rw [ne]; decide), hob]))
  refine codeAny_call_builtin SF.slot.plain SF.entry (@W.check_slot (model prog w) _ _ ⟨hp, g, d, t, os⟩ "object.__setattr__" "object" "__setattr__" (.ref x) [.str name tk, v] [] _ SF.kind SF.split sub (SF.args (.ref x) (.str name tk) v) ?_)
  have hmr : W.Looks (model prog w) hp (mroOf (.ref C)) cd.mro := (W.looks_clsIn X hcd).andThen .now
  have L3 : W.Looks (model prog w) hp (storeTaker? none) none := .now
  have hcls : W.Looks (model prog w) hp (classData C) cd := W.looks_clsIn X hcd
  rw [W.osa_eq, refuse_eq]
  refine wpAny_bind (wpAny_bind (I.type.at (wpAny_bind (hmr.at ?_))))
  rw [W.excTail_pass _ (SB.passes _) _ hm]
  refine wpAny_pure (wpAny_bind (I.type.at (wpAny_bind ((W.looks_findIn X ha).at (wpAny_bind (L3.at ?_))))))
  show wpAny _ _ (storeInOwnDict (.ref x) (.ref C) (.str name tk) name v false) _ _ _
  obtain ⟨nm, bs, mro, ns, qn, hd, sn, sb, ab, col, del⟩ := cd
  dsimp only at hh
  subst hh
  unfold storeInOwnDict ownDictForStores
  repeat (first | with_reducible refine store_in_new ?_ ?_ | with_reducible refine wpAny_loadPart_at hx ?_ | with_reducible refine hcls.at ?_ | wp_step)
  · exact ⟨_, #[], _, (Heap.get?_update_ne _ _ _ _ hxs.symm).trans (Heap.get?_push_at rfl rfl), rfl, fun e he => absurd he (by simp), fun _ => rfl⟩
  · intro h' tk' hn' hs
    have hx₁ : (hp.push { cls := .type "dict", data := .dict #[] }).get? x = some { cls := .ref C, data := .fields fv } := Heap.get?_push_of_some _ hx
    refine hq h' tk' hp.objs.size (fun b o hb ho => ?_) (Nat.le_refl _) hxs.symm ?_ hn'
    · exact (hs.2 b (Nat.ne_of_lt (Heap.lt_size ho))).trans ((Heap.get?_update_ne _ _ _ _ hb).trans (Heap.get?_push_of_some _ ho))
    · exact (hs.2 x hxs).trans (Heap.get?_update_self _ hx₁ rfl)
end
end HandSPX
end PySem
namespace DL
open PySem PySem.Spec PyProof.Rows L2
/-- what the written part says of the class -/
structure OexB (K : PySem.W.Frag) (C : Addr) : Prop where
  cls : ∃ (B newId initId : String) (bmB : List Value), ExcBaseFacts B newId initId bmB ∧ StoreFacts B bmB "object.__setattr__" "object" ∧ ∃ nm q N bs bm sn sub ab col dd k0 k1 k2 k3 k5, K.lookup C = some (excClassObj nm q C N bs bm true sn sub ab col dd k0 k1 k2 k3 k5 newId) ∧ PySem.W.excTail bmB bm = true
  sa : PySem.W.findIn K (.ref C) "__setattr__" = some (some (.builtin "object.__setattr__"))
  exC : PySem.W.subIn K (.ref C) (.type "BaseException") = some true
  tyC : PySem.W.typeIn K (.ref C) = some (.type "type")
  kC : PySem.W.keepIn K (.ref C) = true
section
variable {X : Cx} {pins : List (Addr × Obj)} {σ : L2.St} {H : Hp} {s : Shared} {a C dx : Addr} {f : Str} {y : V} {u : Value} {fs : List (Str × V)} {Q : Unit → Shared → Prop} {E : Value → Shared → Prop} {A : Around}
/-- self.f = y, the first one -/
theorem ost_newB (T : OexB X.K C) (I : Inv X pins σ H s) (e : H a = some (exo a C none)) (hno : PySem.W.findIn X.K (.ref C) f = some none) (ry : RelV y u)
    (h : ∀ dx s', H dx = none → dx ≠ a → Inv X pins σ (upd (upd H dx (exd dx [(f, y)])) a (exo a C (some dx))) s' → Q () s') : wpAny (model X.prog X.w) A (setAttr (.ref a) f u) Q E s := by
  obtain ⟨B, newId, initId, bmB, FB, SB, nm, q, N, bs, bm, sn, sub, ab, col, dd, k0, k1, k2, k3, k5, hC, hbm⟩ := T.cls
  have hcl : PySem.W.clsIn X.K C = some { name := nm, bases := bs, mro := .ref C :: bm, ns := N, qualname := q, hasDict := true, slotNames := sn, subclasses := sub, abstract := ab, collection := col, hasDel := false } := by unfold PySem.W.clsIn; rw [hC] <;> rfl
  obtain ⟨t1, ho⟩ := exo_at I.hok e
  obtain ⟨hp, g, d, t, os⟩ := s
  refine PySem.W.set_plain I.kIn (ox := { cls := .ref C, dict := none, data := .fields #[.ref t1, .none, .none, .none, .bool false, .none] }) (od := none) ⟨ho, rfl, rfl, trivial⟩ T.sa ?_
  refine PySem.HandSPX.exc_osaB SB I.kIn ho hcl (show PySem.W.excTail bmB (.ref C :: bm) = true from hbm) rfl hno (fun h' tk' dx k dn dne hx hn => ?_)
  have hnd : H dx = none := I.hok.fresh dn
  have nd : ∀ {b : Addr} {o : Obj}, hp.get? b = some o → b ≠ dx := fun {b o} q => Nat.ne_of_lt (Nat.lt_of_lt_of_le (Heap.lt_size q) dn)
  have na : ∀ {b : Addr}, H b = none → b ≠ a := fun {b} n z => by
    rw [z, e] at n
    cases n
  have Un1 : Un X.fs [] H (upd (upd H dx (exd dx [(f, y)])) a (exo a C (some dx))) hp h' := {
    keep := fun b o q n _ _ => k b o (na n) q
    slot := fun b o q n _ _ => ⟨o.slots, k b o (na n) q⟩
    free := fun b o q n _ => by rw [upd_ne (na n), upd_ne (nd q)]; exact n
    there := fun b o q _ => by
      by_cases hb : b = a
      · exact ⟨_, by rw [hb]; exact hx⟩
      · exact ⟨o, k b o hb q⟩
    tups := fun b xs q => by rw [upd_ne (at_ne e q exo_tup), upd_ne (ne_of_none q hnd)]; exact q
    frzs := fun b o v q => by rw [upd_ne (at_ne e q exo_frz), upd_ne (ne_of_none q hnd)]; exact q
    tbls := fun b ps q => ⟨#[], by rw [upd_ne (at_ne e q exo_tbl), upd_ne (ne_of_none q hnd), q]; simp⟩ }
  refine h dx _ hnd dne (I.un (t' := tk') Un1 fun b o q => ?_)
  by_cases hb : b = a
  · subst hb
    rw [upd_same] at q
    cases q
    exact exo_ok hx
  · rw [upd_ne hb] at q
    by_cases hd : b = dx
    · subst hd
      rw [upd_same] at q
      cases q
      exact exd_ok hn (relO_put (fs := []) ry fun g => True.intro)
    · rw [upd_ne hd] at q
      exact (I.hok b o q).stay (fun c v hc z => k c v (by
          rcases hc with hc | hc
          · rw [hc]
            exact hb
          · exact at_ne e hc exo_own) z)
        (fun c hc => by rw [upd_ne (at_ne e hc exo_own), upd_ne (ne_of_none hc hnd)]; exact hc) (fun c xs hc => by rw [upd_ne (at_ne e hc exo_tup), upd_ne (ne_of_none hc hnd)]; exact hc)
/-- self.f = e -/
def tOstB (K : PySem.W.Frag) (f : Str) (to te : TE) : TS := fun D σ H => te σ H fun y H1 => to σ H1 fun x H2 => ∃ a C : Addr, x = .ref a ∧ OexB K C ∧ PySem.W.findIn K (.ref C) f = some none ∧
  H2 a = some (exo a C none) ∧ ∀ dx, H2 dx = none → dx ≠ a → D.nx σ (upd (upd H2 dx (exd dx [(f, y)])) a (exo a C (some dx)))
theorem ps_ostB {o e : Expr} {to te : TE} {p' pos : Pos} (ho : PE X o to) (he : PE X e te) (hs : swapsWith e (some (.Attribute o f p')) pos.line X.env = pure false := by rfl) : PS X (.Assign [.Attribute o f p'] e pos) (tOstB X.K f to te) := by
  refine ⟨fun pins s σ H D I h => ?_⟩
  refine plainObj_wpAny_Assign_Attribute (thn (he.run pins s σ H _ I h) fun v s1 ⟨y, H1, I1, r1, q1⟩ => thn (ho.run pins s1 σ H1 _ I1 q1) fun u s2 ⟨x, H2, I2, r2, a, C, ex, T, hno, ea, q⟩ => ?_) hs
  subst ex
  obtain rfl : u = Value.ref a := r2
  exact ost_newB T I2 ea hno r1 fun dx s' n ne J => ⟨σ, _, J, q dx n ne⟩
end
/-- the class that a name of the module holds -/
def cls (mg : Str → Option Value) (x : Str) : Addr := match mg x with
  | some (.ref a) => a
  | _ => 0
theorem cls_of {mg : Str → Option Value} {x : Str} {C : Addr} (h : mg x = some (.ref C)) : cls mg x = C := by unfold cls; rw [h]
/-- what __init__(self, f) with self.f = f does to a new exception -/
def spInit (C : Addr) (f : Str) : Sp := fun vs H Q _ => ∃ (a : Addr) (v : V), vs = [.ref a, v] ∧ H a = some (exo a C none) ∧ ∀ dx, H dx = none → dx ≠ a → Q .non (upd (upd H dx (exd dx [(f, v)])) a (exo a C (some dx)))
def initBody (f : Str) (st : Stmt) : Prop := ∃ p1 p2 p3 p4, defBody st = [.Assign [.Attribute (.Name "self" p1) f p2] (.Name f p3) p4]
theorem init_ok {P : Program} {w : World} {K : PySem.W.Frag} {mg : Str → Option Value} {base : Heap} {qual f : Str} {st : Stmt} {fI C : Addr} {fd : FuncData} (F : Fun K "__init__" qual st fI fd) (S : FnScope ["self", f] ["self", f] (defScope st)) (hb : initBody f st)
    (v0 : Vis (defScope st) "self") (v1 : Vis (defScope st) f) (T : OexB K C) (no : PySem.W.findIn K (.ref C) f = some none) (h1 : (f == ("__debug__" : Str)) = false) (h2 : (f == ("__classdict__" : Str)) = false) :
    FnOk P w K mg base CX0 1 fI fd ["self", f] (spInit C f) := by
  obtain ⟨p1, p2, p3, p4, eb⟩ := hb
  refine F.ok S (fun vs H Q E ⟨a, v, e, _⟩ => by rw [e]; rfl) fun cdv A outer s H vs Q E hr h => ⟨_, by rw [eb]; exact pss_one (ps_ostB (pe_var (i := 0) rfl v0) (pe_var (i := 1) rfl v1 h1 h2)), ?_⟩
  obtain ⟨a, v, rfl, ha, k⟩ := h
  exact ⟨v, rfl, .ref a, rfl, a, C, rfl, T, no, ha, k⟩
theorem init_okH {P : Program} {w : World} {K : PySem.W.Frag} {mg : Str → Option Value} {base : Heap} {qual f : Str} {st : Stmt} {fI C : Addr} {fd : FuncData} (F : Fun K "__init__" qual st fI fd) (S : FnScope ["self", f] ["self", f] (defScope st)) (hb : initBody f st)
    (v0 : Vis (defScope st) "self") (v1 : Vis (defScope st) f) (T : OexB K C) (no : PySem.W.findIn K (.ref C) f = some none) (h1 : (f == ("__debug__" : Str)) = false) (h2 : (f == ("__classdict__" : Str)) = false) :
    L2H.FnH P w K mg base CX0 1 fI fd ["self", f] (spInit C f) := by
  obtain ⟨p1, p2, p3, p4, eb⟩ := hb
  obtain ⟨oc, od, kV, doc, pm, an, cdv, ct, osl, rfl, lk, hcd⟩ := F.ex
  refine L2H.fn_ofH lk hcd S (fun vs H Q E ⟨a, v, e, _⟩ => by rw [e]; rfl) fun A outer s H vs Q E p hot hr h => ⟨_, by rw [eb]; exact pss_one (ps_ostB (pe_var (i := 0) rfl v0) (pe_var (i := 1) rfl v1 h1 h2)), ?_⟩
  obtain ⟨a, v, rfl, ha, k⟩ := h
  exact ⟨v, rfl, .ref a, rfl, a, C, rfl, T, no, ha, k⟩
/-- what the written part says of an exception class C with the field f -/
structure EcF (K : PySem.W.Frag) (C : Addr) (f : Str) : Prop where
  oex : OexB K C
  no : PySem.W.findIn K (.ref C) f = some none
  ga : PySem.W.findIn K (.ref C) "__getattribute__" = some (some (.builtin "BaseException.__getattribute__"))
  gg : PySem.W.findIn K (.ref C) "__getattr__" = some none
  hd : PySem.W.hasDictIn K C = true
  init : ∃ (fI : Addr) (fd : FuncData), PySem.W.findIn K (.ref C) "__init__" = some (some (.ref fI)) ∧ PySem.W.typeIn K (.ref fI) = some (.type "function") ∧ Binds K fd ["self", f] [] ∧
    ∀ (P : Program) (w : World) (mg : Str → Option Value) (base : Heap), FnOk P w K mg base CX0 1 fI fd ["self", f] (spInit C f) ∧ L2H.FnH P w K mg base CX0 1 fI fd ["self", f] (spInit C f)
section
variable {X : Cx} {a b c e : Expr} {fa fb fc : DTE} {pos : Pos} {es : List Expr} {fr : DTA} {ta : TA}
/-- C(e) as an exception that is being made -/
theorem pmk1 {x f : Str} {C : Addr} {p : Pos} (T : EcF X.K C f) (room : Room 2 X.A) (hg : Gl X x) (hm : X.mg x = some (.ref C)) (args : PA X [e] ta) (hdb : (x == ("__debug__" : Str)) = false)
    (he : starEach [e] X.env = (false, eval e X.env) :: starEach [] X.env) (hpl : (backTo pos (starEach [] X.env)).any (·.1) = false) :
    L2N.PMk X (.Call (.Name x p) [e] [] pos) (fun σ H Q => ta σ H fun vs H1 => ∃ v, vs = [v] ∧ ∀ d, H1 d = none → Q (.ref C) (some d) (upd H1 d (.xd [(f, v)]))) := by
  intro ps0 s0 σ H Q J h
  obtain ⟨B, newId, initId, bmB, FB, SB, nm, qn, N, bs, bm, sn, sub, ab, col, dd, k0, k1, k2, k3, k5, lkC, okC⟩ := T.oex.cls
  obtain ⟨fI, fd, hi, ht, hbd, hF⟩ := T.init
  refine wpAny_Call_Name_kw (ld_glob J hg hm ?_ hdb)
  refine PySem.W.callWith_K (h₀ := X.base) J.ok.mod.kin T.oex.kC (thn (args.run pos ps0 s0 σ H _ J h) fun us s1 ⟨vs, H1, J1, r1, v, ev, q1⟩ => ⟨J1.kIn, ?_⟩) he hpl
  subst ev
  obtain ⟨hp, g, dr, tk, os⟩ := s1
  obtain ⟨n, hn⟩ : ∃ n, n = hp.objs.size + 1 := ⟨_, rfl⟩
  have hle : hp.objs.size ≤ n := by omega
  have fresh : H1 n = none := J1.hok.fresh hle
  obtain ⟨h2, eh2⟩ : ∃ h2, h2 = (hp.push (PySem.W.kdv_tup us)).push (PySem.HandSPX.excO C hp.objs.size) := ⟨_, rfl⟩
  have keep2 : ∀ b o, hp.get? b = some o → h2.get? b = some o := fun b o z => by rw [eh2]; exact Heap.get?_push_of_some _ (Heap.get?_push_of_some _ z)
  have at2 : h2.get? n = some (PySem.HandSPX.excO C hp.objs.size) := by rw [eh2, hn]; heap_get
  have J2 : Inv X ps0 σ (upd H1 n (exo n C none)) ⟨h2, g, dr, tk, os⟩ := J1.laid (t' := tk) (a := n) (o := exo n C none) (h' := h2) keep2 hle (exo_ok at2)
  have r2 : Vals [V.ref n, v] (Value.ref n :: us) := .cons rfl r1
  have l2 : (Value.ref n :: us).length = 2 := r2.length.symm
  have lus : us.length ≤ sizeLine := by
    have : us.length + 1 = 2 := l2
    rw [sizeLine_eq]
    omega
  have bind2 := hbd ⟨h2, g, dr, tk, os⟩ (Value.ref n :: us) J2.kIn (by rw [List.append_nil]; exact l2)
  rw [List.append_nil] at bind2
  have want : spInit C f [.ref n, v] (upd H1 n (exo n C none)) (fun u H2 => u = .non ∧ ∃ d, H2 = upd (upd (upd H1 n (exo n C none)) d (exd d [(f, v)])) n (exo n C (some d)) ∧ H1 d = none ∧ d ≠ n) (fun _ _ _ => False) :=
    ⟨n, v, rfl, upd_same, fun d hd ne => ⟨rfl, d, rfl, by rw [upd_ne ne] at hd; exact hd, ne⟩⟩
  show wpAny _ _ (call (.ref C) us) _ _ _
  refine wpAny_call (PySem.HandSPX.call_own FB (fun Y => PySem.W.excTail_contains Y bm okC) (J1.kIn _ _ lkC) (PySem.W.looks_findIn J1.kIn hi) (fun self => PySem.W.bind_fn J1.kIn self ht) lus ?_)
  rw [← eh2, ← hn]
  refine codeAny_mono ((hF X.prog X.w X.mg X.base).1.run _ X.stack _ _ ⟨Value.ref n :: us, []⟩ (Value.ref n :: us) _ _ (fun _ _ _ => False) (room.make C us []) (J2.env0.make C us []) bind2 r2 want) fun r s' z => ?_
  match r, z with
  | .error er, z => exact z.elim
  | .ok .next, z => exact z.elim
  | .ok .brk, z => exact z.elim
  | .ok .cont, z => exact z.elim
  | .ok (.ret u), z =>
    obtain ⟨u', H2, os2, bare2, un2, hok2, rv, eu, d, eH, fd1, dne⟩ := z
    subst eu
    obtain ⟨h3, g3, d3, t3, os3⟩ := s'
    have en : H2 n = some (exo n C (some d)) := by rw [eH]; exact upd_same
    have ed : H2 d = some (exd d [(f, v)]) := by rw [eH, upd_ne dne]; exact upd_same
    obtain ⟨t0, G, J3, kG, ge, hoe, na⟩ := mk_end0 (d2 := d3) (t2 := t3) J1 hle keep2 un2 hok2 os2 bare2 en ed fd1
    have same : upd (del H2 n) d (.xd [(f, v)]) = upd H1 d (.xd [(f, v)]) := by
      funext b
      by_cases hb : b = d
      · rw [hb, upd_same, upd_same]
      · rw [upd_ne hb, upd_ne hb]
        by_cases hbn : b = n
        · rw [hbn, del_same, fresh]
        · rw [del_ne hbn, eH, upd_ne hbn, upd_ne hb, upd_ne hbn]
    rw [same] at J3 na
    exact ⟨rv, n, _, _, ⟨G, g3, d3, t3, os3⟩, _, .ref C, some d, rfl, J3, kG, ge, hoe, ⟨rfl, rfl, fun vs e => by cases e; rfl⟩, rfl, rfl, na, rfl, bare2, raises_own T.oex.exC T.oex.tyC, q1 d fd1⟩
@[reducible] def dRaise (C : Addr) (f : Str) (fr : DTA) : DTS := fun _ ρ M => fr ρ M fun ds M1 => match ds with
  | [d] => ρ.x (.ref C) [(f, d)] ρ.v M1
  | _ => False
theorem ds_raise {x f : Str} {C : Addr} {p pos2 : Pos} (T : EcF X.K C f) (room : Room 2 X.A) (hm : X.mg x = some (.ref C)) (args : DA X [e] fr) (hc : X.calm = true := by rfl) (hg : Gl X x := by rfl) (hdb : (x == ("__debug__" : Str)) = false := by decide)
    (he : starEach [e] X.env = (false, eval e X.env) :: starEach [] X.env := by rfl) (hpl : (backTo pos (starEach [] X.env)).any (·.1) = false := by rfl) :
    DS X (.Raise (some (.Call (.Name x p) [e] [] pos)) none pos2) (dRaise C f fr) := by
  refine ⟨PS.of (L2N.ps_raise hc (takesW X) (pmk1 T room hg hm args.pa hdb he hpl)) fun E σ H ⟨ρ, M, al, F, G, W, es, q⟩ => ?_, fun D D' ρ M w q => args.mono _ _ _ _ (fun ds M1 q1 => q1) q⟩
  refine args.seq W es q fun ds M1 al1 F1 H1 vs q1 e1 W1 r1 s1 => ?_
  match ds, r1, q1 with
  | [d], .cons rd .nil, q1 =>
    refine ⟨_, rfl, fun q hq => ?_⟩
    obtain ⟨W2, e2⟩ := W1.newF (p := q) (o := .xd [(f, _)]) hq
    exact ⟨plain_ref C, s1.xo (.ref C) [(f, d)] ρ.v M1 al1 _ _ (some q) σ e2 W2 (s1.sl.ext e2) (.inr ⟨q, [(f, _)], rfl, upd_same, rfl, show Rps _ _ _ [_] [d] from .cons (rd.ext e2) .nil⟩) q1⟩
end
theorem Sl.unset {K : PySem.W.Frag} {F : Hp} {al : List Addr} {σ : L2.St} {ρ : List (Option D)} (h : Sl K F al σ ρ) (i : Nat) : Sl K F al (σ.set i none) (ρ.set i none) := by
  refine ⟨by rw [List.length_set, List.length_set]; exact h.len, fun j e q => ?_⟩
  by_cases hj : i = j
  · subst hj
    by_cases hl : i < ρ.length
    · rw [List.getElem?_set_self hl] at q
      cases q
    · rw [List.getElem?_eq_none (by rw [List.length_set]; omega)] at q
      cases q
  · rw [List.getElem?_set_ne hj] at q
    obtain ⟨u, a, b⟩ := h.get j e q
    exact ⟨u, by rw [List.getElem?_set_ne hj]; exact a, b⟩
theorem zip_back {α β : Type} : ∀ l : List (α × β), (l.map (·.1)).zip (l.map (·.2)) = l
  | [] => rfl
  | (x, y) :: l => by
    show (x, y) :: (l.map (·.1)).zip (l.map (·.2)) = _
    rw [zip_back l]
theorem FldOk.rp {K : PySem.W.Frag} {F : Hp} {al : List Addr} {o : Option Addr} {fs : List (Str × D)} (h : FldOk K F al o fs) (a : Addr) (c : Value) : Rp K F al (.ref a) (.exo a c o (fs.map (·.1)) (fs.map (·.2))) := by
  rcases h with ⟨rfl, rfl⟩ | ⟨q, vs, rfl, h1, h2, h3⟩
  · exact .exo0 a c
  · refine .exo (xs := vs.map (·.2)) ?_ ?_ h3
    · rw [← h2, zip_back]
      exact h1
    · rw [← h2, List.length_map, List.length_map]
def LiftSN (K : PySem.W.Frag) (f : DTS) : TS := fun E σ H => ∃ ρ M al F G, Wd K al F G H M ∧ Sl K F al σ ρ.v ∧ ρ.x = noX ∧ f (kontS K al F G noX E) ρ M
theorem LiftSN.of {Y : Cx} {f : DTS} {E : Ends} {σ : L2.St} {H : Hp} (h : LiftSN Y.K f E σ H) : LiftS Y f E σ H := by
  obtain ⟨ρ, M, al, F, G, W, s, x, q⟩ := h
  exact ⟨ρ, M, al, F, G, W, Es.none s x, by rw [x]; exact q⟩
def XoW (K : PySem.W.Frag) (Wx : WX) (al : List Addr) (F G : Hp) (x : DXS) : Prop := ∀ c fs vs M' al' F' H' o σ', Ext al F al' F' → Wd K al' F' G H' M' → Sl K F' al' σ' vs → FldOk K F' al' o fs → x c fs vs M' → Wx c o σ' H'
theorem exm_noc {K : PySem.W.Frag} {C : Addr} {c : Value} {b : Bool} (h : PySem.W.exmOne K (ctxd C) c = some b) : False := by
  unfold PySem.W.exmOne at h
  split at h
  · cases c with
    | ref x =>
      replace h : (if ((PySem.W.clsIn K x).isSome && PySem.W.typeIn K (.ref x) == some (.type "type")) = true then PySem.W.subIn K (ctxd C) (.ref x) else none) = some b := h
      split at h
      · exact nomatch (show (none : Option Bool) = some b from h)
      · cases h
    | type T =>
      replace h : (if PySem.W.kitMeta T = true then PySem.W.subIn K (ctxd C) (.type T) else none) = some b := h
      split at h
      · exact nomatch (show (none : Option Bool) = some b from h)
      · cases h
    | _ => exact nomatch (show (none : Option Bool) = some b from h)
  · cases h
def LiftSW (K : PySem.W.Frag) (f : DTS) (Wx : WX) : TS := fun E σ H => ∃ ρ M al F G, Wd K al F G H M ∧ Sl K F al σ ρ.v ∧ (NoC Wx ∧ XoW K Wx al F G ρ.x) ∧ f (kontS K al F G ρ.x E) ρ M
/-- the ends of a part whose wish of an exception is another one -/
@[reducible] def endsX (D : DEnds) (x : DXS) : DEnds := ⟨fun ρ M => D.nx ⟨ρ.v, x⟩ M, D.rt, fun ρ M => D.bk ⟨ρ.v, x⟩ M, fun ρ M => D.ct ⟨ρ.v, x⟩ M⟩
/-- .. behind which the slot i is empty -/
@[reducible] def endsU (i : Nat) (D : DEnds) (x : DXS) : DEnds := ⟨fun ρ M => D.nx ⟨ρ.v.set i none, x⟩ M, D.rt, fun ρ M => D.bk ⟨ρ.v.set i none, x⟩ M, fun ρ M => D.ct ⟨ρ.v.set i none, x⟩ M⟩
@[reducible] def dTryAs (K : PySem.W.Frag) (c : Value) (i : Nat) (fb : DTS) (fs : Addr → Value → Option Addr → DTS) : DTS := fun D ρ M =>
  ∃ x' : DXS, (∀ cls fl vs M', x' cls fl vs M' → ∃ b, PySem.W.exmOne K cls c = some b ∧ (b = true → ∀ a o, fs a cls o (endsU i D ρ.x) ⟨vs.set i (some (.exo a cls o (fl.map (·.1)) (fl.map (·.2)))), noX⟩ M') ∧ (b = false → ρ.x cls fl vs M')) ∧ fb (endsX D ρ.x) ⟨ρ.v, x'⟩ M
section
variable {X : Cx} {pos : Pos}
theorem ds_tryAs {x n : Str} {c : Value} (i : Nat) {body suite : List Stmt} {b0 : Stmt} {np pos' : Pos} {fb : DTS} {fs : Addr → Value → Option Addr → DTS} (hN : X.N.Nodup) (hc : X.mg x = some c)
    (hb : ∀ (pn : List (Addr × Obj)) (xe : Value → Shared → Prop), PassesOwn (model X.prog X.w) X.A X.env xe → DSs (X.tr pn xe) body fb)
    (hsu : ∀ (a : Addr) (oe : Obj) (cls : Value) (d : Option Addr) (pn : List (Addr × Obj)), L2N.Zn cls d oe → (∃ vs, oe.data = .fields vs) → DSs (X.suite a ((a, oe) :: pn)) (b0 :: suite) (fs a cls d))
    (hs : X.stack = X.env :: X.outer := by rfl) (hf : X.env.frame = some X.env.locals := by rfl) (hi : X.N[i]? = some n := by rfl) (hln : X.env.kindOf n = some .local := by rfl) (hg : Gl X x := by rfl) (hdb : (x == ("__debug__" : Str)) = false := by decide) :
    DS X (.Try body [.ExceptHandler (some (.Name x np)) (some n) (b0 :: suite) pos'] [] [] pos) (dTryAs X.K c i fb fs) := by
  have mf : ∀ a cls d, MonoS (fs a cls d) := fun a cls d => (hsu a { cls := cls, dict := d, data := .fields #[.none, .none, .none] } cls d [] ⟨rfl, rfl, fun vs e => by cases e; rfl⟩ ⟨_, rfl⟩).mono
  have mb : MonoS fb := (hb [] (fun _ _ => False) PassesOwn.never).mono
  refine ⟨PS.of (L2N.ps_try_as (i := i) (tb := LiftSW X.K fb) (ts := fun a cls d => LiftSN X.K (fs a cls d)) hs hf hN hi hln ⟨hg, hdb, .inl hc⟩ (takesW X) (fun Wx pn xe tk po => PSs.of (hb pn xe po).ps fun E σ H ⟨ρ, M, al, F, G, W, s, xo, q⟩ => ?_) (fun a oe cls d pn hz hd => PSs.of (hsu a oe cls d pn hz hd).ps fun E σ H h => LiftSN.of h)) ?_, fun D D' ρ M w q => ?_⟩
  · exact ⟨ρ, M, al, F, G, W, ⟨s, fun c' fl vs M' al' F' H' o σ' e' W' s' f' z => W0.of tk xo.1 (xo.2 c' fl vs M' al' F' H' o σ' e' W' s' f' z)⟩, q⟩
  · rintro E σ H ⟨ρ, M, al, F, G, W, es, x', hx, q⟩
    refine ⟨⟨ρ.v, x'⟩, M, al, F, G, W, es.sl, ⟨fun C d σ H ⟨b, h, _⟩ => exm_noc h, ?_⟩, MonoS.up mb q ⟨fun ρ1 M1 k al1 F1 H1 σ1 e1 W1 s1 _ => ?_, fun d M1 k => k, fun ρ1 M1 k al1 F1 H1 σ1 e1 W1 s1 _ => ?_, fun ρ1 M1 k al1 F1 H1 σ1 e1 W1 s1 _ => ?_⟩⟩
    rotate_left
    · exact (show kN X.K al F G ρ.x E.nx ⟨ρ1.v, ρ.x⟩ M1 from k) al1 F1 H1 σ1 e1 W1 s1 rfl
    · exact (show kN X.K al F G ρ.x E.bk ⟨ρ1.v, ρ.x⟩ M1 from k) al1 F1 H1 σ1 e1 W1 s1 rfl
    · exact (show kN X.K al F G ρ.x E.ct ⟨ρ1.v, ρ.x⟩ M1 from k) al1 F1 H1 σ1 e1 W1 s1 rfl
    intro cls fl vs M' al' F' H' o σ' e' W' s' f' z
    obtain ⟨b, hb1, yes, no⟩ := hx cls fl vs M' z
    refine ⟨b, hb1, fun eb a na => ?_, fun eb => ⟨fun C e => exm_noc (e ▸ hb1), es.xo cls fl vs M' al' F' H' o σ' e' W' s' f' (no eb)⟩⟩
    refine ⟨⟨vs.set i (some (.exo a cls o (fl.map (·.1)) (fl.map (·.2)))), noX⟩, M', al', F', G, W', s'.set (f'.rp a cls) i, rfl, MonoS.up (mf a cls o) (yes eb a o) ⟨fun ρ1 M1 k al1 F1 H1 σ1 e1 W1 s1 _ => ?_, fun d M1 k => kont.ext k e', fun ρ1 M1 k al1 F1 H1 σ1 e1 W1 s1 _ => ?_, fun ρ1 M1 k al1 F1 H1 σ1 e1 W1 s1 _ => ?_⟩⟩
    · exact (show kN X.K al F G ρ.x E.nx ⟨ρ1.v.set i none, ρ.x⟩ M1 from k) al1 F1 H1 _ (e'.trans e1) W1 (s1.unset i) rfl
    · exact (show kN X.K al F G ρ.x E.bk ⟨ρ1.v.set i none, ρ.x⟩ M1 from k) al1 F1 H1 _ (e'.trans e1) W1 (s1.unset i) rfl
    · exact (show kN X.K al F G ρ.x E.ct ⟨ρ1.v.set i none, ρ.x⟩ M1 from k) al1 F1 H1 _ (e'.trans e1) W1 (s1.unset i) rfl
  · obtain ⟨x', hx, q⟩ := q
    refine ⟨x', fun cls fl vs M' z => ?_, mb (endsX D ρ.x) (endsX D' ρ.x) _ _ ⟨fun _ _ k => w.nx _ _ k, w.rt, fun _ _ k => w.bk _ _ k, fun _ _ k => w.ct _ _ k⟩ q⟩
    obtain ⟨b, hb1, yes, no⟩ := hx cls fl vs M' z
    exact ⟨b, hb1, fun eb a o => mf a cls o (endsU i D ρ.x) (endsU i D' ρ.x) _ _ ⟨fun _ _ k => w.nx _ _ k, w.rt, fun _ _ k => w.bk _ _ k, fun _ _ k => w.ct _ _ k⟩ (yes eb a o), no⟩
end
end DL
set_option maxHeartbeats 2000000
namespace DL
open PySem PySem.Spec PyProof.Rows L2
/-- what an exception class must say, so that isinstance asks its instances rightly, and its fields are read -/
structure ExI (K : PySem.W.Frag) (C : Addr) : Prop where
  ga : PySem.W.findIn K (.ref C) "__getattribute__" = some (some (.builtin "BaseException.__getattribute__"))
  gg : PySem.W.findIn K (.ref C) "__getattr__" = some none
  ex : PySem.W.subIn K (.ref C) (.type "BaseException") = some true
  hd : PySem.W.hasDictIn K C = true
  cl : PySem.W.findIn K (.ref C) "__class__" = some (some (.builtin "object.__class__"))
  gs : PySem.W.specialIn K (.builtin "object.__class__") "__get__" = some (some (.builtin "getset_descriptor.__get__"))
  tk : PySem.W.takesIn K (.builtin "object.__class__") = some true
  ob : PySem.W.mroIn K C (.type "object") = some true
theorem ExI.is {K : PySem.W.Frag} {C : Addr} (h : ExI K C) : (PySem.W.clsIn K C).isSome = true := by
  have hd := h.hd
  unfold PySem.W.hasDictIn at hd
  cases e : PySem.W.clsIn K C with
  | none => rw [e] at hd; cases hd
  | some c => rfl
/-- the exception at a is handled: its object is pinned -/
structure Pin (Y : Cx) (a : Addr) (cls : Value) (d : Option Addr) : Prop where
  ex : ∃ oe : Obj, (a, oe) ∈ Y.pn ∧ L2N.Zn cls d oe ∧ ∃ vs, oe.data = .fields vs
/-- .. whatever its context is -/
structure PinC (Y : Cx) (a : Addr) (cls : Value) (d : Option Addr) : Prop where
  ex : ∃ oe : Obj, (a, oe) ∈ Y.pn ∧ L2.Zc cls d oe ∧ ∃ vs, oe.data = .fields vs
theorem Pin.c {Y : Cx} {a : Addr} {cls : Value} {d : Option Addr} (p : Pin Y a cls d) : PinC Y a cls d := by
  obtain ⟨oe, h1, h2, h3⟩ := p.ex
  exact ⟨oe, h1, h2.zc, h3⟩
def DictAt (H : Hp) : Option Addr → Prop
  | none => True
  | some q => ∃ fs, H q = some (.xd fs)
theorem PinC.inst {Y : Cx} {a C : Addr} {d : Option Addr} (p : PinC Y a (.ref C) d) {pins : List (Addr × Obj)} {σ : L2.St} {H : Hp} {s : Shared} (I : Inv Y pins σ H s) (hd : DictAt H d) : ∃ oe od, PySem.W.InstAt s.heap a oe C od := by
  obtain ⟨oe, hp, hz, vs, hv⟩ := p.ex
  obtain ⟨hg, _⟩ := I.pin (a, oe) (List.mem_append_left _ hp)
  have nc : PySem.W.notCls oe = true := by unfold PySem.W.notCls; rw [hv] <;> rfl
  cases d with
  | none => exact ⟨oe, none, hg, hz.1, nc, by rw [hz.2]; trivial⟩
  | some q =>
    obtain ⟨fs, hq⟩ := hd
    obtain ⟨u, hu⟩ := objOk_get (I.hok q _ hq)
    exact ⟨oe, some u, hg, hz.1, nc, by rw [hz.2]; exact hu⟩
theorem PinC.kit {Y : Cx} {a C : Addr} {d : Option Addr} (p : PinC Y a (.ref C) d) (T : ExI Y.K C) {pins : List (Addr × Obj)} {σ : L2.St} {H : Hp} {s : Shared} (I : Inv Y pins σ H s) (hd : DictAt H d) : ∃ Z : Heap → Prop, PySem.W.KitX Y.K (.ref a) (.ref C) Z ∧ Z s.heap := by
  obtain ⟨oe, od, J⟩ := p.inst I hd
  exact ⟨_, PySem.W.kitx_exc T.is T.ga T.gg T.ex T.cl T.gs T.tk T.ob, J⟩
/-- isinstance(e, c) and isinstance(e, (c, ..)), by the classes' values -/
def rIsX (K : PySem.W.Frag) (a : Addr) (cls : Value) (d : Option Addr) : List V → Hp → VK → Prop := fun xs H Q => ∃ (C : Addr) (c : V) (b : Bool), xs = [.ref a, c] ∧ cls = .ref C ∧ ExI K C ∧ DictAt H d ∧ Q (.bl b) H ∧
  ((∃ cv, ClsV c cv ∧ PySem.W.kitOne K cls cv = some b) ∨ ∃ tp cs ws, c = .ref tp ∧ H tp = some (.tup cs) ∧ Paired ClsV cs ws ∧ PySem.W.kitAny K cls ws = some b)
theorem call_isX {Y : Cx} {a : Addr} {cls : Value} {d : Option Addr} (p : PinC Y a cls d) : CallR Y (.builtin "isinstance") (rIsX Y.K a cls d) := by
  intro pins s σ H xs us Q I r h
  obtain ⟨C, c, b, rfl, rfl, T, hd, q, h⟩ := h
  obtain ⟨u1, u2, rfl, r1, r2⟩ := vals2 r
  cases (show u1 = Value.ref a from r1)
  obtain ⟨Z, kz, hz⟩ := p.kit T I hd
  rcases h with ⟨cv, k, e⟩ | ⟨tp, cs, ws, rfl, hT, k, e⟩
  · cases k.eq r2
    exact PySem.W.kia_one kz I.kIn hz e (fun z => nomatch z) fun tk => ⟨.bl b, H, I.tok tk, rfl, q⟩
  · cases (show u2 = Value.ref tp from r2)
    obtain ⟨_, its, rv, o, h1, h2, n, h3⟩ := (show ObjOk Y.prog Y.w H s.heap tp (.tup cs) from I.hok tp _ hT)
    have e3 := ClsV.all k rv
    subst e3
    obtain ⟨oc, od, dt, sl⟩ := o
    simp only at h2 h3
    subst h2
    subst h3
    exact PySem.W.kia_tup kz I.kIn hz h1 e (fun z => nomatch z) fun tk => ⟨.bl b, H, I.tok tk, rfl, q⟩
/-- an expression that names a class -/
def NmC (Y : Cx) (e : Expr) (cv : Value) : Prop := ∃ v, PE Y e (tC v) ∧ ClsV v cv
theorem nm_own {Y : Cx} {x : Str} {C : Addr} {pos : Pos} (hm : Y.mg x = some (.ref C)) (hg : Gl Y x := by rfl) (hd : (x == ("__debug__" : Str)) = false := by decide) : NmC Y (.Name x pos) (.ref C) := ⟨.ref C, pe_glob hg hm rfl hd, .own C⟩
theorem nm_blt {Y : Cx} {x : Str} {T : String} {pos : Pos} (hm : Y.mg x = none) (hv : bootBuiltins x = some (.type T)) (hg : Gl Y x := by rfl) (hn : x ≠ "__name__" := by decide) (hd : (x == ("__debug__" : Str)) = false := by decide) : NmC Y (.Name x pos) (.type T) := ⟨.ty T, pe_bltn hg hm hv rfl hn hd, .ty T⟩
inductive NmCs (Y : Cx) : List Expr → List Value → Prop
  | nil : NmCs Y [] []
  | cons {e : Expr} {es : List Expr} {c : Value} {cs : List Value} : NmC Y e c → (starEach (e :: es) Y.env = (false, eval e Y.env) :: starEach es Y.env) → NmCs Y es cs → NmCs Y (e :: es) (c :: cs)
theorem nms_cons {Y : Cx} {e : Expr} {es : List Expr} {c : Value} {cs : List Value} (h : NmC Y e c) (r : NmCs Y es cs) (hs : starEach (e :: es) Y.env = (false, eval e Y.env) :: starEach es Y.env := by rfl) : NmCs Y (e :: es) (c :: cs) := .cons h hs r
theorem NmCs.pa {Y : Cx} : ∀ {es : List Expr} {cs : List Value}, NmCs Y es cs → ∃ vs t, PA Y es t ∧ Paired ClsV vs cs ∧ ∀ σ H (Q : List V → Hp → Prop), Q vs H → t σ H Q
  | _, _, .nil => ⟨[], _, pa_nil, .nil, fun _ _ _ q => q⟩
  | _, _, .cons ⟨v, hv, k⟩ hs r => by
    obtain ⟨vs, t, ht, kk, w⟩ := r.pa
    exact ⟨v :: vs, _, pa_cons hv ht hs, .cons k kk, fun σ H Q q => w σ H _ q⟩
theorem Paired.len {α β : Type} {R : α → β → Prop} : ∀ {xs : List α} {ys : List β}, Paired R xs ys → xs.length = ys.length
  | _, _, .nil => rfl
  | _, _, .cons _ r => by rw [List.length_cons, List.length_cons, Paired.len r]
section
variable {Y : Cx} {e : Expr} {fe : DTE} {pos : Pos} {a : Addr} {cls : Value} {d : Option Addr}
@[reducible] def dIsX (K : PySem.W.Frag) (a : Addr) (cls : Value) (d : Option Addr) (cs : List Value) (fe : DTE) : DTE := fun ρ M Q => fe ρ M fun x M1 => match x with
  | .exo a' _ d' _ _ => a' = a ∧ d' = d ∧ ∃ C b, cls = .ref C ∧ ExI K C ∧ PySem.W.kitAny K cls cs = some b ∧ Q (.bl b) M1
  | _ => False
theorem dIsX_mono {K : PySem.W.Frag} {cs : List Value} (h : DE Y e fe) : ∀ ρ M (Q Q' : DK), (∀ d M, Q d M → Q' d M) → dIsX K a cls d cs fe ρ M Q → dIsX K a cls d cs fe ρ M Q' := fun ρ M Q Q' w q => h.mono _ _ _ _ (fun x M1 q1 => by
  cases x with
  | exo a' c' d' ks ds =>
    obtain ⟨h1, h2, C, b, h3, h4, h5, k⟩ := q1
    exact ⟨h1, h2, C, b, h3, h4, h5, w _ _ k⟩
  | _ => exact q1.elim) q
theorem exo_dict {K : PySem.W.Frag} {F G H : Hp} {al : List Addr} {M : Sto} {v : V} {a' : Addr} {c' : Value} {d' : Option Addr} {ks : List Str} {ds : List D} (W : Wd K al F G H M) (r : Rp K F al v (.exo a' c' d' ks ds)) : v = .ref a' ∧ DictAt H d' := by
  cases r with
  | exo0 => exact ⟨rfl, trivial⟩
  | exo h l rs => exact ⟨rfl, _, W.sm _ _ h⟩
theorem d_isXC {p p2 : Pos} {cs : List Expr} {cvs : List Value} {k : Nat} (hp : PinC Y a cls d) (hm : Y.mg "isinstance" = none) (h : DE Y e fe) (hc : NmCs Y cs cvs) (hl : cvs.length ≤ 1000) (hg : Gl Y "isinstance" := by rfl)
    (hs : starEach [e, .Tuple cs k p2] Y.env = (false, eval e Y.env) :: starEach [.Tuple cs k p2] Y.env := by rfl) (hs2 : starEach [.Tuple cs k p2] Y.env = (false, eval (.Tuple cs k p2) Y.env) :: starEach [] Y.env := by rfl) (hpl : (backTo pos (starEach [.Tuple cs k p2] Y.env)).any (·.1) = false := by rfl) :
    DE Y (.Call (.Name "isinstance" p) [e, .Tuple cs k p2] [] pos) (dIsX Y.K a cls d cvs fe) := by
  obtain ⟨vs, t, ht, kk, w⟩ := hc.pa
  refine ⟨PE.of (pe_callB (call_isX hp) hg hm (by decide +kernel) (pa_cons h.pe (pa_cons (pe_tup ht) pa_nil hs2) hs) (by decide) (by decide) hs hpl) fun σ H Q ⟨ρ, M, al, F, G, W, s, q⟩ => ?_, dIsX_mono h⟩
  refine h.seq W s q fun x M1 al1 F1 H1 v q1 e1 W1 r1 s1 => ?_
  cases x with
  | exo a' c' d' ks ds =>
    obtain ⟨rfl, rfl, C, b, rfl, T, hk, q1⟩ := q1
    obtain ⟨rfl, hd⟩ := exo_dict W1 r1
    refine w σ H1 _ ⟨by rw [Paired.len kk]; exact Nat.le_trans hl (by decide), fun tp htp => ?_⟩
    obtain ⟨W2, e2⟩ := W1.newF (p := tp) (o := .tup vs) htp
    obtain ⟨_, hd2⟩ := exo_dict W2 (r1.ext e2)
    exact ⟨C, .ref tp, b, rfl, rfl, T, hd2, q1 al1 _ _ _ (e1.trans e2) W2 (.bl b), .inr ⟨tp, vs, cvs, rfl, upd_same, kk, hk⟩⟩
  | _ => exact q1.elim
theorem d_isX1C {p : Pos} {c : Expr} {cv : Value} (hp : PinC Y a cls d) (hm : Y.mg "isinstance" = none) (h : DE Y e fe) (hc : NmC Y c cv) (hg : Gl Y "isinstance" := by rfl)
    (hs : starEach [e, c] Y.env = (false, eval e Y.env) :: starEach [c] Y.env := by rfl) (hs2 : starEach [c] Y.env = (false, eval c Y.env) :: starEach [] Y.env := by rfl) (hpl : (backTo pos (starEach [c] Y.env)).any (·.1) = false := by rfl) :
    DE Y (.Call (.Name "isinstance" p) [e, c] [] pos) (dIsX Y.K a cls d [cv] fe) := by
  obtain ⟨v, hv, kc⟩ := hc
  refine ⟨PE.of (pe_callB (call_isX hp) hg hm (by decide +kernel) (pa_cons h.pe (pa_cons hv pa_nil hs2) hs) (by decide) (by decide) hs hpl) fun σ H Q ⟨ρ, M, al, F, G, W, s, q⟩ => ?_, dIsX_mono h⟩
  refine h.seq W s q fun x M1 al1 F1 H1 v q1 e1 W1 r1 s1 => ?_
  cases x with
  | exo a' c' d' ks ds =>
    obtain ⟨rfl, rfl, C, b, rfl, T, hk, q1⟩ := q1
    obtain ⟨rfl, hd⟩ := exo_dict W1 r1
    have hk1 : PySem.W.kitOne Y.K (.ref C) cv = some b := by
      unfold PySem.W.kitAny at hk
      split at hk
      · next e => rw [e]; exact hk
      · next e => rw [e]; exact hk
      · cases hk
    exact ⟨C, _, b, rfl, rfl, T, hd, q1 al1 F1 H1 _ e1 W1 (.bl b), .inl ⟨cv, kc, hk1⟩⟩
  | _ => exact q1.elim
/-- e.f of the handled exception -/
@[reducible] def dFldX (K : PySem.W.Frag) (a : Addr) (cls : Value) (d : Option Addr) (n : Str) (fe : DTE) : DTE := fun ρ M Q => fe ρ M fun x M1 => match x with
  | .exo a' _ d' ks ds => a' = a ∧ d' = d ∧ ∃ C v, cls = .ref C ∧ ExI K C ∧ PySem.W.findIn K (.ref C) n = some none ∧ (ks.zip ds).lookup n = some v ∧ Q v M1
  | _ => False
theorem look_rps {K : PySem.W.Frag} {F : Hp} {al : List Addr} (n : Str) : ∀ {ks : List Str} {xs : List V} {ds : List D} {v : D}, Rps K F al xs ds → (ks.zip ds).lookup n = some v → ∃ u, (ks.zip xs).lookup n = some u ∧ Rp K F al u v
  | [], _, _, _, _, h => by cases h
  | k :: ks, _, [], _, _, h => by cases h
  | k :: ks, _, d :: ds, v, .cons r rs, h => by
    rw [List.zip_cons_cons, List.lookup_cons] at h
    rw [List.zip_cons_cons, List.lookup_cons]
    split at h
    · next e => cases h; exact ⟨_, rfl, r⟩
    · next e =>
      obtain ⟨u, h1, h2⟩ := look_rps n rs h
      exact ⟨u, h1, h2⟩
theorem d_fldXC {n : Str} (hp : PinC Y a cls d) (h : DE Y e fe) (hb : attributeBase e n Y.env (eval e Y.env) = eval e Y.env := by rfl) : DE Y (.Attribute e n pos) (dFldX Y.K a cls d n fe) := by
  refine ⟨⟨fun pins s σ H Q I ⟨ρ, M, al, F, G, W, es, q⟩ => ?_⟩, fun ρ M Q Q' w q => h.mono _ _ _ _ (fun x M1 q1 => ?_) q⟩
  · have hl : Lift Y fe σ H (fun v H1 => ∃ (C q : Addr) (fs : List (Str × V)) (u : V), v = .ref a ∧ cls = .ref C ∧ d = some q ∧ ExI Y.K C ∧ PySem.W.findIn Y.K (.ref C) n = some none ∧ H1 q = some (.xd fs) ∧ fs.lookup n = some u ∧ Q u H1) := by
      refine h.seq W es q fun x M1 al1 F1 H1 v q1 e1 W1 r1 s1 => ?_
      cases x with
      | exo a' c' d' ks ds =>
        obtain ⟨rfl, rfl, C, v', rfl, T, no, hlk, q1⟩ := q1
        cases r1 with
        | exo0 => cases hlk
        | exo hF hlen rs =>
          obtain ⟨u, hu, ru⟩ := look_rps n rs hlk
          exact ⟨C, _, _, u, rfl, rfl, rfl, T, no, W1.sm _ _ hF, hu, q1 al1 F1 H1 u e1 W1 ru⟩
      | _ => exact q1.elim
    refine attr_of hb (thn (h.pe.run pins s σ H _ I hl) fun u s1 ⟨x, H1, I1, rx, C, qa, fs, v, ex, ec, ed, T, no, hq, hv, k⟩ => ?_)
    subst ex
    subst ec
    subst ed
    cases (show u = Value.ref a from rx)
    obtain ⟨oe, hpn, hz, vs, hvs⟩ := hp.ex
    obtain ⟨hget, _⟩ := I1.pin (a, oe) (List.mem_append_left _ hpn)
    obtain ⟨mA, hns, hrel⟩ := (show ObjOk Y.prog Y.w H1 s1.heap qa (.xd fs) from I1.hok qa _ hq)
    obtain ⟨od, ho, hlo⟩ := lookIn_ns hns
    obtain ⟨u', hu', ru'⟩ := RelO.some_of (v := v) (o := mA n) (by rw [← hv]; exact hrel n)
    have J : PySem.W.InstAt s1.heap a oe C (some od) := ⟨hget, hz.1, by unfold PySem.W.notCls; rw [hvs] <;> rfl, by rw [hz.2]; exact ho⟩
    exact HandSPX.exc_get I1.kIn J T.ga T.gg T.ex (PySem.W.findObj_own T.hd no rfl (by rw [hlo, hu'])) (handed_of ru') ⟨v, H1, I1.tok _, ru', k⟩
  · cases x with
    | exo a' c' d' ks ds =>
      obtain ⟨h1, h2, C, v, h3, h4, h5, h6, k⟩ := q1
      exact ⟨h1, h2, C, v, h3, h4, h5, h6, w _ _ k⟩
    | _ => exact q1.elim
theorem d_isX {p p2 : Pos} {cs : List Expr} {cvs : List Value} {k : Nat} (hp : Pin Y a cls d) (hm : Y.mg "isinstance" = none) (h : DE Y e fe) (hc : NmCs Y cs cvs) (hl : cvs.length ≤ 1000) (hg : Gl Y "isinstance" := by rfl)
    (hs : starEach [e, .Tuple cs k p2] Y.env = (false, eval e Y.env) :: starEach [.Tuple cs k p2] Y.env := by rfl) (hs2 : starEach [.Tuple cs k p2] Y.env = (false, eval (.Tuple cs k p2) Y.env) :: starEach [] Y.env := by rfl) (hpl : (backTo pos (starEach [.Tuple cs k p2] Y.env)).any (·.1) = false := by rfl) :
    DE Y (.Call (.Name "isinstance" p) [e, .Tuple cs k p2] [] pos) (dIsX Y.K a cls d cvs fe) := d_isXC hp.c hm h hc hl hg hs hs2 hpl
theorem d_isX1 {p : Pos} {c : Expr} {cv : Value} (hp : Pin Y a cls d) (hm : Y.mg "isinstance" = none) (h : DE Y e fe) (hc : NmC Y c cv) (hg : Gl Y "isinstance" := by rfl)
    (hs : starEach [e, c] Y.env = (false, eval e Y.env) :: starEach [c] Y.env := by rfl) (hs2 : starEach [c] Y.env = (false, eval c Y.env) :: starEach [] Y.env := by rfl) (hpl : (backTo pos (starEach [c] Y.env)).any (·.1) = false := by rfl) :
    DE Y (.Call (.Name "isinstance" p) [e, c] [] pos) (dIsX Y.K a cls d [cv] fe) := d_isX1C hp.c hm h hc hg hs hs2 hpl
theorem d_fldX {n : Str} (hp : Pin Y a cls d) (h : DE Y e fe) (hb : attributeBase e n Y.env (eval e Y.env) = eval e Y.env := by rfl) : DE Y (.Attribute e n pos) (dFldX Y.K a cls d n fe) := d_fldXC hp.c h hb
end
theorem pin_suite {X : Cx} {a : Addr} {oe : Obj} {cls : Value} {d : Option Addr} {pn : List (Addr × Obj)} (hz : L2N.Zn cls d oe) (hf : ∃ vs, oe.data = .fields vs) : Pin (X.suite a ((a, oe) :: pn)) a cls d := ⟨⟨oe, List.mem_cons_self .., hz, hf⟩⟩
end DL
set_option maxHeartbeats 2000000
namespace DL
open PySem PySem.Spec PyProof.Rows L2
open L2H (RoomH Hot1 PinOk cxH inv_startH)
end DL
set_option maxHeartbeats 2000000
namespace DL
open PySem PySem.Spec PyProof.Rows L2
/-- what an except clause asks for: one class or a tuple of some -/
inductive Tst (X : Cx) : Expr → List Value → Prop
  | one {x : Str} {np : Pos} {c : Value} : Names X x c → Tst X (.Name x np) [c]
  | two {x1 x2 : Str} {p1 p2 p : Pos} {c1 c2 : Value} {k : Nat} : Names X x1 c1 → Names X x2 c2 → Tst X (.Tuple [.Name x1 p1, .Name x2 p2] k p) [c1, c2]
  | three {x1 x2 x3 : Str} {p1 p2 p3 p : Pos} {c1 c2 c3 : Value} {k : Nat} : Names X x1 c1 → Names X x2 c2 → Names X x3 c3 → Tst X (.Tuple [.Name x1 p1, .Name x2 p2, .Name x3 p3] k p) [c1, c2, c3]
  | four {x1 x2 x3 x4 : Str} {p1 p2 p3 p4 p : Pos} {c1 c2 c3 c4 : Value} {k : Nat} : Names X x1 c1 → Names X x2 c2 → Names X x3 c3 → Names X x4 c4 → Tst X (.Tuple [.Name x1 p1, .Name x2 p2, .Name x3 p3, .Name x4 p4] k p) [c1, c2, c3, c4]
abbrev Cla : Type := List Value × Nat × (Addr → Value → Option Addr → TS)
@[reducible] def endsI (i : Nat) (D : Ends) : Ends := { nx := fun σ' H' => D.nx (σ'.set i none) H', rt := D.rt, bk := fun σ' H' => D.bk (σ'.set i none) H', ct := fun σ' H' => D.ct (σ'.set i none) H' }
/-- what the clauses wish of an exception of the body -/
def wAll (K : PySem.W.Frag) (Wout : WX) (D : Ends) : List Cla → WX
  | [] => Wout
  | (cs, i, ts) :: r => fun cls d σ H => ∃ b, PySem.W.exmAny K cls cs = some b ∧ (b = true → ∀ a, H a = none → ts a cls d (endsI i D) (σ.set i (some (.ref a))) H) ∧ (b = false → wAll K Wout D r cls d σ H)
inductive HdA (X : Cx) : List ExceptHandler → List Cla → Prop
  | nil : HdA X [] []
  | cons {t : Expr} {n : Str} {i : Nat} {cs : List Value} {ts : Addr → Value → Option Addr → TS} {b₀ : Stmt} {suite : List Stmt} {pos' : Pos} {hds : List ExceptHandler} {l : List Cla} (T : Tst X t cs) (hi : X.N[i]? = some n) (hln : X.env.kindOf n = some .local)
      (hsu : ∀ (a : Addr) (oe : Obj) (cls : Value) (d : Option Addr) (pn : List (Addr × Obj)), L2N.Zn cls d oe → (∃ vs, oe.data = .fields vs) → PSs (X.suite a ((a, oe) :: pn)) (b₀ :: suite) (ts a cls d)) (r : HdA X hds l) :
      HdA X (.ExceptHandler (some t) (some n) (b₀ :: suite) pos' :: hds) ((cs, i, ts) :: l)
abbrev Dcl : Type := List Value × Nat × (Addr → Value → Option Addr → DTS)
@[reducible] def dWish (K : PySem.W.Frag) (D : DEnds) (x0 : DXS) : List Dcl → DXS
  | [] => x0
  | (cs, i, fs) :: r => fun cls fl vs M' => ∃ b, PySem.W.exmAny K cls cs = some b ∧ (b = true → ∀ a o, fs a cls o (endsU i D x0) ⟨vs.set i (some (.exo a cls o (fl.map (·.1)) (fl.map (·.2)))), noX⟩ M') ∧ (b = false → dWish K D x0 r cls fl vs M')
inductive DHd (X : Cx) : List ExceptHandler → List Dcl → Prop
  | nil : DHd X [] []
  | cons {t : Expr} {n : Str} {i : Nat} {cs : List Value} {fs : Addr → Value → Option Addr → DTS} {b₀ : Stmt} {suite : List Stmt} {pos' : Pos} {hds : List ExceptHandler} {l : List Dcl} (T : Tst X t cs) (hi : X.N[i]? = some n) (hln : X.env.kindOf n = some .local)
      (hsu : ∀ (a : Addr) (oe : Obj) (cls : Value) (d : Option Addr) (pn : List (Addr × Obj)), L2N.Zn cls d oe → (∃ vs, oe.data = .fields vs) → DSs (X.suite a ((a, oe) :: pn)) (b₀ :: suite) (fs a cls d)) (r : DHd X hds l) :
      DHd X (.ExceptHandler (some t) (some n) (b₀ :: suite) pos' :: hds) ((cs, i, fs) :: l)
def liftC (K : PySem.W.Frag) (c : Dcl) : Cla := (c.1, c.2.1, fun a cls d => LiftSN K (c.2.2 a cls d))
theorem DHd.hd {X : Cx} {hds : List ExceptHandler} {l : List Dcl} (h : DHd X hds l) : HdA X hds (l.map (liftC X.K)) := by
  induction h with
  | nil => exact .nil
  | cons T hi hln hsu r ih => exact .cons T hi hln (fun a oe cls d pn hz hd => PSs.of (hsu a oe cls d pn hz hd).ps fun E σ H h => LiftSN.of h) ih
theorem Tst.noc {X : Cx} {t : Expr} {cs : List Value} (h : Tst X t cs) {K : PySem.W.Frag} {C : Addr} {b : Bool} (e : PySem.W.exmAny K (ctxd C) cs = some b) : False := by
  cases h <;> (obtain ⟨b1, d1, x1, _, _⟩ := PySem.W.exmAny_cons e; exact exm_noc x1)
theorem DHd.noc {X : Cx} {h₀ : ExceptHandler} {hds : List ExceptHandler} {l : List Dcl} (h : DHd X (h₀ :: hds) l) {K : PySem.W.Frag} {Wout : WX} {D : Ends} : NoC (wAll K Wout D (l.map (liftC K))) := by
  cases h with
  | cons T hi hln hsu r => exact fun C d σ H ⟨b, e, _⟩ => T.noc e
theorem DHd.plain {X : Cx} {h₀ : ExceptHandler} {hds : List ExceptHandler} {l : List Dcl} (h : DHd X (h₀ :: hds) l) {K : PySem.W.Frag} {E : DEnds} {x0 : DXS} {cls : Value} {fl : List (Str × D)} {vs : List (Option D)} {M : Sto} (z : dWish K E x0 l cls fl vs M) : plainC cls := by
  cases h with
  | cons T hi hln hsu r =>
    obtain ⟨b, e, _⟩ := z
    exact fun C ec => T.noc (ec ▸ e)
theorem DHd.mono {X : Cx} {hds : List ExceptHandler} {l : List Dcl} (h : DHd X hds l) : ∀ c ∈ l, ∀ a cls d, MonoS (c.2.2 a cls d) := by
  induction h with
  | nil => exact fun c hc => nomatch hc
  | cons T hi hln hsu r ih =>
    intro c hc a cls d
    rcases List.mem_cons.mp hc with rfl | hc
    · exact (hsu a { cls := cls, dict := d, data := .fields #[.none, .none, .none] } cls d [] ⟨rfl, rfl, fun vs e => by cases e; rfl⟩ ⟨_, rfl⟩).mono
    · exact ih c hc a cls d
end DL
set_option maxHeartbeats 2000000
namespace DL
open PySem PySem.Spec PyProof.Rows L2
/-- a flat datum's value -/
def fV : D → Option V
  | .non => some .non
  | .bl b => some (.bl b)
  | .int i => some (.int i)
  | .str x => some (.str x)
  | _ => none
def fVs : List D → Option (List V)
  | [] => some []
  | d :: ds => match fV d, fVs ds with
    | some v, some vs => some (v :: vs)
    | _, _ => none
theorem fV_ok {K : PySem.W.Frag} {F : Hp} {al : List Addr} {v u : V} {d : D} (r : Rp K F al v d) (h : fV d = some u) : v = u ∧ flatV u = true := by
  cases r <;> cases h <;> exact ⟨rfl, rfl⟩
theorem fVs_ok {K : PySem.W.Frag} {F : Hp} {al : List Addr} : ∀ {ds : List D} {vs us : List V}, Rps K F al vs ds → fVs ds = some us → vs = us ∧ us.all flatV = true
  | [], _, _, .nil, h => by cases h; exact ⟨rfl, rfl⟩
  | d :: ds, _, _, .cons r rs, h => by
    unfold fVs at h
    split at h
    · next v vs e1 e2 =>
      cases h
      obtain ⟨rfl, h1⟩ := fV_ok r e1
      obtain ⟨rfl, h2⟩ := fVs_ok rs e2
      exact ⟨rfl, by rw [List.all_cons, h1, h2]; rfl⟩
    · cases h
@[reducible] def gIn (neg : Bool) : G2 := fun x y M Q => match fV x, (itemsOf y M).bind fVs with
  | some v, some vs => Q (.bl (if neg then !inV v vs else inV v vs)) M
  | _, _ => False
theorem gIn_mono (neg : Bool) : Mono2 (gIn neg) := fun x y M Q Q' w q => by
  unfold gIn at q ⊢
  split at q
  · exact w _ _ q
  · exact q.elim
section
variable {X : Cx}
theorem gIn_ok {neg : Bool} {K : PySem.W.Frag} {al : List Addr} {F G H : Hp} {M : Sto} {x y : V} {dx dy : D} {Q : VK} (W : Wd K al F G H M) (r1 : Rp K F al x dx) (r2 : Rp K F al y dy) (q : gIn neg dx dy M (kont K al F G Q)) : rIn K neg x y H Q := by
  unfold gIn at q
  split at q
  · next v vs e1 e2 =>
    obtain ⟨rfl, f1⟩ := fV_ok r1 e1
    cases e3 : itemsOf dy M with
    | none => rw [e3] at e2; cases e2
    | some ds =>
      rw [e3, Option.bind_some] at e2
      obtain ⟨a, xs, rfl, hs, rs⟩ := itemsOf_ok W r2 e3
      obtain ⟨rfl, f2⟩ := fVs_ok rs e2
      exact ⟨a, xs, rfl, hs.elim (fun h => .inr (SqT.of h)) (fun h => .inl (SqL.of h)), f1, f2, kont.here q W (.bl _)⟩
  · exact q.elim
theorem o_in (hu : X.A.units + 64 < cLine) : O2 X (compareOp .In) (gIn false) := O2.of op_in_seq (gIn_mono _) fun al F G H M x y dx dy Q W r1 r2 q => gIn_ok W r1 r2 q
end
end DL
namespace MT
abbrev Tr := List (Nat × Nat)
def TreeOk (t : Tr) : Prop := t.length ≤ 11 ∧ ∀ (k : Nat) (p : Nat × Nat), t[k]? = some p → p.1 ≤ k ∧ 1 ≤ p.2 ∧ p.2 ≤ 1000000
/-- the parent of a mark from 1 on; the length of its row -/
def par (t : Tr) (m : Nat) : Nat := min (t.getD (m - 1) (0, 0)).1 (m - 1)
def ln (t : Tr) (m : Nat) : Nat := (t.getD (m - 1) (0, 0)).2
theorem par_lt (t : Tr) {m : Nat} (h : 0 < m) : par t m < m := by unfold par; omega
theorem par_of {t : Tr} (ht : TreeOk t) {k : Nat} {p : Nat × Nat} (h : t[k]? = some p) : par t (k + 1) = p.1 ∧ ln t (k + 1) = p.2 := by
  have e : t.getD k (0, 0) = p := by rw [List.getD_eq_getElem?_getD, h]; rfl
  unfold par ln
  rw [Nat.add_sub_cancel, e]
  have := (ht.2 k p h).1
  exact ⟨by omega, rfl⟩
def dist (t : Tr) (i j : Nat) : Int := if i = j then 0 else if h : j < i then (ln t i : Int) + dist t (par t i) j else dist t i (par t j) + ln t j
termination_by i + j
decreasing_by
  · have := par_lt t (show 0 < i by omega); omega
  · have := par_lt t (show 0 < j by omega); omega
theorem dist_self (t : Tr) (i : Nat) : dist t i i = 0 := by rw [dist, if_pos rfl]
theorem dist_gt (t : Tr) {i j : Nat} (h : j < i) : dist t i j = ln t i + dist t (par t i) j := by rw [dist, if_neg (by omega), dif_pos h]
theorem dist_lt (t : Tr) {i j : Nat} (h : i < j) : dist t i j = dist t i (par t j) + ln t j := by rw [dist, if_neg (by omega), dif_neg (by omega)]
theorem dist_comm (t : Tr) (i j : Nat) : dist t i j = dist t j i := by
  rcases Nat.lt_trichotomy i j with h | h | h
  · have := par_lt t (show 0 < j by omega)
    rw [dist_lt t h, dist_gt t h, dist_comm t i (par t j)]
    omega
  · subst h; rfl
  · have := par_lt t (show 0 < i by omega)
    rw [dist_gt t h, dist_lt t h, dist_comm t (par t i) j]
    omega
termination_by i + j
theorem dist_nonneg (t : Tr) (i j : Nat) : 0 ≤ dist t i j := by
  rcases Nat.lt_trichotomy i j with h | h | h
  · have := par_lt t (show 0 < j by omega)
    have := dist_nonneg t i (par t j)
    rw [dist_lt t h]
    omega
  · subst h; rw [dist_self]; exact Int.le_refl _
  · have := par_lt t (show 0 < i by omega)
    have := dist_nonneg t (par t i) j
    rw [dist_gt t h]
    omega
termination_by i + j
theorem ln_le {t : Tr} (ht : TreeOk t) (m : Nat) : ln t m ≤ 1000000 := by
  unfold ln
  rw [List.getD_eq_getElem?_getD]
  cases e : t[m - 1]? with
  | none => exact Nat.zero_le _
  | some p => exact (ht.2 _ _ e).2.2
theorem dist_le {t : Tr} (ht : TreeOk t) (i j : Nat) : dist t i j ≤ (i + j : Nat) * 1000000 := by
  have hi := ln_le ht i
  have hj := ln_le ht j
  rcases Nat.lt_trichotomy i j with h | h | h
  · have h1 := par_lt t (show 0 < j by omega)
    have h2 := dist_le ht i (par t j)
    rw [dist_lt t h]
    omega
  · subst h; rw [dist_self]; omega
  · have h1 := par_lt t (show 0 < i by omega)
    have h2 := dist_le ht (par t i) j
    rw [dist_gt t h]
    omega
termination_by i + j
/-- the law's own way -/
def lway (t : Tr) (i j : Nat) : List Nat := if i = j then [i] else if h : j < i then i :: lway t (par t i) j else lway t i (par t j) ++ [j]
termination_by i + j
decreasing_by
  · have := par_lt t (show 0 < i by omega); omega
  · have := par_lt t (show 0 < j by omega); omega
theorem lway_self (t : Tr) (i : Nat) : lway t i i = [i] := by rw [lway, if_pos rfl]
theorem lway_gt (t : Tr) {i j : Nat} (h : j < i) : lway t i j = i :: lway t (par t i) j := by rw [lway, if_neg (by omega), dif_pos h]
theorem lway_lt (t : Tr) {i j : Nat} (h : i < j) : lway t i j = lway t i (par t j) ++ [j] := by rw [lway, if_neg (by omega), dif_neg (by omega)]
theorem lway_mem (t : Tr) (i j : Nat) : ∀ x ∈ lway t i j, x ≤ max i j := by
  intro x hx
  rcases Nat.lt_trichotomy i j with h | h | h
  · have h1 := par_lt t (show 0 < j by omega)
    rw [lway_lt t h, List.mem_append, List.mem_singleton] at hx
    rcases hx with hx | hx
    · have := lway_mem t i (par t j) x hx; omega
    · omega
  · subst h; rw [lway_self, List.mem_singleton] at hx; omega
  · have h1 := par_lt t (show 0 < i by omega)
    rw [lway_gt t h, List.mem_cons] at hx
    rcases hx with hx | hx
    · omega
    · have := lway_mem t (par t i) j x hx; omega
termination_by i + j
theorem lway_head (t : Tr) (i j : Nat) : ∃ r, lway t i j = i :: r := by
  rcases Nat.lt_trichotomy i j with h | h | h
  · have := par_lt t (show 0 < j by omega)
    obtain ⟨r, e⟩ := lway_head t i (par t j)
    rw [lway_lt t h, e]
    exact ⟨r ++ [j], rfl⟩
  · subst h; rw [lway_self]; exact ⟨[], rfl⟩
  · rw [lway_gt t h]; exact ⟨_, rfl⟩
termination_by i + j
theorem lway_last (t : Tr) (i j : Nat) : ∃ r, lway t i j = r ++ [j] := by
  rcases Nat.lt_trichotomy i j with h | h | h
  · rw [lway_lt t h]; exact ⟨_, rfl⟩
  · subst h; rw [lway_self]; exact ⟨[], rfl⟩
  · have := par_lt t (show 0 < i by omega)
    obtain ⟨r, e⟩ := lway_last t (par t i) j
    rw [lway_gt t h, e]
    exact ⟨i :: r, rfl⟩
termination_by i + j
end MT
namespace MT
theorem lway_len' (t : Tr) (i j : Nat) : (lway t i j).length ≤ max i j + 1 := by
  induction h : i + j using Nat.strongRecOn generalizing i j with
  | _ n ih =>
    by_cases h1 : i = j
    · subst h1; rw [lway_self]; simp
    · by_cases h2 : j < i
      · rw [lway_gt t h2]
        have hp := par_lt t (show 0 < i by omega)
        have := ih (par t i + j) (by omega) (par t i) j rfl
        rw [List.length_cons]
        omega
      · rw [lway_lt t (show i < j by omega)]
        have hp := par_lt t (show 0 < j by omega)
        have := ih (i + par t j) (by omega) i (par t j) rfl
        rw [List.length_append, List.length_singleton]
        omega
def steps (t : Tr) (i j : Nat) : Nat := (lway t i j).length - 1
theorem steps_self (t : Tr) (i : Nat) : steps t i i = 0 := by unfold steps; rw [lway_self]; rfl
theorem steps_le (t : Tr) (i j : Nat) : steps t i j ≤ max i j := by unfold steps; have := lway_len' t i j; omega
/-- along a row the distance changes by its length -/
theorem dist_edge (t : Tr) (i v : Nat) (hv : 0 < v) : dist t i v = dist t i (par t v) + ln t v ∨ dist t i (par t v) = dist t i v + ln t v := by
  induction i using Nat.strongRecOn with
  | _ i ih =>
    by_cases h1 : i < v
    · exact .inl (dist_lt t h1)
    · by_cases h2 : i = v
      · subst h2
        have hp := par_lt t hv
        right
        rw [dist_self, dist_gt t hp, dist_self]
        omega
      · have hp := par_lt t (show 0 < i by omega)
        have hpv := par_lt t hv
        have := ih _ hp
        rw [dist_gt t (show v < i by omega), dist_gt t (show par t v < i by omega)]
        omega
/-- the last row of a way -/
theorem last_edge (t : Tr) (i v : Nat) (h : i ≠ v) : ∃ q, lway t i v = lway t i q ++ [v] ∧ ((0 < v ∧ q = par t v ∧ dist t i v = dist t i q + ln t v) ∨ (0 < q ∧ q ≤ max i v ∧ v = par t q ∧ dist t i v = dist t i q + ln t q)) := by
  induction i using Nat.strongRecOn with
  | _ i ih =>
    by_cases h1 : i < v
    · exact ⟨par t v, lway_lt t h1, .inl ⟨by omega, rfl, dist_lt t h1⟩⟩
    · have hi : v < i := by omega
      have hp := par_lt t (show 0 < i by omega)
      by_cases h2 : par t i = v
      · refine ⟨i, ?_, .inr ⟨by omega, by omega, h2.symm, ?_⟩⟩
        · rw [lway_gt t hi, h2, lway_self, lway_self]
          rfl
        · rw [dist_gt t hi, h2, dist_self, dist_self]
          omega
      · obtain ⟨q, e, hq⟩ := ih _ hp h2
        have hqm : q ∈ lway t (par t i) v := by
          rw [e]
          obtain ⟨r, er⟩ := lway_last t (par t i) q
          rw [er]
          simp
        have hql := lway_mem t _ _ q hqm
        have hqi : q < i := by omega
        refine ⟨q, ?_, ?_⟩
        · rw [lway_gt t hi, e, lway_gt t hqi]
          rfl
        · rw [dist_gt t hi, dist_gt t hqi]
          rcases hq with ⟨a, b, c⟩ | ⟨a, b, c, d⟩
          · exact .inl ⟨a, b, by omega⟩
          · exact .inr ⟨a, by omega, c, by omega⟩
theorem lway_pos (t : Tr) (i j : Nat) : 0 < (lway t i j).length := by
  obtain ⟨r, e⟩ := lway_head t i j
  rw [e]; simp
theorem steps_last {t : Tr} {i v q : Nat} (e : lway t i v = lway t i q ++ [v]) : steps t i v = steps t i q + 1 := by
  unfold steps
  have := lway_pos t i q
  rw [e, List.length_append, List.length_singleton]
  omega
theorem dist_tri (t : Tr) (i k j : Nat) : dist t i j ≤ dist t i k + dist t k j := by
  induction h : steps t k j generalizing j with
  | zero =>
    by_cases hk : k = j
    · subst hk; rw [dist_self]; omega
    · obtain ⟨q, e, _⟩ := last_edge t k j hk
      have := steps_last e
      omega
  | succ n ih =>
    by_cases hk : k = j
    · subst hk; rw [dist_self]; omega
    · obtain ⟨q, e, hq⟩ := last_edge t k j hk
      have h1 := steps_last e
      have h2 := ih q (by omega)
      rcases hq with ⟨a, b, c⟩ | ⟨a, b, c, d⟩
      · subst b
        have := dist_edge t i j a
        omega
      · subst c
        have := dist_edge t i q a
        omega
def mn (a b : Int) : Int := if b < a then b else a
theorem mn_le (a b : Int) : mn a b ≤ a ∧ mn a b ≤ b ∧ (mn a b = a ∨ mn a b = b) := by unfold mn; split <;> omega
theorem getD_set (xs : List Int) (i j : Nat) (v : Int) : (xs.set i v).getD j 0 = if i = j ∧ j < xs.length then v else xs.getD j 0 := by
  rw [List.getD_eq_getElem?_getD, List.getD_eq_getElem?_getD]
  by_cases h : i = j
  · subst h
    by_cases hl : i < xs.length
    · rw [List.getElem?_set_self hl, if_pos ⟨rfl, hl⟩]; rfl
    · rw [if_neg (fun z => hl z.2), List.getElem?_eq_none (by rw [List.length_set]; omega), List.getElem?_eq_none (by omega)]
  · rw [List.getElem?_set_ne h, if_neg (fun z => h z.1)]
def rl1 (xs : List Int) (k : Nat) (r : Nat × Nat) : List Int := xs.set (k + 1) (mn (xs.getD (k + 1) 0) (xs.getD r.1 0 + r.2))
def rl2 (xs : List Int) (k : Nat) (r : Nat × Nat) : List Int := xs.set r.1 (mn (xs.getD r.1 0) (xs.getD (k + 1) 0 + r.2))
structure FarInv (t : Tr) (m j k : Nat) (xs : List Int) : Prop where
  len : xs.length = t.length + 1
  low : ∀ v, v ≤ t.length → dist t m v ≤ xs.getD v 0
  top : ∀ v, v ≤ t.length → xs.getD v 0 ≤ 1000000000000
  fit : ∀ v, v ≤ t.length → steps t m v ≤ j → xs.getD v 0 = dist t m v
  row : ∀ k', k' < k → (steps t m (par t (k' + 1)) ≤ j → xs.getD (k' + 1) 0 ≤ dist t m (par t (k' + 1)) + ln t (k' + 1)) ∧ (steps t m (k' + 1) ≤ j → xs.getD (par t (k' + 1)) 0 ≤ dist t m (k' + 1) + ln t (k' + 1))
theorem steps_zero {t : Tr} {m v : Nat} (h : steps t m v = 0) : m = v := by
  by_cases hk : m = v
  · exact hk
  · obtain ⟨q, e, _⟩ := last_edge t m v hk
    have := steps_last e
    omega
theorem FarInv.start {t : Tr} (ht : TreeOk t) {m : Nat} (hm : m ≤ t.length) : FarInv t m 0 0 ((List.replicate (t.length + 1) 1000000000000).set m 0) := by
  have hg : ∀ v, v ≤ t.length → ((List.replicate (t.length + 1) (1000000000000 : Int)).set m 0).getD v 0 = if m = v then 0 else 1000000000000 := by
    intro v hv
    rw [getD_set]
    by_cases h : m = v
    · rw [if_pos ⟨h, by rw [List.length_replicate]; omega⟩, if_pos h]
    · rw [if_neg (fun z => h z.1), if_neg h, List.getD_eq_getElem?_getD, List.getElem?_replicate, if_pos (by omega)]
      rfl
  have ht1 := ht.1
  refine ⟨by simp, fun v hv => ?_, fun v hv => ?_, fun v hv hs => ?_, fun k' h => by omega⟩
  · rw [hg v hv]
    split
    · next h => subst h; rw [dist_self]; omega
    · have := dist_le ht m v; omega
  · rw [hg v hv]; split <;> omega
  · have h := steps_zero (Nat.le_zero.mp hs)
    rw [hg v hv, if_pos h, ← h, dist_self]
theorem FarInv.dec {t : Tr} {m j k i : Nat} {xs : List Int} {z : Int} (F : FarInv t m j k xs) (hi : i ≤ t.length) (h1 : z ≤ xs.getD i 0) (h2 : dist t m i ≤ z) : FarInv t m j k (xs.set i z) := by
  have hg : ∀ v, v ≤ t.length → (xs.set i z).getD v 0 = if i = v then z else xs.getD v 0 := fun v hv => by
    rw [getD_set]
    by_cases h : i = v
    · rw [if_pos ⟨h, by rw [F.len]; omega⟩, if_pos h]
    · rw [if_neg (fun q => h q.1), if_neg h]
  have hle : ∀ v, (xs.set i z).getD v 0 ≤ xs.getD v 0 := fun v => by
    rw [getD_set]
    split
    · next h => rw [← h.1]; exact h1
    · exact Int.le_refl _
  refine ⟨by rw [List.length_set]; exact F.len, fun v hv => ?_, fun v hv => Int.le_trans (hle v) (F.top v hv), fun v hv hs => ?_, fun k' hk => ⟨fun q => Int.le_trans (hle _) ((F.row k' hk).1 q), fun q => Int.le_trans (hle _) ((F.row k' hk).2 q)⟩⟩
  · rw [hg v hv]
    split
    · next h => rw [← h]; exact h2
    · exact F.low v hv
  · have e := F.fit v hv hs
    rw [hg v hv]
    split
    · next h => subst h; omega
    · exact e
theorem FarInv.step {t : Tr} (ht : TreeOk t) {m j k : Nat} {xs : List Int} (F : FarInv t m j k xs) {r : Nat × Nat} (hr : t[k]? = some r) : FarInv t m j k (rl1 xs k r) ∧ FarInv t m j (k + 1) (rl2 (rl1 xs k r) k r) := by
  obtain ⟨ep, el⟩ := par_of ht hr
  have hk : k < t.length := (List.getElem?_eq_some_iff.mp hr).1
  have hp := (ht.2 k r hr).1
  have ed := dist_edge t m (k + 1) (by omega)
  rw [ep, el] at ed
  have l1 := F.low (k + 1) (by omega)
  have l2 := F.low r.1 (by omega)
  have m1 := mn_le (xs.getD (k + 1) 0) (xs.getD r.1 0 + r.2)
  have F1 : FarInv t m j k (rl1 xs k r) := F.dec (by omega) m1.1 (by omega)
  have g1 : (rl1 xs k r).getD (k + 1) 0 = mn (xs.getD (k + 1) 0) (xs.getD r.1 0 + r.2) := by
    unfold rl1; rw [getD_set, if_pos ⟨rfl, by rw [F.len]; omega⟩]
  have l3 := F1.low (k + 1) (by omega)
  have l4 := F1.low r.1 (by omega)
  have m2 := mn_le ((rl1 xs k r).getD r.1 0) ((rl1 xs k r).getD (k + 1) 0 + r.2)
  have F2 : FarInv t m j k (rl2 (rl1 xs k r) k r) := F1.dec (by omega) m2.1 (by omega)
  refine ⟨F1, F2.len, F2.low, F2.top, F2.fit, fun k' hk' => ?_⟩
  by_cases e : k' = k
  · subst e
    rw [ep, el]
    have ne : r.1 ≠ k' + 1 := by omega
    have g2 : (rl2 (rl1 xs k' r) k' r).getD (k' + 1) 0 = (rl1 xs k' r).getD (k' + 1) 0 := by
      unfold rl2; rw [getD_set, if_neg (fun z => ne z.1)]
    have g3 : (rl2 (rl1 xs k' r) k' r).getD r.1 0 = mn ((rl1 xs k' r).getD r.1 0) ((rl1 xs k' r).getD (k' + 1) 0 + r.2) := by
      unfold rl2; rw [getD_set, if_pos ⟨rfl, by rw [F1.len]; omega⟩]
    refine ⟨fun q => ?_, fun q => ?_⟩
    · rw [g2, g1]
      have := F.fit r.1 (by omega) q
      omega
    · rw [g3]
      have := F1.fit (k' + 1) (by omega) q
      omega
  · exact F2.row k' (by omega)
theorem FarInv.next {t : Tr} (ht : TreeOk t) {m j : Nat} (hm : m ≤ t.length) {xs : List Int} (F : FarInv t m j t.length xs) : FarInv t m (j + 1) 0 xs := by
  refine ⟨F.len, F.low, F.top, fun v hv hs => ?_, fun k' h => by omega⟩
  by_cases hk : m = v
  · subst hk
    exact F.fit _ hv (by rw [steps_self]; omega)
  · obtain ⟨q, e, hq⟩ := last_edge t m v hk
    have h1 := steps_last e
    have lo := F.low v hv
    rcases hq with ⟨a, b, c⟩ | ⟨a, b, c, d⟩
    · subst b
      have := (F.row (v - 1) (by omega)).1
      rw [show v - 1 + 1 = v by omega] at this
      have := this (by omega)
      omega
    · have := (F.row (q - 1) (by omega)).2
      rw [show q - 1 + 1 = q by omega, ← c] at this
      have := this (by omega)
      omega
theorem FarInv.done {t : Tr} {m : Nat} (hm : m ≤ t.length) {xs : List Int} (F : FarInv t m t.length 0 xs) : xs = (List.range (t.length + 1)).map (dist t m) := by
  apply List.ext_getElem?
  intro v
  by_cases hv : v ≤ t.length
  · have := F.fit v hv (by have := steps_le t m v; omega)
    rw [List.getElem?_map, List.getElem?_range (by omega)]
    have hl : v < xs.length := by rw [F.len]; omega
    rw [List.getD_eq_getElem?_getD, List.getElem?_eq_getElem hl] at this
    rw [List.getElem?_eq_getElem hl]
    exact congrArg some this
  · rw [List.getElem?_eq_none (by rw [F.len]; omega), List.getElem?_eq_none (by simp; omega)]
end MT
namespace MT
open DL (minI maxI minI_le minI_mem le_maxI maxI_mem minI_uniq maxI_uniq)
abbrev Wn := List (Int × Option Int)
def Win1 (w : Int × Option Int) : Prop := 0 ≤ w.1 ∧ w.1 ≤ 1000000000 ∧ ∀ l, w.2 = some l → w.1 ≤ l ∧ l ≤ 1000000000
def WinOk (t : Tr) (ws : Wn) : Prop := ws.length = t.length + 1 ∧ ∀ w ∈ ws, Win1 w
theorem row_dist {t : Tr} (ht : TreeOk t) {k : Nat} {p : Nat × Nat} (h : t[k]? = some p) : dist t (k + 1) p.1 = p.2 := by
  have h1 := par_of ht h
  have h2 := (ht.2 k p h).1
  rw [dist_gt t (by omega), h1.1, h1.2, dist_self]
  omega
def lastsAt (t : Tr) (ws : Wn) (i : Nat) : List Int := ws.zipIdx.filterMap fun q => q.1.2.map fun l => l + dist t i q.2
theorem mem_lasts {t : Tr} {ws : Wn} {i : Nat} {x : Int} : x ∈ lastsAt t ws i ↔ ∃ k w l, ws[k]? = some w ∧ w.2 = some l ∧ x = l + dist t i k := by
  unfold lastsAt
  rw [List.mem_filterMap]
  constructor
  · rintro ⟨⟨w, k⟩, h, e⟩
    obtain ⟨n, hn, e1⟩ := List.getElem_of_mem h
    have h2 : ws.zipIdx[n]? = some (w, k) := by rw [List.getElem?_eq_getElem hn, e1]
    rw [List.getElem?_zipIdx] at h2
    cases e3 : ws[n]? with
    | none => rw [e3] at h2; cases h2
    | some v =>
      rw [e3] at h2
      simp at h2
      cases e4 : w.2 with
      | none => dsimp only at e; rw [e4] at e; cases e
      | some l =>
        dsimp only at e
        rw [e4] at e
        cases e
        exact ⟨k, w, l, by rw [← h2.2, e3, h2.1], e4, rfl⟩
  · rintro ⟨k, w, l, h, hl, rfl⟩
    refine ⟨(w, k), ?_, by dsimp only; rw [hl]; rfl⟩
    have : ws.zipIdx[k]? = some (w, k) := by rw [List.getElem?_zipIdx, h]; simp
    exact List.mem_of_getElem? this
structure Fits (t : Tr) (ws : Wn) (xs : List Int) : Prop where
  len : xs.length = ws.length
  low : ∀ (i : Nat) (x : Int) (w : Int × Option Int), xs[i]? = some x → ws[i]? = some w → w.1 ≤ x ∧ x ≤ 2000000000
  high : ∀ (i : Nat) (x l : Int) (w : Int × Option Int), xs[i]? = some x → ws[i]? = some w → w.2 = some l → x ≤ l
  row : ∀ (k : Nat) (p : Nat × Nat), t[k]? = some p → xs.getD (k + 1) 0 - xs.getD p.1 0 ≤ p.2 ∧ xs.getD p.1 0 - xs.getD (k + 1) 0 ≤ p.2
def lasts2 (ws : Wn) : List (Nat × Int) := ws.zipIdx.filterMap fun q => q.1.2.map fun l => (q.2, l)
theorem lastsAt_eq (t : Tr) (ws : Wn) (i : Nat) : lastsAt t ws i = (lasts2 ws).map fun p => p.2 + dist t i p.1 := by
  unfold lastsAt lasts2
  rw [List.map_filterMap]
  congr 1
  funext q
  cases q.1.2 <;> rfl
theorem lastsAt_nil {t : Tr} {ws : Wn} {i : Nat} : lastsAt t ws i = [] ↔ lasts2 ws = [] := by rw [lastsAt_eq, List.map_eq_nil_iff]
def latI (t : Tr) (ws : Wn) (i : Nat) : Int := minI (lastsAt t ws i)
theorem latI_ge {t : Tr} {ws : Wn} {i : Nat} {b : Int} (hn : lasts2 ws ≠ []) (h : ∀ k w l, ws[k]? = some w → w.2 = some l → b ≤ l + dist t i k) : b ≤ latI t ws i := by
  obtain ⟨k, w, l, e1, e2, e3⟩ := mem_lasts.mp (minI_mem fun e => hn (lastsAt_nil (t := t) (i := i) |>.mp e))
  show b ≤ minI _
  rw [e3]
  exact h k w l e1 e2
end MT
namespace MT
open DL (minI maxI minI_le minI_mem le_maxI maxI_mem minI_uniq maxI_uniq)
theorem tab_lip {t : Tr} (ht : TreeOk t) {xs : List Int} (h : ∀ (k : Nat) (p : Nat × Nat), t[k]? = some p → xs.getD (k + 1) 0 - xs.getD p.1 0 ≤ p.2 ∧ xs.getD p.1 0 - xs.getD (k + 1) 0 ≤ p.2) :
    ∀ (n i j : Nat), i + j ≤ n → i ≤ t.length → j ≤ t.length → xs.getD i 0 ≤ xs.getD j 0 + dist t i j
  | 0, i, j, hn, hi, hj => by
    have h1 : i = 0 := by omega
    have h2 : j = 0 := by omega
    subst h1
    subst h2
    rw [dist_self]
    omega
  | n + 1, i, j, hn, hi, hj => by
    by_cases e : i = j
    · subst e
      rw [dist_self]
      omega
    · by_cases hlt : j < i
      · have hk : i - 1 < t.length := by omega
        have ek := List.getElem?_eq_getElem hk
        have hp := par_of ht ek
        have hq := (ht.2 _ _ ek).1
        rw [show i - 1 + 1 = i by omega] at hp
        have hr := h _ _ ek
        rw [show i - 1 + 1 = i by omega] at hr
        have ih := tab_lip ht h n (par t i) j (by rw [hp.1]; omega) (by rw [hp.1]; omega) hj
        rw [dist_gt t hlt, hp.2]
        rw [hp.1] at ih ⊢
        omega
      · have hlt : i < j := by omega
        have hk : j - 1 < t.length := by omega
        have ek := List.getElem?_eq_getElem hk
        have hp := par_of ht ek
        have hq := (ht.2 _ _ ek).1
        rw [show j - 1 + 1 = j by omega] at hp
        have hr := h _ _ ek
        rw [show j - 1 + 1 = j by omega] at hr
        have ih := tab_lip ht h n i (par t j) (by rw [hp.1]; omega) hi (by rw [hp.1]; omega)
        rw [dist_lt t hlt, hp.2]
        rw [hp.1] at ih ⊢
        omega
theorem Fits.lip {t : Tr} (ht : TreeOk t) {ws : Wn} {xs : List Int} (h : Fits t ws xs) {i j : Nat} (hi : i ≤ t.length) (hj : j ≤ t.length) : xs.getD i 0 ≤ xs.getD j 0 + dist t i j := tab_lip ht h.row (i + j) i j (Nat.le_refl _) hi hj
theorem get_of {xs : List Int} {i : Nat} (h : i < xs.length) : xs[i]? = some (xs.getD i 0) := by rw [List.getD_eq_getElem?_getD, List.getElem?_eq_getElem h]; rfl
theorem Fits.le {t : Tr} (ht : TreeOk t) {ws : Wn} (hw : WinOk t ws) {xs : List Int} (h : Fits t ws xs) (hn : lasts2 ws ≠ []) {i : Nat} (hi : i ≤ t.length) : xs.getD i 0 ≤ latI t ws i := latI_ge hn fun k w l e el => by
  have hk := (List.getElem?_eq_some_iff.mp e).1
  have hwl := hw.1
  have hxl := h.len
  have h1 := h.high k _ l w (get_of (by omega)) e el
  have h2 := h.lip ht (i := i) (j := k) hi (by omega)
  omega
end MT
namespace DL
open PySem PySem.Spec PyProof.Rows L2 MT
@[reducible] def rowD (p : Nat × Nat) : D := .tup [.int p.1, .int p.2]
@[reducible] def treeD (t : Tr) : D := .tup (t.map rowD)
@[reducible] def natD (n : Nat) : D := .int n
theorem tree_at {t : Tr} {i : Int} {k : Nat} (e : i = k) {p : Nat × Nat} (h : t[k]? = some p) : atI (t.map rowD) i = some (rowD p) := atI_of e (by rw [List.getElem?_map, h]; rfl)
theorem tree_get {t : Tr} {m : Nat} (ht : TreeOk t) (h0 : 0 < m) (h1 : m ≤ t.length) : ∃ p, t[m - 1]? = some p ∧ par t m = p.1 ∧ ln t m = p.2 ∧ p.1 < m := by
  have hl : m - 1 < t.length := by omega
  refine ⟨t[m - 1], List.getElem?_eq_getElem hl, ?_⟩
  have := par_of ht (List.getElem?_eq_getElem hl)
  rw [show m - 1 + 1 = m by omega] at this
  have hp := (ht.2 _ _ (List.getElem?_eq_getElem hl)).1
  exact ⟨this.1, this.2, by omega⟩
theorem tree_snoc {t : Tr} (ht : TreeOk t) (hl : t.length ≤ 10) {p l : Nat} (hp : p ≤ t.length) (h1 : 1 ≤ l) (h2 : l ≤ 1000000) : TreeOk (t ++ [(p, l)]) := by
  refine ⟨by rw [List.length_append, List.length_singleton]; omega, fun k q e => ?_⟩
  by_cases hk : k < t.length
  · rw [List.getElem?_append_left hk] at e
    exact ht.2 k q e
  · rw [List.getElem?_append_right (by omega)] at e
    have hk0 : k - t.length = 0 := by
      have := (List.getElem?_eq_some_iff.mp e).1
      rw [List.length_singleton] at this
      omega
    rw [hk0] at e
    cases e
    exact ⟨by show p ≤ k; omega, h1, h2⟩
theorem intsOf_ints (ns : List Int) : intsOf (ns.map D.int) = some ns := by
  induction ns with
  | nil => rfl
  | cons n ns ih => rw [List.map_cons, intsOf, ih]; rfl
theorem bels_int (n : Nat) (xs : List Int) : bels n (xs.map D.int) = true := bels_of fun d hd => by
  obtain ⟨i, _, rfl⟩ := List.mem_map.mp hd
  rfl
theorem See.drop' {n : Nat} {Q : DK} {d : D} (M : Sto) {M' : Sto} (hn : M.length = n) (hd : bel n d = true) (hb : stoBel n M) (h : Q d M) : See n Q d (M ++ M') := by
  subst hn
  exact See.drop hd hb h
theorem get_mid (M : Sto) (c : Cell) (G : Sto) : (M ++ c :: G)[M.length]? = some c := by rw [List.getElem?_append_right (Nat.le_refl _)]; simp
theorem set_mid (M : Sto) (c d : Cell) (G : Sto) : (M ++ c :: G).set M.length d = M ++ d :: G := by rw [List.set_append_right _ _ (Nat.le_refl _)]; simp
theorem ints_at' {xs : List Int} {i : Nat} {z : Int} (e : z = i) (h : i < xs.length) : atI (xs.map D.int) z = some (.int (xs.getD i 0)) :=
  atI_of e (by rw [List.getElem?_map, List.getElem?_eq_getElem h, List.getD_eq_getElem?_getD, List.getElem?_eq_getElem h]; rfl)
theorem rep_flat (k : Nat) (d : D) : (List.replicate k [d]).flatten = List.replicate k d := by
  induction k with
  | zero => rfl
  | succ k ih => rw [List.replicate_succ, List.flatten_cons, ih, List.replicate_succ]; rfl
theorem map_at {α : Type} {f : α → D} {xs : List α} {i : Int} {k : Nat} {x : α} (e : i = k) (h : xs[k]? = some x) : atI (xs.map f) i = some (f x) := atI_of e (by rw [List.getElem?_map, h]; rfl)
@[reducible] def optD : Option Int → D
  | none => .non
  | some i => .int i
@[reducible] def winD (w : Int × Option Int) : D := .tup [.int w.1, optD w.2]
@[reducible] def winsD (ws : Wn) : D := .tup (ws.map winD)
theorem sh_nat {n : Nat} (h : n ≤ 100) : Sh 13 0 (natD n) := .int (by have : (n : Int).natAbs = n := rfl; omega)
theorem sh_tree {t : Tr} (ht : TreeOk t) : Sh 400 2 (treeD t) := by
  refine (Sh.tup (n := 33) (h := 1) (m := 11) (fun d hd => ?_) (by rw [List.length_map]; exact ht.1)).up (by decide) (by decide)
  obtain ⟨p, hp, rfl⟩ := List.mem_map.mp hd
  obtain ⟨k, hk, e⟩ := List.getElem_of_mem hp
  have hb := ht.2 k p (by rw [List.getElem?_eq_getElem hk, e])
  have ht1 := ht.1
  refine (Sh.tup (n := 13) (h := 0) (m := 2) (ds := [natD p.1, natD p.2]) (fun x hx => ?_) (Nat.le_refl 2)).up (by decide) (by decide)
  have : x = natD p.1 ∨ x = natD p.2 := by simpa using hx
  rcases this with rfl | rfl
  · exact .int (by have : ((p.1 : Nat) : Int).natAbs = p.1 := rfl; omega)
  · exact .int (by have : ((p.2 : Nat) : Int).natAbs = p.2 := rfl; omega)
theorem sh_pair {n h : Nat} {x : D} (hx : Sh n h x) : Sh (2 * (n + 2) + 3) (h + 1) (.lst [x, x]) := Sh.lst (fun d hd => by
  have : d = x := by simpa using hd
  rw [this]
  exact hx) (Nat.le_refl 2)
def spLaw : DSp := fun args M Q _ => ∃ ns, args = [.scr ns] ∧ M = [] ∧ ns.length ≤ 63 ∧ ∀ M', Q (.bl true) M'
theorem sh_two {n h : Nat} {x y : D} (hx : Sh n h x) (hy : Sh n h y) : Sh (2 * (n + 2) + 3) (h + 1) (.lst [x, y]) := Sh.lst (fun d hd => by
  have : d = x ∨ d = y := by simpa using hd
  rcases this with rfl | rfl
  · exact hx
  · exact hy) (Nat.le_refl 2)
theorem sh_win {w : Int × Option Int} (h : Win1 w) : Sh 33 1 (winD w) := by
  obtain ⟨h1, h2, h3⟩ := h
  refine (Sh.tup (n := 13) (h := 0) (m := 2) (ds := [.int w.1, optD w.2]) (fun z hz => ?_) (Nat.le_refl 2)).up (by decide) (by decide)
  have : z = .int w.1 ∨ z = optD w.2 := by simpa using hz
  rcases this with rfl | rfl
  · exact .int (by omega)
  · cases e : w.2 with
    | none => exact Sh.non.up (by decide) (by decide)
    | some l => have := h3 l e; exact .int (by omega)
theorem sh_wins {t : Tr} (ht : TreeOk t) {ws : Wn} (h : WinOk t ws) : Sh 500 2 (winsD ws) := by
  have ht1 := ht.1
  have hl := h.1
  refine (Sh.tup (n := 33) (h := 1) (m := 12) (fun d hd => ?_) (by rw [List.length_map]; omega)).up (by decide) (by decide)
  obtain ⟨p, hp, rfl⟩ := List.mem_map.mp hd
  exact sh_win (h.2 p hp)
theorem getD_mem {xs : List Int} {j : Nat} (h : j < xs.length) : xs.getD j 0 ∈ xs := by
  rw [List.getD_eq_getElem?_getD, List.getElem?_eq_getElem h]
  exact List.getElem_mem h
theorem tyNm_non (M : Sto) : tyNm .non M = some "NoneType" := rfl
theorem tyNm_bl (b : Bool) (M : Sto) : tyNm (.bl b) M = some "bool" := rfl
theorem tyNm_int (i : Int) (M : Sto) : tyNm (.int i) M = some "int" := rfl
theorem tyNm_str (x : Str) (M : Sto) : tyNm (.str x) M = some "str" := rfl
theorem tyNm_tup (ds : List D) (M : Sto) : tyNm (.tup ds) M = some "tuple" := rfl
theorem tyNm_lst (ds : List D) (M : Sto) : tyNm (.lst ds) M = some "list" := rfl
theorem tyNm_dct (ks : List Key) (ds : List D) (M : Sto) : tyNm (.dct ks ds) M = some "dict" := rfl
theorem tabInt_NoneType : tabInt "NoneType" = false := by decide
theorem tabInt_bool : tabInt "bool" = true := by decide
theorem tabInt_int : tabInt "int" = true := by decide
theorem tabInt_str : tabInt "str" = false := by decide
theorem tabInt_tuple : tabInt "tuple" = false := by decide
theorem tabInt_list : tabInt "list" = false := by decide
theorem tabInt_dict : tabInt "dict" = false := by decide
theorem tabBool_NoneType : tabBool "NoneType" = false := by decide
theorem tabBool_bool : tabBool "bool" = true := by decide
theorem tabBool_int : tabBool "int" = false := by decide
theorem tabBool_str : tabBool "str" = false := by decide
theorem tabBool_tuple : tabBool "tuple" = false := by decide
theorem tabBool_list : tabBool "list" = false := by decide
theorem tabBool_dict : tabBool "dict" = false := by decide
theorem tabTuple_NoneType : tabTuple "NoneType" = false := by decide
theorem tabTuple_bool : tabTuple "bool" = false := by decide
theorem tabTuple_int : tabTuple "int" = false := by decide
theorem tabTuple_str : tabTuple "str" = false := by decide
theorem tabTuple_tuple : tabTuple "tuple" = true := by decide
theorem tabTuple_list : tabTuple "list" = false := by decide
theorem tabTuple_dict : tabTuple "dict" = false := by decide
theorem tabStr_NoneType : tabStr "NoneType" = false := by decide
theorem tabStr_bool : tabStr "bool" = false := by decide
theorem tabStr_int : tabStr "int" = false := by decide
theorem tabStr_str : tabStr "str" = true := by decide
theorem tabStr_tuple : tabStr "tuple" = false := by decide
theorem tabStr_list : tabStr "list" = false := by decide
theorem tabStr_dict : tabStr "dict" = false := by decide
theorem tabList_NoneType : tabList "NoneType" = false := by decide
theorem tabList_bool : tabList "bool" = false := by decide
theorem tabList_int : tabList "int" = false := by decide
theorem tabList_str : tabList "str" = false := by decide
theorem tabList_tuple : tabList "tuple" = false := by decide
theorem tabList_list : tabList "list" = true := by decide
theorem tabList_dict : tabList "dict" = false := by decide
theorem vw_tup (ds : List D) (M : Sto) : vw (.tup ds) M = .tup ds := rfl
theorem vw_lst (ds : List D) (M : Sto) : vw (.lst ds) M = .lst ds := rfl
theorem vw_int (i : Int) (M : Sto) : vw (.int i) M = .int i := rfl
theorem vw_str (x : Str) (M : Sto) : vw (.str x) M = .str x := rfl
theorem vw_bl (b : Bool) (M : Sto) : vw (.bl b) M = .bl b := rfl
theorem vw_non (M : Sto) : vw .non M = .non := rfl
theorem get_ga (M G : Sto) (a : Cell) (r : Sto) : (M ++ (G ++ a :: r))[M.length + G.length]? = some a := by
  rw [← List.append_assoc, ← List.length_append]
  exact get_mid (M ++ G) a r
theorem get_gb (M G : Sto) (a b : Cell) (r : Sto) : (M ++ (G ++ a :: b :: r))[M.length + G.length + 1]? = some b := by
  have := get_ga M (G ++ [a]) b r
  rw [List.append_assoc, List.length_append, List.length_singleton] at this
  exact this
theorem set_ga (M G : Sto) (a c : Cell) (r : Sto) : (M ++ (G ++ a :: r)).set (M.length + G.length) c = M ++ (G ++ c :: r) := by
  rw [← List.append_assoc, ← List.length_append, set_mid, List.append_assoc]
theorem set_gb (M G : Sto) (a b c : Cell) (r : Sto) : (M ++ (G ++ a :: b :: r)).set (M.length + G.length + 1) c = M ++ (G ++ a :: c :: r) := by
  have := set_ga M (G ++ [a]) b c r
  rw [List.append_assoc, List.append_assoc, List.length_append, List.length_singleton] at this
  exact this
theorem range_2 : List.range 2 = [0, 1] := rfl
theorem lc_filL {α : Type} {st : Sto → Prop} {step : D → Sto → (Option D → Sto → Prop) → Prop} (g : α → D) (f : α → Option D) {L : List α} {M : Sto} {Q : List D → Sto → Prop} (hst : st M) (hl : L.length ≤ 100000) (hs : ∀ x ∈ L, ∀ k : Option D → Sto → Prop, k (f x) M → step (g x) M k) (q : Q (L.filterMap f) M) : lcI st step (L.map g) M Q := by
  have lf : ∀ n, ((L.take n).filterMap f).length ≤ n := fun n => Nat.le_trans (List.length_filterMap_le _ _) (by rw [List.length_take]; omega)
  refine ⟨fun done todo acc M' => done ++ todo = L.map g ∧ M' = M ∧ acc = (L.take done.length).filterMap f, ⟨rfl, rfl, rfl⟩, fun _ _ _ M' h => by rw [h.2.1]; exact hst, ?_, ?_⟩
  · rintro done d todo acc M' ⟨e, rfl, rfl⟩
    obtain ⟨x, hx, rfl, hlt⟩ := map_mid e
    have hl2 := lf done.length
    refine hs x (List.mem_of_getElem? hx) _ ?_
    have e1 : (L.take (done ++ [g x]).length).filterMap f = (L.take done.length).filterMap f ++ (f x).toList := by
      rw [List.length_append, List.length_singleton, take_more hx, List.filterMap_append]
      cases e2 : f x with
      | none => simp [e2]
      | some y => simp [e2]
    cases e2 : f x with
    | none =>
      rw [e2] at e1
      exact ⟨by rw [List.append_assoc]; exact e, rfl, by rw [e1]; simp⟩
    | some y =>
      rw [e2] at e1
      exact ⟨by omega, by rw [List.append_assoc]; exact e, rfl, by rw [e1]; simp⟩
  · rintro done acc M' ⟨e, rfl, rfl⟩
    rw [map_done e]
    exact q
theorem lc_mapL {α : Type} {st : Sto → Prop} {step : D → Sto → (Option D → Sto → Prop) → Prop} (g : α → D) (f : α → D) {L : List α} {M : Sto} {Q : List D → Sto → Prop} (hst : st M) (hl : L.length ≤ 100000) (hs : ∀ x ∈ L, ∀ k : Option D → Sto → Prop, k (some (f x)) M → step (g x) M k) (q : Q (L.map f) M) : lcI st step (L.map g) M Q :=
  lc_filL g (fun x => some (f x)) hst hl hs (by
    have : L.filterMap (fun x => some (f x)) = L.map f := by induction L with
      | nil => rfl
      | cons a l ih => simp
    rw [this]
    exact q)
theorem rng_at {n : Nat} {done todo : List D} {d : D} (e : done ++ d :: todo = rng 0 n) : d = natD done.length ∧ done.length < n := by
  obtain ⟨h1, h2⟩ := rng_mid e
  exact ⟨by rw [h1, Int.zero_add], h2⟩
theorem rng_end {n : Nat} {done : List D} (e : done ++ [] = rng 0 n) : done.length = n := by
  have := congrArg List.length e
  rw [List.append_nil, rng_length] at this
  exact this
end DL
set_option maxHeartbeats 2000000
namespace L2
open PySem PySem.Spec PyProof.Rows
end L2
namespace DL
open PySem PySem.Spec PyProof.Rows L2
theorem cut_to {α : Type} (xs : List α) (k : Nat) : cut xs none (some (k : Int)) = xs.take k := by
  unfold cut
  rw [HT.sIx_none, HT.sIx_nat, List.drop_zero, Nat.sub_zero]
  by_cases h : k ≤ xs.length
  · rw [Nat.min_eq_left h]
  · rw [Nat.min_eq_right (by omega), List.take_of_length_le (by omega), List.take_of_length_le (by omega)]
theorem cut_from {α : Type} (xs : List α) (k : Nat) : cut xs (some (k : Int)) none = xs.drop k := by
  unfold cut
  rw [HT.sIx_none, HT.sIx_nat]
  by_cases h : k ≤ xs.length
  · rw [Nat.min_eq_left h, List.take_of_length_le (by rw [List.length_drop]; omega)]
  · rw [Nat.min_eq_right (by omega), List.drop_of_length_le (by omega), List.drop_of_length_le (by omega), List.take_nil]
end DL
set_option maxHeartbeats 1000000
namespace PySem
end PySem
set_option maxHeartbeats 1000000
namespace PySem
/-- a list (false) or a tuple (true) that zip walks -/
structure Zq where
  t : Bool
  l : Addr
  xs : Array Value
def Zq.At (q : Zq) (h : Heap) : Prop := if q.t = true then h.IsTuple q.l q.xs else h.IsList q.l q.xs
def Zq.It (q : Zq) (it : Addr) (i : Nat) (h : Heap) : Prop := if q.t = true then h.IsTupleIter it q.l i else h.IsListIter it q.l i
theorem Zq.At.up {q : Zq} {h h' : Heap} (a : q.At h) (k : ∀ o, h.get? q.l = some o → h'.get? q.l = some o) : q.At h' := by
  unfold Zq.At at a ⊢
  split at a
  · next e => rw [if_pos e]; exact a.at k
  · next e => rw [if_neg e]; exact a.at k
theorem Zq.It.up {q : Zq} {it : Addr} {i : Nat} {h h' : Heap} (a : q.It it i h) (k : ∀ o, h.get? it = some o → h'.get? it = some o) : q.It it i h' := by
  unfold Zq.It at a ⊢
  split at a
  · next e => rw [if_pos e]; exact a.at k
  · next e => rw [if_neg e]; exact a.at k
end PySem
set_option maxHeartbeats 1000000
namespace PySem
end PySem
namespace L2
open PySem PySem.Spec PyProof.Rows
def SqK (K : PySem.W.Frag) (H : Hp) (a : Bool × Addr) (xs : List V) : Prop := if a.1 = true then SqT K H a.2 xs else SqL K H a.2 xs
theorem SqK.at {X : Cx} {pins : List (Addr × Obj)} {σ : L2.St} {H : Hp} {s : Shared} (I : Inv X pins σ H s) {a : Bool × Addr} {xs : List V} (h : SqK X.K H a xs) : ∃ its : List Value, Vals xs its ∧ (⟨a.1, a.2, its.toArray⟩ : Zq).At s.heap ∧ xs.length ≤ sizeLine := by
  unfold SqK at h
  split at h
  · next e =>
    obtain ⟨its, r, p, z⟩ := I.tuple h
    exact ⟨its, r, by unfold Zq.At; rw [if_pos e]; exact p, z⟩
  · next e =>
    obtain ⟨its, r, p, z⟩ := I.list h
    exact ⟨its, r, by unfold Zq.At; rw [if_neg e]; exact p.isList, z⟩
theorem SqK.inj {X : Cx} {pins : List (Addr × Obj)} {σ : L2.St} {H : Hp} {s : Shared} (I : Inv X pins σ H s) {a : Bool × Addr} {xs ys : List V} (h : SqK X.K H a xs) (h' : SqK X.K H a ys) : xs = ys := by
  unfold SqK at h h'
  split at h
  · next e => rw [if_pos e] at h'; exact I.tuple_inj h h'
  · next e => rw [if_neg e] at h'; exact I.list_inj h h'
end L2
set_option maxHeartbeats 1000000
namespace L2
open PySem PySem.Spec PyProof.Rows
end L2
set_option maxHeartbeats 1000000
namespace DL
open PySem PySem.Spec PyProof.Rows L2
def seqD : D → Option (Bool × List D)
  | .tup xs => some (true, xs)
  | .lst xs => some (false, xs)
  | _ => none
def seqDs : List D → Option (List (Bool × List D))
  | [] => some []
  | d :: ds => match seqD d, seqDs ds with
    | some q, some qs => some (q :: qs)
    | _, _ => none
end DL
set_option maxHeartbeats 1000000
namespace DL
open PySem PySem.Spec PyProof.Rows L2
end DL
set_option maxHeartbeats 1000000
namespace DL
open PySem PySem.Spec PyProof.Rows L2
section
variable {X : Cx} {pos : Pos}
theorem ds_setLcMI {i : Nat} {y : Str} {py spos : Pos} {elt tg iter : Expr} {ifs : List Expr} {scope : Scope} {own : List (Str × Nat)} {fi : DTI} {g : DTG} {t : DTT} {fe : DTE} {js : List Nat} (hc : X.calm = true) (hN : X.N.Nodup) (hy : X.N[i]? = some y) (hl : X.env.scope.names.lookup y = some .local)
    (hsw : swapsWith (.ListComp elt [⟨tg, iter, ifs, 0⟩] scope pos) (some (.Name y py)) spos.line X.env = pure true) (hi : DI X tg iter fi) (ok : BlkOk X.N X.env.scope scope own) (hj : ∀ j ∈ js, j ∈ own.map (·.2))
    (hg : ∀ (s : Shared) (H : Hp) (C : Addr) (cl : List (Str × Addr)) (fp : List Addr), DG (X.blk s H scope (compEnvC scope cl C X.env) fp) tg g js)
    (ht : ∀ (s : Shared) (H : Hp) (C : Addr) (cl : List (Str × Addr)) (fp : List Addr), DTTs (X.blk s H scope (compEnvC scope cl C X.env) fp) ifs t)
    (he : ∀ (s : Shared) (H : Hp) (C : Addr) (cl : List (Str × Addr)) (fp : List Addr), DE (X.blk s H scope (compEnvC scope cl C X.env) fp) elt fe)
    (hfs : ∀ x : Value, foldedSetIterable iter X.env x = pure x := by intro _; rfl) : DS X (.Assign [.Name y py] (.ListComp elt [⟨tg, iter, ifs, 0⟩] scope pos) spos) (dAsg (dLcMI fi g t fe (own.map (·.2))) (dgName i)) := by
  have g0 := (hg X.s_0 (fun _ => none) 0 [] []).mono
  have t0 := (ht X.s_0 (fun _ => none) 0 [] []).2
  have e0 := (he X.s_0 (fun _ => none) 0 [] []).mono
  have hd := d_lcMI (pos := pos) hc hN hi ok hj hg ht he hfs
  refine ⟨PS.of (ps_setLc (g := LiftGN X.K g js) (tt := LiftTN X.K t) (te := LiftN X.K fe) hc hN hy hl hsw hi.pi ok (fun s H C cl fp => PG.of (hg s H C cl fp).pg fun _ _ _ _ z => LiftGN.of (hg s H C cl fp).mono z) (fun s H C cl fp => PTs.of (ht s H C cl fp).1 fun _ _ _ z => LiftTN.of z) (fun s H C cl fp => PE.of (he s H C cl fp).pe fun _ _ _ z => LiftN.of z) hfs) fun E σ H ⟨ρ, M, al, F, G, W, es, q⟩ => ?_, fun D D' ρ M w q => hd.mono _ _ _ _ (fun d M1 q1 => w.nx _ _ q1) q⟩
  refine lcM_ok (Y := X) hi.mono g0 t0 e0 hj ?_
  have hd' := d_lcM (pos := pos) hc hN hi ok hj hg ht he hfs
  have q' : dLcMI fi g t fe (own.map (·.2)) ρ M (fun d M1 => dgName i d ρ M1 (kontS X.K al F G ρ.x E).nx) := q
  exact hd'.seq W es (R := fun d M1 => dgName i d ρ M1 (kontS X.K al F G ρ.x E).nx) (hi.mono _ _ _ _ (fun ds st M1 q1 => lcI_go (lcStep_mono g0 t0 e0) q1) q') fun d M1 al1 F1 H1 v q1 e1 W1 r1 s1 => q1 al1 F1 H1 _ e1 W1 (s1.sl.set r1 i) rfl
end
end DL
set_option maxHeartbeats 1000000
namespace DL
open PySem PySem.Spec PyProof.Rows L2 MT
@[reducible] def tabD (xs : List Int) : D := .tup (xs.map D.int)
theorem seqD_tup (ds : List D) : seqD (.tup ds) = some (true, ds) := rfl
theorem seqD_lst (ds : List D) : seqD (.lst ds) = some (false, ds) := rfl
theorem seqDs_lt (a b : List D) : seqDs [.lst a, .tup b] = some [(false, a), (true, b)] := rfl
theorem seqDs_tt (a b : List D) : seqDs [.tup a, .tup b] = some [(true, a), (true, b)] := rfl
theorem seqDs_tl (a b : List D) : seqDs [.tup a, .lst b] = some [(true, a), (false, b)] := rfl
theorem seqDs_ll (a b : List D) : seqDs [.lst a, .lst b] = some [(false, a), (false, b)] := rfl
theorem rng_getD {n : Nat} (f : Nat → Int) {i : Nat} (h : i < n) : ((List.range n).map f).getD i 0 = f i := by rw [List.getD_eq_getElem?_getD, List.getElem?_map, List.getElem?_range h]; rfl
theorem eqvAll_ints : ∀ xs ys : List Int, PyData.eqvAll (toPys (xs.map D.int)) (toPys (ys.map D.int)) = decide (xs = ys)
  | [], [] => rfl
  | [], _ :: _ => rfl
  | _ :: _, [] => rfl
  | x :: xs, y :: ys => by
    show (x == y && PyData.eqvAll (toPys (xs.map D.int)) (toPys (ys.map D.int))) = _
    rw [eqvAll_ints xs ys]
    by_cases h : x = y <;> by_cases h2 : xs = ys <;> simp [h, h2]
theorem eqv_tabs (xs ys : List Int) : PyData.eqv (toPy (.tup (xs.map D.int))) (toPy (.tup (ys.map D.int))) = decide (xs = ys) := eqvAll_ints xs ys
end DL
set_option maxHeartbeats 1000000
namespace DL
open PySem PySem.Spec PyProof.Rows L2 MT
def dk (cs : List Int) (n : Int) : Sto := [.lst (cs.map D.int), .lst [.ref 0, .int n]]
def Good (b : Nat) (cs : List Int) (n : Int) : Prop := cs.length ≤ 63 ∧ (∀ c ∈ cs, 0 ≤ c) ∧ 0 ≤ n ∧ n + b ≤ 1000000
theorem Good.le {b b' : Nat} {cs : List Int} {n : Int} (g : Good b cs n) (h : b' ≤ b) : Good b' cs n := ⟨g.1, g.2.1, g.2.2.1, by have := g.2.2.2; omega⟩
def spDraw : DSp := fun args M Q _ => ∃ (cs : List Int) (n : Int) (R : Sto) (lim : Int) (b : Nat), args = [.ref 1, .int lim] ∧ M = dk cs n ++ R ∧ Good (b + 1) cs n ∧ 0 < lim ∧ lim < 1073741824 ∧ ∀ r cs' n', 0 ≤ r → r < lim → Good b cs' n' → Q (.int r) (dk cs' n' ++ R)
theorem dr {cs : List Int} {n : Int} {R : Sto} {lim : Int} {b : Nat} {Q : DK} {E : DXK} (g : Good (b + 1) cs n) (h0 : 0 < lim) (h1 : lim < 1073741824) (k : ∀ (r : Nat) (cs' : List Int) (n' : Int), (r : Int) < lim → Good b cs' n' → Q (.int r) (dk cs' n' ++ R)) : spDraw [.ref 1, .int lim] (dk cs n ++ R) Q E :=
  ⟨cs, n, R, lim, b, rfl, rfl, g, h0, h1, fun r cs' n' r0 r1 g' => by
    obtain ⟨r, rfl⟩ := Int.eq_ofNat_of_zero_le r0
    exact k r cs' n' r1 g'⟩
theorem dk_len (cs : List Int) (n : Int) (R : Sto) : (dk cs n ++ R).length = R.length + 2 := by unfold dk; simp
theorem get_dkA (cs : List Int) (n : Int) (R : Sto) (a : Cell) (r : Sto) : (dk cs n ++ (R ++ a :: r))[R.length + 2]? = some a := by
  have := get_mid (dk cs n ++ R) a r
  rw [dk_len, List.append_assoc] at this
  exact this
theorem get_dkB (cs : List Int) (n : Int) (R : Sto) (a b : Cell) (r : Sto) : (dk cs n ++ (R ++ a :: b :: r))[R.length + 3]? = some b := by
  have := get_dkA cs n (R ++ [a]) b r
  rw [List.length_append, List.length_singleton, List.append_assoc] at this
  exact this
theorem get_dkC (cs : List Int) (n : Int) (R : Sto) (a b c : Cell) (r : Sto) : (dk cs n ++ (R ++ a :: b :: c :: r))[R.length + 4]? = some c := by
  have := get_dkB cs n (R ++ [a]) b c r
  rw [List.length_append, List.length_singleton, List.append_assoc] at this
  exact this
theorem set_dkA (cs : List Int) (n : Int) (R : Sto) (a z : Cell) (r : Sto) : (dk cs n ++ (R ++ a :: r)).set (R.length + 2) z = dk cs n ++ (R ++ z :: r) := by
  have := set_mid (dk cs n ++ R) a z r
  rw [dk_len, List.append_assoc, List.append_assoc] at this
  exact this
theorem set_dkB (cs : List Int) (n : Int) (R : Sto) (a b z : Cell) (r : Sto) : (dk cs n ++ (R ++ a :: b :: r)).set (R.length + 3) z = dk cs n ++ (R ++ a :: z :: r) := by
  have := set_dkA cs n (R ++ [a]) b z r
  rw [List.length_append, List.length_singleton, List.append_assoc, List.append_assoc] at this
  exact this
theorem set_dkC (cs : List Int) (n : Int) (R : Sto) (a b c z : Cell) (r : Sto) : (dk cs n ++ (R ++ a :: b :: c :: r)).set (R.length + 4) z = dk cs n ++ (R ++ a :: b :: z :: r) := by
  have := set_dkB cs n (R ++ [a]) b c z r
  rw [List.length_append, List.length_singleton, List.append_assoc, List.append_assoc] at this
  exact this
@[reducible] def pushD (p : Nat × Int) : D := .tup [natD p.1, .int p.2]
def PushOk (t : Tr) (p : Nat × Int) : Prop := p.1 ≤ t.length ∧ 0 ≤ p.2 ∧ p.2 ≤ 1000000000
def fallT (t : Tr) (ps : List (Nat × Int)) (m : Nat) : Int := minI (ps.map fun p => p.2 + dist t p.1 m)
def fallsT (t : Tr) (ps : List (Nat × Int)) : List Int := (List.range (t.length + 1)).map (fallT t ps)
theorem fallsT_len (t : Tr) (ps : List (Nat × Int)) : (fallsT t ps).length = t.length + 1 := by unfold fallsT; simp
theorem fallsT_getD (t : Tr) (ps : List (Nat × Int)) {m : Nat} (h : m ≤ t.length) : (fallsT t ps).getD m 0 = fallT t ps m := rng_getD _ (by omega)
theorem fallT_le {t : Tr} {ps : List (Nat × Int)} {p : Nat × Int} (h : p ∈ ps) (m : Nat) : fallT t ps m ≤ p.2 + dist t p.1 m := minI_le (List.mem_map.mpr ⟨p, h, rfl⟩)
theorem fallT_mem {t : Tr} {ps : List (Nat × Int)} (h : ps ≠ []) (m : Nat) : ∃ p ∈ ps, fallT t ps m = p.2 + dist t p.1 m := by
  obtain ⟨p, hp, e⟩ := List.mem_map.mp (minI_mem (ns := ps.map fun p => p.2 + dist t p.1 m) (fun z => h (List.map_eq_nil_iff.mp z)))
  exact ⟨p, hp, e.symm⟩
end DL
set_option maxHeartbeats 1000000
namespace DL
open PySem PySem.Spec PyProof.Rows L2 MT
section
variable {X : Cx} {a : Expr} {fa : DTE} {pos : Pos}
@[reducible] def dRevT (fa : DTE) (st : DTO) : DTE := fun ρ M Q => fa ρ M fun x M1 => st ρ M1 fun k M2 => match x with
  | .tup ds => k = some (-1) ∧ Q (.tup ds.reverse) M2
  | _ => False
end
end DL
set_option maxHeartbeats 1000000
namespace DL
open PySem PySem.Spec PyProof.Rows L2 MT
section
variable {X : Cx} {a : Addr} {oe : Obj} {cls : Value} {d : Option Addr} {pn : List (Addr × Obj)} {e : Expr} {fe : DTE} {pos : Pos}
theorem d_isXs {p p2 : Pos} {cs : List Expr} {cvs : List Value} {k : Nat} (hz : L2N.Zn cls d oe) (hf : ∃ vs, oe.data = .fields vs) (hm : X.mg "isinstance" = none) (h : DE (X.suite a ((a, oe) :: pn)) e fe) (hc : NmCs (X.suite a ((a, oe) :: pn)) cs cvs) (hl : cvs.length ≤ 1000) (hg : Gl (X.suite a ((a, oe) :: pn)) "isinstance" := by rfl)
    (hs : starEach [e, .Tuple cs k p2] (X.suite a ((a, oe) :: pn)).env = (false, eval e (X.suite a ((a, oe) :: pn)).env) :: starEach [.Tuple cs k p2] (X.suite a ((a, oe) :: pn)).env := by rfl) (hs2 : starEach [.Tuple cs k p2] (X.suite a ((a, oe) :: pn)).env = (false, eval (.Tuple cs k p2) (X.suite a ((a, oe) :: pn)).env) :: starEach [] (X.suite a ((a, oe) :: pn)).env := by rfl) (hpl : (backTo pos (starEach [.Tuple cs k p2] (X.suite a ((a, oe) :: pn)).env)).any (·.1) = false := by rfl) :
    DE (X.suite a ((a, oe) :: pn)) (.Call (.Name "isinstance" p) [e, .Tuple cs k p2] [] pos) (dIsX X.K a cls d cvs fe) := d_isX (pin_suite hz hf) hm h hc hl hg hs hs2 hpl
theorem d_isX1s {p : Pos} {c : Expr} {cv : Value} (hz : L2N.Zn cls d oe) (hf : ∃ vs, oe.data = .fields vs) (hm : X.mg "isinstance" = none) (h : DE (X.suite a ((a, oe) :: pn)) e fe) (hc : NmC (X.suite a ((a, oe) :: pn)) c cv) (hg : Gl (X.suite a ((a, oe) :: pn)) "isinstance" := by rfl)
    (hs : starEach [e, c] (X.suite a ((a, oe) :: pn)).env = (false, eval e (X.suite a ((a, oe) :: pn)).env) :: starEach [c] (X.suite a ((a, oe) :: pn)).env := by rfl) (hs2 : starEach [c] (X.suite a ((a, oe) :: pn)).env = (false, eval c (X.suite a ((a, oe) :: pn)).env) :: starEach [] (X.suite a ((a, oe) :: pn)).env := by rfl) (hpl : (backTo pos (starEach [c] (X.suite a ((a, oe) :: pn)).env)).any (·.1) = false := by rfl) :
    DE (X.suite a ((a, oe) :: pn)) (.Call (.Name "isinstance" p) [e, c] [] pos) (dIsX X.K a cls d [cv] fe) := d_isX1 (pin_suite hz hf) hm h hc hg hs hs2 hpl
theorem d_fldXs {n : Str} (hz : L2N.Zn cls d oe) (hf : ∃ vs, oe.data = .fields vs) (h : DE (X.suite a ((a, oe) :: pn)) e fe) (hb : attributeBase e n (X.suite a ((a, oe) :: pn)).env (eval e (X.suite a ((a, oe) :: pn)).env) = eval e (X.suite a ((a, oe) :: pn)).env := by rfl) : DE (X.suite a ((a, oe) :: pn)) (.Attribute e n pos) (dFldX X.K a cls d n fe) := d_fldX (pin_suite hz hf) h hb
end
end DL
set_option maxHeartbeats 1000000
namespace DL
open PySem PySem.Spec PyProof.Rows L2 MT
def belows (t : Tr) (m : Nat) : List (Nat × Nat) := t.zipIdx.filterMap fun q => if q.1.1 = m then some (q.2 + 1, q.1.2) else none
def near (t : Tr) (m : Nat) : List (Nat × Nat) := (if 0 < m then [t.getD (m - 1) (0, 0)] else []) ++ belows t m
def Lip (t : Tr) (xs : List Int) : Prop := ∀ i j, i ≤ t.length → j ≤ t.length → xs.getD i 0 ≤ xs.getD j 0 + dist t i j
theorem near_dist {t : Tr} (ht : TreeOk t) {m : Nat} (hm : m ≤ t.length) {q : Nat × Nat} (hq : q ∈ near t m) : dist t m q.1 = q.2 ∧ q.1 ≤ t.length ∧ 1 ≤ q.2 := by
  unfold near at hq
  rcases List.mem_append.mp hq with z | z
  · split at z
    · next h0 =>
      obtain ⟨p, hp, _, _, hlt⟩ := tree_get ht h0 hm
      rw [List.mem_singleton.mp z, List.getD_eq_getElem?_getD, hp]
      have h1 := ht.2 _ _ hp
      have h2 := row_dist ht hp
      rw [show m - 1 + 1 = m by omega] at h2
      exact ⟨h2, by show p.1 ≤ _; omega, h1.2.1⟩
    · cases z
  · unfold belows at z
    obtain ⟨r, hr, e⟩ := List.mem_filterMap.mp z
    have h1 := idx_mem hr
    have h2 := (List.getElem?_eq_some_iff.mp h1).1
    have h3 := ht.2 _ _ h1
    split at e
    · next e1 =>
      cases e
      have h4 := row_dist ht h1
      rw [e1] at h4
      exact ⟨by rw [dist_comm]; exact h4, by show r.2 + 1 ≤ _; omega, h3.2.1⟩
    · cases e
theorem last_near {t : Tr} (ht : TreeOk t) {i m : Nat} (hi : i ≤ t.length) (hm : m ≤ t.length) (h : i ≠ m) : ∃ q ∈ near t m, dist t i m = dist t i q.1 + q.2 := by
  obtain ⟨q, _, c⟩ := last_edge t i m h
  rcases c with ⟨h0, rfl, e⟩ | ⟨h0, hq, e1, e⟩
  · obtain ⟨p, hp, ep, el, hlt⟩ := tree_get ht h0 hm
    refine ⟨p, ?_, by rw [e, ep, el]⟩
    unfold near
    rw [if_pos h0, List.getD_eq_getElem?_getD, hp]
    simp
  · obtain ⟨p, hp, ep, el, hlt⟩ := tree_get ht h0 (show q ≤ t.length by omega)
    refine ⟨(q, p.2), ?_, by rw [e, el]⟩
    unfold near
    refine List.mem_append_right _ ?_
    unfold belows
    refine List.mem_filterMap.mpr ⟨(p, q - 1), List.mem_of_getElem? (i := q - 1) (by rw [List.getElem?_zipIdx, hp]; simp), ?_⟩
    show (if p.1 = m then some (q - 1 + 1, p.2) else none) = _
    rw [if_pos (by omega), show q - 1 + 1 = q by omega]
theorem fallsT_lip {t : Tr} {ps : List (Nat × Int)} (hne : ps ≠ []) : Lip t (fallsT t ps) := fun i j hi hj => by
  rw [fallsT_getD t ps hi, fallsT_getD t ps hj]
  obtain ⟨q, hq, e⟩ := fallT_mem (t := t) hne j
  have h1 := fallT_le (t := t) hq i
  have h2 := dist_tri t q.1 j i
  rw [dist_comm t j i] at h2
  omega
end DL
set_option maxHeartbeats 1000000
namespace DL
open PySem PySem.Spec PyProof.Rows L2 MT
end DL
set_option maxHeartbeats 1000000
namespace DL
open PySem PySem.Spec PyProof.Rows L2 MT
def keyPy : Key → PyData
  | .inl i => .int i
  | .inr x => .str x
mutual
def toPyE : D → PyData
  | .non => .none
  | .bl b => .bool b
  | .int i => .int i
  | .str x => .str x
  | .tup ds => .tuple (toPyEs ds)
  | .lst ds => .list (toPyEs ds)
  | .dct ks ds => .dict ((ks.map keyPy).zip (toPyEs ds))
  | .ref _ => .none
  | .scr _ => .none
  | .exo _ _ _ _ _ => .none
  | .clo _ _ _ _ => .none
def toPyEs : List D → List PyData
  | [] => []
  | d :: ds => toPyE d :: toPyEs ds
end
mutual
/-- tuples and dicts, no lists -/
def pe : D → Bool
  | .non | .bl _ | .int _ | .str _ => true
  | .tup ds => pes ds
  | .dct _ ds => pes ds
  | .lst _ | .ref _ | .scr _ | .exo _ _ _ _ _ | .clo _ _ _ _ => false
def pes : List D → Bool
  | [] => true
  | d :: ds => pe d && pes ds
end
end DL
set_option maxHeartbeats 1000000
namespace DL
open PySem PySem.Spec PyProof.Rows L2 MT
structure ShEOk (n h : Nat) (d : D) : Prop where
  pe : DL.pe d = true
  showable : (toPyE d).showable = true
  depth : (toPyE d).depth ≤ h
  len : (toPyE d).shown.length ≤ n
inductive ShE : Nat → Nat → D → Prop
  | non : ShE 4 0 .non
  | bl (b : Bool) : ShE 5 0 (.bl b)
  | int {i : Int} {n : Nat} (h : Sh n 0 (.int i)) : ShE n 0 (.int i)
  | str {x : Str} {n : Nat} (h : (reprText x).length ≤ n) : ShE n 0 (.str x)
  | dct {n h : Nat} {ks : List Key} {ds : List D} (ok : ShEOk n h (.dct ks ds)) : ShE n h (.dct ks ds)
  | tup {n h m : Nat} {ds : List D} (hd : ∀ d ∈ ds, ShE n h d) (hl : ds.length ≤ m) : ShE (m * (n + 2) + 3) (h + 1) (.tup ds)
  | up {n h n' h' : Nat} {d : D} (s : ShE n h d) (hn : n ≤ n') (hh : h ≤ h') : ShE n' h' d
theorem shEAll {n h : Nat} : ∀ {ds : List D}, (∀ d ∈ ds, ShEOk n h d) → DL.pes ds = true ∧ PyData.showableAll (toPyEs ds) = true ∧ PyData.depthAll (toPyEs ds) ≤ h ∧ ((PyData.shownAll (toPyEs ds)).map (·.length)).sum ≤ ds.length * n ∧ (PyData.shownAll (toPyEs ds)).length = ds.length
  | [], _ => ⟨rfl, rfl, Nat.zero_le _, Nat.zero_le _, rfl⟩
  | d :: ds, hd => by
    obtain ⟨a1, a2, a3, a4⟩ := hd d List.mem_cons_self
    obtain ⟨b1, b2, b3, b4, b5⟩ := shEAll (ds := ds) fun x hx => hd x (List.mem_cons_of_mem _ hx)
    refine ⟨?_, ?_, ?_, ?_, ?_⟩
    · show (DL.pe d && DL.pes ds) = true
      rw [a1, b1]; rfl
    · show (PyData.showable (toPyE d) && PyData.showableAll (toPyEs ds)) = true
      rw [a2, b2]; rfl
    · show max (PyData.depth (toPyE d)) (PyData.depthAll (toPyEs ds)) ≤ h
      exact Nat.max_le.mpr ⟨a3, b3⟩
    · show (PyData.shown (toPyE d)).length + ((PyData.shownAll (toPyEs ds)).map (·.length)).sum ≤ (ds.length + 1) * n
      rw [Nat.add_mul]
      omega
    · show (PyData.shownAll (toPyEs ds)).length + 1 = ds.length + 1
      rw [b5]
theorem ShE.ok' {n h : Nat} {d : D} (s : ShE n h d) : ShEOk n h d := by
  induction s with
  | non => exact ⟨rfl, rfl, Nat.le_refl _, by decide +kernel⟩
  | bl b => exact ⟨rfl, rfl, Nat.zero_le _, by cases b <;> decide +kernel⟩
  | int h => exact ⟨rfl, h.ok'.showable, Nat.zero_le _, h.ok'.len⟩
  | str h => exact ⟨rfl, rfl, Nat.zero_le _, h⟩
  | dct h => exact h
  | @tup n h m ds hd hl ih =>
    obtain ⟨b1, b2, b3, b4, b5⟩ := shEAll ih
    refine ⟨b1, b2, Nat.succ_le_succ b3, ?_⟩
    show (tupleText (PyData.shownAll (toPyEs ds))).length ≤ _
    refine Nat.le_trans (tupleText_len_le _) ?_
    rw [b5, Nat.mul_add]
    have := Nat.mul_le_mul_right n hl
    omega
  | up s hn hh ih => exact ⟨ih.pe, ih.showable, Nat.le_trans ih.depth hh, Nat.le_trans ih.len hn⟩
/-- one way or the other -/
def One (n h : Nat) (d : D) : Prop := Sh n h d ∨ ShE n h d
def Both (n h : Nat) (d : D) : Prop := Sh n h d ∧ ShE n h d
theorem Both.up {n h n' h' : Nat} {d : D} (s : Both n h d) (hn : n ≤ n') (hh : h ≤ h') : Both n' h' d := ⟨s.1.up hn hh, s.2.up hn hh⟩
theorem One.up {n h n' h' : Nat} {d : D} (s : One n h d) (hn : n ≤ n') (hh : h ≤ h') : One n' h' d := s.imp (fun s => s.up hn hh) fun s => s.up hn hh
theorem Both.one {n h : Nat} {d : D} (s : Both n h d) : One n h d := .inl s.1
theorem Both.tup {n h m : Nat} {ds : List D} (hd : ∀ d ∈ ds, Both n h d) (hl : ds.length ≤ m) : Both (m * (n + 2) + 3) (h + 1) (.tup ds) := ⟨.tup (fun d h => (hd d h).1) hl, .tup (fun d h => (hd d h).2) hl⟩
/-- a tuple of which one item may be odd -/
theorem One.tup {n h m : Nat} {as bs : List D} {d : D} (h1 : ∀ x ∈ as, Both n h x) (h2 : One n h d) (h3 : ∀ x ∈ bs, Both n h x) (hl : (as ++ d :: bs).length ≤ m) : One (m * (n + 2) + 3) (h + 1) (.tup (as ++ d :: bs)) := by
  rcases h2 with h2 | h2
  · refine .inl (.tup (fun x hx => ?_) hl)
    rcases List.mem_append.mp hx with z | z
    · exact (h1 x z).1
    · rcases List.mem_cons.mp z with rfl | z
      · exact h2
      · exact (h3 x z).1
  · refine .inr (.tup (fun x hx => ?_) hl)
    rcases List.mem_append.mp hx with z | z
    · exact (h1 x z).2
    · rcases List.mem_cons.mp z with rfl | z
      · exact h2
      · exact (h3 x z).2
theorem Both.int {i : Int} {n : Nat} (h : Sh n 0 (.int i)) : Both n 0 (.int i) := ⟨h, .int h⟩
mutual
/-- no place of the store, no script, no exception within -/
def od : D → Bool
  | .non | .bl _ | .int _ | .str _ => true
  | .tup ds => ods ds
  | .lst _ => true
  | .dct _ _ => true
  | .ref _ | .scr _ | .exo _ _ _ _ _ | .clo _ _ _ _ => false
def ods : List D → Bool
  | [] => true
  | d :: ds => od d && ods ds
end
end DL
set_option maxHeartbeats 1000000
namespace DL
open PySem PySem.Spec PyProof.Rows L2 MT
end DL
set_option maxHeartbeats 1000000
namespace DL
open PySem PySem.Spec PyProof.Rows L2 MT
end DL
set_option maxHeartbeats 1000000
namespace DL
open PySem PySem.Spec PyProof.Rows L2 MT
/-- a class whose instances isinstance asks rightly -/
structure InC (K : PySem.W.Frag) (C : Addr) : Prop where
  cl : Cls K C
  ha : PySem.W.findIn K (.ref C) "__class__" = some (some (.builtin "object.__class__"))
  hn : PySem.W.specialIn K (.builtin "object.__class__") "__get__" = some (some (.builtin "getset_descriptor.__get__"))
  htk : PySem.W.takesIn K (.builtin "object.__class__") = some true
  hm : PySem.W.mroIn K C (.type "object") = some true
structure DfM (K : PySem.W.Frag) (C : Addr) (m qual : Str) (st : Stmt) : Prop where
  ex : ∃ (f : Addr) (fd : FuncData), Fun K m qual st f fd ∧ Meth K C m f
end DL
set_option maxHeartbeats 1000000
namespace DL
open PySem PySem.Spec PyProof.Rows L2 MT
theorem ShOk.vw {n h : Nat} {d : D} (s : ShOk n h d) (M : Sto) : DL.vw d M = d := by
  have := s.pu
  cases d <;> first | rfl | (cases this)
end DL
set_option maxHeartbeats 1000000
namespace DL
open PySem PySem.Spec PyProof.Rows L2 MT
structure PM (X : Cx) (cs : List MatchCase) (t : V → TS) : Prop where
  run : ∀ (first : Bool) (pins : List (Addr × Obj)) (s : Shared) (σ : L2.St) (H : Hp) (v : V) (u : Value) (D : Ends), L2.Inv X pins σ H s → RelV v u → t v D σ H → wpAny (model X.prog X.w) X.A (matchCases cs X.env u first) (SP X pins D) X.xe s
section
variable {X : Cx} {e : Expr} {body : List Stmt} {rest : List MatchCase} {pos q : Pos}
theorem PM.of {cs : List MatchCase} {t t' : V → TS} (h : PM X cs t) (w : ∀ v E σ H, t' v E σ H → t v E σ H) : PM X cs t' := ⟨fun first pins s σ H v u D I r q => h.run first pins s σ H v u D I r (w v D σ H q)⟩
end
end DL
set_option maxHeartbeats 1000000
namespace DL
open PySem PySem.Spec PyProof.Rows L2 MT
end DL
set_option maxHeartbeats 1000000
namespace DL
open PySem PySem.Spec PyProof.Rows L2 MT
abbrev Ps := List (Nat × Int)
abbrev FS := Tr × Ps
inductive Ed where
  | push (m : Nat) (v : Int) | pull (i : Nat) | stretch (m l : Nat)
@[reducible] def edD : Ed → D
  | .push m v => .tup [.str "push", natD m, .int v]
  | .pull i => .tup [.str "pull", natD i]
  | .stretch m l => .tup [.str "stretch", natD m, natD l]
structure StOk (s : FS) : Prop where
  tr : TreeOk s.1
  len : s.2.length ≤ 20
  ps : ∀ p ∈ s.2, PushOk s.1 p
@[reducible] def psD (ps : Ps) : D := .tup (ps.map pushD)
@[reducible] def stateD (s : FS) : D := .tup [treeD s.1, psD s.2]
def tableL (s : FS) : List D := if s.2 = [] then List.replicate (s.1.length + 1) .non else (fallsT s.1 s.2).map D.int
@[reducible] def tableD (s : FS) : D := .tup (tableL s)
/-- the five places of a field -/
structure Fp where
  n : Nat
  a : Nat
  b : Nat
  c : Nat
  d : Nat
structure Fp.Ok (p : Fp) : Prop where
  na : p.n ≠ p.a
  nb : p.n ≠ p.b
  nc : p.n ≠ p.c
  nd : p.n ≠ p.d
  ab : p.a ≠ p.b
  ac : p.a ≠ p.c
  ad : p.a ≠ p.d
  bc : p.b ≠ p.c
  bd : p.b ≠ p.d
  cd : p.c ≠ p.d
def fldL (p : Fp) (w : Bool) (more : List (Str × D)) : List (Str × D) := ("states", .ref p.a) :: ("tables", .ref p.b) :: ("notes", .ref p.c) :: ("standing", .ref p.d) :: ("watching", .bl w) :: more
@[reducible] def fldC (C : Addr) (p : Fp) (w : Bool) (more : List (Str × D)) : Cell := .ins C (fldL p w more)
theorem lk_states (p : Fp) (w : Bool) (more : List (Str × D)) : (fldL p w more).lookup ("states" : Str) = some (D.ref p.a) := rfl
theorem lk_tables (p : Fp) (w : Bool) (more : List (Str × D)) : (fldL p w more).lookup ("tables" : Str) = some (D.ref p.b) := rfl
theorem lk_notes (p : Fp) (w : Bool) (more : List (Str × D)) : (fldL p w more).lookup ("notes" : Str) = some (D.ref p.c) := rfl
theorem lk_standing (p : Fp) (w : Bool) (more : List (Str × D)) : (fldL p w more).lookup ("standing" : Str) = some (D.ref p.d) := rfl
theorem lk_watching (p : Fp) (w : Bool) (more : List (Str × D)) : (fldL p w more).lookup ("watching" : Str) = some (D.bl w) := rfl
/-- a field with these states (the present one last), notes and edits -/
structure Fld (C : Addr) (M : Sto) (p : Fp) (w : Bool) (more : List (Str × D)) (hs : List FS) (ns : List D) (es : List Ed) : Prop where
  ok : p.Ok
  ins : M[p.n]? = some (fldC C p w more)
  sts : M[p.a]? = some (.lst (hs.map stateD))
  tbs : M[p.b]? = some (.lst (hs.map tableD))
  nts : M[p.c]? = some (.lst ns)
  eds : M[p.d]? = some (.lst (es.map edD))
/-- the field is there whatever else changes -/
theorem Fld.keep {C : Addr} {M M' : Sto} {p : Fp} {w : Bool} {more : List (Str × D)} {hs : List FS} {ns : List D} {es : List Ed} (F : Fld C M p w more hs ns es) (h : ∀ i, i = p.n ∨ i = p.a ∨ i = p.b ∨ i = p.c ∨ i = p.d → M'[i]? = M[i]?) : Fld C M' p w more hs ns es :=
  ⟨F.ok, (h _ (.inl rfl)).trans F.ins, (h _ (.inr (.inl rfl))).trans F.sts, (h _ (.inr (.inr (.inl rfl)))).trans F.tbs, (h _ (.inr (.inr (.inr (.inl rfl))))).trans F.nts, (h _ (.inr (.inr (.inr (.inr rfl))))).trans F.eds⟩
@[reducible] def fpAt (n : Nat) : Fp := ⟨n, n + 1, n + 2, n + 3, n + 4⟩
def newF (C : Addr) (n : Nat) (more : List (Str × D)) (t : Tr) : Sto := [fldC C (fpAt n) false more, .lst [stateD (t, [])], .lst [tableD (t, [])], .lst [.non], .lst []]
end DL
set_option maxHeartbeats 1000000
namespace DL
open PySem PySem.Spec PyProof.Rows L2 MT
end DL
set_option maxHeartbeats 1000000
namespace DL
open PySem PySem.Spec PyProof.Rows L2 MT
end DL
set_option maxHeartbeats 1000000
namespace DL
open PySem PySem.Spec PyProof.Rows L2
/-- lo, lo - 1, .. (n of them) -/
def rngD (lo : Int) (n : Nat) : List D := (List.range n).map fun (i : Nat) => D.int (lo - i)
theorem rngD_get {lo : Int} {n i : Nat} : (rngD lo n)[i]? = if i < n then some (D.int (lo - i)) else none := by
  unfold rngD
  rw [List.getElem?_map]
  by_cases h : i < n
  · rw [List.getElem?_range h, if_pos h]; rfl
  · rw [if_neg h, List.getElem?_eq_none (by simpa using h)]; rfl
theorem rngD_length {lo : Int} {n : Nat} : (rngD lo n).length = n := by unfold rngD; simp
theorem rngD_at {lo : Int} {n : Nat} {done todo : List D} {d : D} (e : done ++ d :: todo = rngD lo n) : d = .int (lo - done.length) ∧ done.length < n := by
  have h : (rngD lo n)[done.length]? = some d := by rw [← e]; simp
  rw [rngD_get] at h
  split at h
  · next hi => exact ⟨(Option.some.inj h).symm, hi⟩
  · cases h
theorem itc_ok {K : PySem.W.Frag} {al : List Addr} {F G : Hp} {st : Sto → Prop} (lo : Int) (n : Nat) : ItOk K (Itc lo (-1) n) (rngD lo n) st al F G := by
  intro al' F' G' H' M' e sg W hst i
  refine ⟨fun d hd => ?_, fun hl => ?_⟩
  rotate_left
  · rw [rngD_length] at hl
    exact hl
  rw [rngD_get] at hd
  split at hd
  · next h =>
    cases hd
    refine ⟨h, fun x H'' hy => ?_⟩
    obtain ⟨rfl, rfl⟩ := hy
    rw [show lo + ((i : Nat) : Int) * -1 = lo - (i : Nat) by omega]
    exact ⟨F', Sm.refl _, W, .int _⟩
  · cases hd
section
variable {X : Cx} {pos : Pos} {a b c : Expr} {fr : DTA}
@[reducible] def diR3 (fr : DTA) : DTI := fun ρ M R => fr ρ M fun ds M1 => match ds with
  | [.int i, .int j, .int c] => c = -1 ∧ (-(2 ^ 62) ≤ i ∧ i < 2 ^ 62 ∧ -(2 ^ 62) ≤ j ∧ j < 2 ^ 62) ∧ R (rngD i (i - j).toNat) stYes M1
  | _ => False
theorem di_range3 {tg : Expr} {p : Pos} (hg : Gl X "range") (hm : X.mg "range" = none) (h : DA X [a, b, c] fr)
    (hs : starEach [a, b, c] X.env = (false, eval a X.env) :: starEach [b, c] X.env := by rfl) (hpl : (backTo pos (starEach [b, c] X.env)).any (·.1) = false := by rfl) : DI X tg (.Call (.Name "range" p) [a, b, c] [] pos) (diR3 fr) := by
  refine ⟨PI.of (pi_range3 hg hm h.pa hs hpl) fun σ H R ⟨ρ, M, al, F, G, W, es, q⟩ => ?_, fun ρ M Q Q' w q => h.mono _ _ _ _ (fun ds M1 q1 => ?_) q⟩
  · refine h.seq W es q fun ds M1 al1 F1 H1 vs q1 e1 W1 r1 s1 => ?_
    split at q1
    · cases r1 with
      | cons a1 b1 =>
        cases b1 with
        | cons a2 b2 =>
          cases b2 with
          | cons a3 b3 =>
            cases a1; cases a2; cases a3; cases b3
            obtain ⟨rfl, h1, q1⟩ := q1
            exact ⟨_, _, _, _, rfl, RgC.neg h1.1 h1.2.1 h1.2.2.1 h1.2.2.2, q1 al1 F1 H1 _ e1 W1 (itc_ok _ _)⟩
    · exact q1.elim
  · try dsimp only at q1 ⊢
    split at q1
    · exact ⟨q1.1, q1.2.1, w _ _ _ q1.2.2⟩
    · exact q1.elim
end
end DL
set_option maxHeartbeats 2000000
namespace DL
open PySem PySem.Spec PyProof.Rows L2
section
variable {ck : List (PySem.W.Frag → Bool)} {fn : List HDef} {ts : List He.Tab} {w : World} {K : PySem.W.Frag} {h : Heap} {mg : Str → Option Value}
theorem SaysH.fact (c : SaysH ck fn ts w K) (i : Nat) {f : PySem.W.Frag → Bool} (h : ck[i]? = some f) : f K = true := by
  have c1 := (He.ba (show ((ck.all fun f => f K) && fn.all fun d => d.ok K) = true from congrArg (fun z : AlH => z.1) c)).1
  exact List.all_eq_true.mp c1 f (List.mem_of_getElem? h)
theorem SaysH.def_ (c : SaysH ck fn ts w K) (i : Nat) {d : HDef} (h : fn[i]? = some d) (hcl : d.clo = [] := by rfl) : ∃ fd, FunD K d.name d.qual (defArgs d.st) (defBody d.st) (defScope d.st) [] (d.kws K) (d.at_ K) fd := by
  have c2 := (He.ba (show ((ck.all fun f => f K) && fn.all fun d => d.ok K) = true from congrArg (fun z : AlH => z.1) c)).2
  have e : fn.map (fun d => fnH K (d.at_ K)) = fn.map HDef.val := congrArg (fun z : AlH => z.2.1) c
  have e2 : (fn.map fun d => fnH K (d.at_ K))[i]? = (fn.map HDef.val)[i]? := by rw [e]
  rw [List.getElem?_map, List.getElem?_map, h] at e2
  exact HDef.funD hcl (Option.some.inj e2) (List.all_eq_true.mp c2 d (List.mem_of_getElem? h))
theorem SaysH.tab (c : SaysH ck fn ts w K) (i : Nat) {t : He.Tab} (h : ts[i]? = some t) : ∃ es n, KDict K w (t.1 K) es n := by
  have e : ts.map (fun t => He.dicW K (t.1 K)) = ts.map fun t => some (He.keysIn w.params t.2) := congrArg (fun z : AlH => z.2.2) c
  have e2 : (ts.map fun t => He.dicW K (t.1 K))[i]? = (ts.map fun t => some (He.keysIn w.params t.2))[i]? := by rw [e]
  rw [List.getElem?_map, List.getElem?_map, h] at e2
  exact He.dicW_ok (Option.some.inj e2)
theorem SaysH.df (c : SaysH ck fn ts w K) (X : K.In h) (G : h.Ns mainGlobals mg) (i j : Nat) {x : Str} {st : Stmt} (h1 : ck[i]? = some fun K => (He.Fa.glo x).ok K) (h2 : fn[j]? = some ⟨fun K => He.ga K x, x, x, st, [], []⟩) : Df K mg x st := by
  obtain ⟨fd, F⟩ := c.def_ j h2
  exact ⟨_, fd, fun_ofD F, He.glo_ok X G (c.fact i h1)⟩
theorem Eb.facts (b : Eb) : ∃ B initId, ExcBaseFacts B b.new initId b.bm ∧ StoreFacts B b.bm "object.__setattr__" "object" := by
  cases b with
  | value => exact ⟨_, _, PySem.F.excBase_ValueError, PySem.F.store_ValueError⟩
  | lookup => exact ⟨_, _, PySem.F.excBase_LookupError, PySem.F.store_LookupError⟩
theorem excX_of {b : Eb} {C : Addr} (q : excXIn b K C = true) : ∃ nm qn N bs bm sn sub ab col dd k0 k1 k2 k3 k5,
    K.lookup C = some (excClassObj nm qn C N bs bm true sn sub ab col dd k0 k1 k2 k3 k5 b.new) ∧ PySem.W.excTail b.bm bm = true := by
  unfold excXIn at q
  split at q
  · rename_i dd cd sl ho
    split at q
    · rename_i C' bm k0 k1 k2 k3 n k5 hm hs
      simp only [Bool.and_eq_true, beq_iff_eq, Bool.not_eq_true'] at q
      obtain ⟨rfl, rfl, hdel, hhd, ht⟩ := q
      obtain ⟨nm, bs, mro, ns, qn, hd, sn, sub, ab, col, del⟩ := cd
      dsimp only at hm hdel hhd
      subst hm hdel hhd
      have hsl : sl = #[k0, k1, k2, k3, some (.builtin b.new), k5] := by
        obtain ⟨l⟩ := sl
        simp only at hs
        rw [hs]
      subst hsl
      exact ⟨nm, qn, ns, bs, bm, sn, sub, ab, col, dd, k0, k1, k2, k3, k5, ho, ht⟩
    · cases q
  · cases q
structure ExiH (K : PySem.W.Frag) (C : Addr) : Prop where
  i : ExI K C
  kC : PySem.W.keepIn K (.ref C) = true
  tyC : PySem.W.typeIn K (.ref C) = some (.type "type")
theorem exi_ok {C : Str} (g : gsB K = true) (b : exiB C K = true) : ExiH K (He.ga K C) := by
  obtain ⟨b3, b⟩ := He.ba b
  obtain ⟨b4, b⟩ := He.ba b
  obtain ⟨b8, b⟩ := He.ba b
  obtain ⟨b9, b⟩ := He.ba b
  obtain ⟨b10, b⟩ := He.ba b
  obtain ⟨b11, b⟩ := He.ba b
  obtain ⟨b12, b13⟩ := He.ba b
  obtain ⟨g1, g2⟩ := He.ba g
  exact ⟨⟨He.eqO_ok b3, He.eqO_ok b4, of_decide_eq_true b9, b11, He.eqO_ok b12, He.eqO_ok g1, of_decide_eq_true g2, of_decide_eq_true b13⟩, b8, of_decide_eq_true b10⟩
theorem SaysH.exc (c : SaysH ck fn ts w K) (g : gsB K = true) (i0 i j : Nat) {eb : Eb} {C f q : Str} {st : Stmt} (h0 : ck[i0]? = some (exiB C)) (h1 : ck[i]? = some (excB eb C f)) (h2 : fn[j]? = some ⟨fun K => initA K C, "__init__", q, st, [], []⟩) (S : FnScope ["self", f] ["self", f] (defScope st)) (hb : initBody f st)
    (v0 : Vis (defScope st) "self") (v1 : Vis (defScope st) f) (hbind : ∀ (kV doc pm : Value) (an : Option Addr) (cdv ct : Value) (us : List Value), us.length = 2 → bindArgs (PySem.W.fnOf "__init__" q (defArgs st) (defBody st) (defScope st) .none kV doc pm an cdv ct) ⟨us, []⟩ = pure ((["self", f] : List Str).zip us))
    (d1 : (f == ("__debug__" : Str)) = false) (d2 : (f == ("__classdict__" : Str)) = false) : EcF K (He.ga K C) f ∧ ExI K (He.ga K C) := by
  obtain ⟨fd, F⟩ := c.def_ j h2
  have EI := exi_ok g (c.fact i0 h0)
  obtain ⟨b1, b⟩ := He.ba (c.fact i h1)
  obtain ⟨b2, b⟩ := He.ba b
  obtain ⟨b5, b⟩ := He.ba b
  obtain ⟨b6, b7⟩ := He.ba b
  have F1 : Fun K "__init__" q st (initA K C) fd := fun_ofD F
  obtain ⟨B, initId, FB, SB⟩ := eb.facts
  have ox : OexB K (He.ga K C) := ⟨⟨B, eb.new, initId, eb.bm, FB, SB, excX_of b1⟩, He.eqO_ok b2, EI.i.ex, EI.tyC, EI.kC⟩
  exact ⟨⟨ox, He.eqO_ok b5, EI.i.ga, EI.i.gg, EI.i.hd, _, fd, He.eqO_ok b6, of_decide_eq_true b7, F1.binds (ps := ["self", f]) hbind, fun P w mg base => ⟨init_ok F1 S hb v0 v1 ox (He.eqO_ok b5) d1 d2, init_okH F1 S hb v0 v1 ox (He.eqO_ok b5) d1 d2⟩⟩, EI.i⟩
theorem exmB_ok {C : Str} {x : Cn} {b : Bool} (c : exmB C x b K = true) : PySem.W.exmOne K (.ref (He.ga K C)) (x.v K) = some b := of_decide_eq_true c
theorem kitHB_ok {C : Str} {xs : List Cn} {b : Bool} (c : kitHB C xs b K = true) : PySem.W.kitAny K (.ref (He.ga K C)) (xs.map (Cn.v K)) = some b := of_decide_eq_true c
end
theorem walkGE {l : PySem.W.OpenLaw} {n k : Nat} {q : Program} {loose : List Str} {XP : (Str → Option Value) → Heap → Prop} {YP : World → Heap → Prop} {d : DefRec} {sp : PySem.W.Frag → Sp} {x : Str}
    (hn : l.most = some n) (hn2 : n ≤ sizeLine) (hdf : d.params.defaults = []) (hr : Room k callerA)
    (F : ∀ (w : World) (mg : Str → Option Value) (fa : Addr) (h : Heap), YP w h → h.Ns mainGlobals mg → mg d.name = some (.ref fa) →
      ∃ (K : PySem.W.Frag) (fd : FuncData), K.In h ∧ TabsH K h ∧ (∀ (s : Shared) (u : Value), BindsTo s fd ⟨[u], []⟩ [(x, u)]) ∧ ∀ base : Heap, K.In base → base.Ns mainGlobals mg → FnG l.prog w K mg base (CXd l.prog w) k fa fd [x] (sp K))
    (hsp : ∀ (K : PySem.W.Frag) (H : Hp) (a : Addr) (ns : List Int), ns.length ≤ n → (∀ p ∈ Tk K, H p.1 = some (.tbl #[])) → SqL K H a (ns.map V.int) → sp K [.ref a] H (fun v _ => v = .bl true) fun _ _ _ => False) :
    PySem.W.WalkO q loose XP YP l.row.toRowW d [] (fun f vs => PySem.call f vs) := by
  refine Att.attach_call hn hdf fun w s0 s1 mg mb fa o pm cd doc a vs ns G Y ho hd hcd hmg hobj hints hlen hg => ?_
  obtain ⟨K, fd, KX, TH, hb, hF⟩ := F w mg fa _ Y G.T.g hmg
  exact law_callG KX G.T.g G.T.b G.T.builtins G.T.nolimit hg hobj hints (Nat.le_trans hlen hn2) hr TH hF hb (fun H hT hS => hsp _ H a ns hlen hT hS) fun H e s' z => cx_no z
end DL
set_option maxHeartbeats 1000000
namespace DL
open PySem PySem.Spec PyProof.Rows L2 MT
theorem PlOk.vw {h : Nat} {d : D} (s : PlOk h d) (M : Sto) : DL.vw d M = d := by
  have := s.1
  cases d <;> first | rfl | (cases this)
theorem PlOk.tup {h : Nat} {ds : List D} (hd : ∀ d ∈ ds, PlOk h d) : PlOk (h + 1) (.tup ds) := by
  obtain ⟨b1, b2, b3⟩ := plAll hd
  exact ⟨b1, b2, Nat.succ_le_succ b3⟩
theorem PlOk.lst {h : Nat} {ds : List D} (hd : ∀ d ∈ ds, PlOk h d) : PlOk (h + 1) (.lst ds) := by
  obtain ⟨b1, b2, b3⟩ := plAll hd
  exact ⟨b1, b2, Nat.succ_le_succ b3⟩
/-- an edit whose numbers are small -/
def EdSm : Ed → Prop
  | .push m v => m ≤ 100 ∧ 0 ≤ v ∧ v ≤ 1000000000
  | .pull i => i ≤ 100
  | .stretch m l => m ≤ 100 ∧ l ≤ 1000000
/-- a field with its past: all states good, of one number of marks; the first is the bare tree -/
structure FH (C : Addr) (M : Sto) (p : Fp) (w : Bool) (more : List (Str × D)) (t : Tr) (hs : List FS) (s : FS) (ns : List D) (es : List Ed) : Prop where
  F : Fld C M p w more (hs ++ [s]) ns es
  ok : ∀ x ∈ hs ++ [s], StOk x ∧ x.1.length = t.length
  sm : ∀ e ∈ es, EdSm e
  lh : hs.length = es.length
  ln : ns.length = es.length + 1
  hd : (hs ++ [s])[0]? = some (t, [])
section
variable {C : Addr} {M : Sto} {p : Fp} {w : Bool} {more : List (Str × D)} {t : Tr} {hs : List FS} {s : FS} {ns : List D} {es : List Ed} {e : Ed}
theorem FH.hl (H : FH C M p w more t hs s ns es) : s.1.length = t.length := (H.ok s (by simp)).2
theorem FH.of {M' : Sto} (H : FH C M p w more t hs s ns es) (F : Fld C M' p w more (hs ++ [s]) ns es) : FH C M' p w more t hs s ns es := ⟨F, H.ok, H.sm, H.lh, H.ln, H.hd⟩
/-- a state of the past -/
theorem FH.at_ (H : FH C M p w more t hs s ns es) {j : Nat} (hj : j ≤ es.length) : ∃ x, (hs ++ [s])[j]? = some x ∧ StOk x ∧ x.1.length = t.length := by
  have hl : j < (hs ++ [s]).length := by rw [List.length_append, H.lh, List.length_singleton]; omega
  exact ⟨_, List.getElem?_eq_getElem hl, H.ok _ (List.getElem_mem hl)⟩
theorem FH.now (H : FH C M p w more t hs s ns es) : (hs ++ [s])[es.length]? = some s := by rw [← H.lh, List.getElem?_concat_length]
theorem FH.len (H : FH C M p w more t hs s ns es) : (hs ++ [s]).length = es.length + 1 := by rw [List.length_append, H.lh, List.length_singleton]
end
end DL
set_option maxHeartbeats 1000000
namespace DL
open PySem PySem.Spec PyProof.Rows L2 MT
inductive Er where
  | mark (d : D) | tick (d : D) | many | push (d : D) | row (d : D) | length (d : D)
@[reducible] def Er.cls : Er → Str
  | .mark _ => "NoMark" | .tick _ => "BadTick" | .many => "TooManyPushes" | .push _ => "NoPush" | .row _ => "NoRow" | .length _ => "BadLength"
end DL
set_option maxHeartbeats 1000000
namespace DL
open PySem PySem.Spec PyProof.Rows L2 MT
section
variable {X : Cx}
def rCountF (K : PySem.W.Frag) : V → List V → Hp → VK → Prop := fun x xs H Q => ∃ (a : Addr) (ys : List V) (y : V), x = V.ref a ∧ xs = [y] ∧ SqL K H a ys ∧ flatV y = true ∧ ys.all flatV = true ∧ Q (.int ((ys.countP fun z => eqV z y : Nat) : Int)) H
theorem count_eqU {x : V} : ∀ {xs : List V} {us : List Value}, Vals xs us → xs.all flatV = true → us.countP (eqU x) = xs.countP fun y => eqV y x
  | _, _, .nil, _ => rfl
  | y :: xs, u :: us, .cons r t, f => by
    rw [List.all_cons, Bool.and_eq_true] at f
    rw [List.countP_cons, List.countP_cons, eqU_of r f.1, count_eqU t f.2]
theorem mt_countF : MtR X "list.count" (rCountF X.K) := by
  intro pins s σ H x xs v us Q I rx rxs h
  obtain ⟨a, ys, y, rfl, rfl, hs, fy, fys, q⟩ := h
  cases rx
  cases rxs with
  | cons ry rt =>
    rename_i uy ut
    cases rt
    obtain ⟨its, rv, ⟨⟨cls, dd, data, sl⟩, n, ho, hc, hdn, hd⟩, hlen⟩ := I.list hs
    simp only at hc hd
    subst hc hd
    refine call_meets PySem.F.slot_list_count ⟨_, ho, rfl⟩ PySem.F.entry_list_count (PySem.F.args_list_count_2 _ _)
      (SeqAt.list_countAt a its.toArray n dd sl uy (eqU y)) ⟨ho, fun u' hu' => mem_eqAt ry fy rv fys u' (by simpa using hu'), ?_⟩
    refine ⟨.int ((ys.countP fun z => eqV z y : Nat) : Int), H, I.tok _, ⟨s.toks, ?_⟩, q⟩
    show Value.int ((its.toArray.toList.countP (eqU y) : Nat) : Int) s.toks = _
    rw [show its.toArray.toList = its from rfl, count_eqU rv fys]
def cntB (bs : List Bool) (b : Bool) : Option Int := some ((bs.count b : Nat) : Int)
@[reducible] def dFz (f : List Bool → Bool → Option Int) (fo : DTE) (fr : DTA) : DTE := fun ρ M Q => fo ρ M fun o M1 => match o with
  | .lst xs => fr ρ M1 fun ds M2 => match blsOf xs, ds with
    | some bs, [.bl b] => (match f bs b with
      | some i => Q (.int i) M2
      | none => False)
    | _, _ => False
  | _ => False
theorem rps_bls {K : PySem.W.Frag} {F : Hp} {al : List Addr} : ∀ {bs : List Bool} {vs : List V}, Rps K F al vs (bs.map D.bl) → vs = bs.map V.bl
  | [], vs, r => by cases r; rfl
  | b :: bs, vs, r => by
    cases r with
    | cons r1 r2 => cases r1; rw [rps_bls r2]; rfl
theorem fz_ok {r : V → List V → Hp → VK → Prop} {f : List Bool → Bool → Option Int} {o e : Expr} {fo : DTE} {fr : DTA} (ho : DE X o fo) (hr : DA X [e] fr)
    (hk : ∀ (H : Hp) (p : Addr) (bs : List Bool) (b : Bool) (i : Int) (Q : VK), SqL X.K H p (bs.map V.bl) → f bs b = some i → Q (.int i) H → r (.ref p) [.bl b] H Q) {σ : L2.St} {H : Hp} {Q : VK} (h : Lift X (dFz f fo fr) σ H Q) : tBM X.K "list" r (Lift X fo) (LiftA X fr) σ H Q := by
  obtain ⟨ρ, M, al, F, G, W, s, q⟩ := h
  refine ho.seq W s q fun d M1 al1 F1 H1 v q1 e1 W1 r1 s1 => ?_
  cases d <;> first | exact q1.elim | skip
  next xs =>
  obtain ⟨p, zs, rfl, h1, rs⟩ := seqOf_ok W1 r1 (show seqOf (.lst xs) M1 = some xs from rfl)
  refine ⟨.inl ⟨rfl, zs, SqL.of h1⟩, hr.seq W1 s1 q1 fun ys M2 al2 F2 H2 us q2 e2 W2 r2 s2 => ?_⟩
  obtain ⟨p2, zs2, z, h2, rs2⟩ := seqOf_ok W2 (r1.ext e2) (show seqOf (.lst xs) M2 = some xs from rfl)
  cases z
  try dsimp only at q2
  split at q2
  · next bs b eb =>
    cases r2 with
    | cons ra rb =>
      cases ra
      cases rb
      split at q2
      · next i ei =>
        have exs := blsOf_eq eb
        subst exs
        have hz := rps_bls rs2
        subst hz
        exact hk H2 p bs b i Q (SqL.of h2) ei (q2 al2 F2 H2 _ (e1.trans e2) W2 (.int _))
      · exact q2.elim
  · exact q2.elim
theorem fz_mono {f : List Bool → Bool → Option Int} {o e : Expr} {fo : DTE} {fr : DTA} (ho : DE X o fo) (hr : DA X [e] fr) : ∀ (ρ : Dn) (M : Sto) (Q Q' : DK), (∀ d M, Q d M → Q' d M) → dFz f fo fr ρ M Q → dFz f fo fr ρ M Q' := fun ρ M Q Q' w q => ho.mono _ _ _ _ (fun d M1 q1 => by
  cases d <;> first | exact q1.elim | skip
  refine hr.mono _ _ _ _ (fun ds M2 q2 => ?_) q1
  try dsimp only at q2 ⊢
  split at q2
  · split at q2
    · exact w _ _ q2
    · exact q2.elim
  · exact q2.elim) q
theorem all_bls (bs : List Bool) : (bs.map V.bl).all flatV = true := by
  induction bs with
  | nil => rfl
  | cons b bs ih => rw [List.map_cons, List.all_cons, ih]; rfl
theorem count_bls (bs : List Bool) (b : Bool) : ((bs.map V.bl).countP fun z => eqV z (.bl b)) = bs.count b := by
  induction bs with
  | nil => rfl
  | cons c bs ih =>
    rw [List.map_cons, List.countP_cons, ih, List.count_cons]
    cases c <;> cases b <;> rfl
variable {o e : Expr} {fo : DTE} {fr : DTA} {apos cpos : Pos}
theorem d_countB (ho : DE X o fo) (hr : DA X [e] fr) (hb : attributeBase o "count" X.env (eval o X.env) = eval o X.env := by rfl)
    (h2 : ((backTo cpos (starEach [e] X.env)).all (fun x => !x.1) && (backToKw cpos (keywordEach [] X.env)).all (fun x => x.1.isSome) && decide ([e].length + ([] : List Keyword).length + (if ([] : List Keyword).isEmpty = true then 0 else 1) < 30)) = true := by rfl)
    (h3 : (apos.endLine == cpos.line) = true := by rfl) (h4 : starEach [e] X.env = (false, eval e X.env) :: starEach [] X.env := by rfl) (h5 : (backTo cpos (starEach [] X.env)).any (·.1) = false := by rfl) :
    DE X (.Call (.Attribute o "count" apos) [e] [] cpos) (dFz cntB fo fr) :=
  ⟨PE.of (pe_bm PySem.F.plainAttrs_list PySem.F.slot_list_count PySem.F.type_list_count mt_countF ho.pe hr.pa hb h2 h3 h4 h5) fun σ H Q h => fz_ok ho hr (fun H p bs b i Q hp hi q => ⟨p, _, _, rfl, rfl, hp, rfl, all_bls bs, by rw [count_bls]; cases hi; exact q⟩) h, fz_mono ho hr⟩
end
end DL
set_option maxHeartbeats 1000000
namespace DL
open PySem PySem.Spec PyProof.Rows L2 MT
section
variable {X : Cx} {a : Expr} {fr : DTA} {pos : Pos}
@[reducible] def diEnumR (fr : DTA) : DTI := fun ρ M R => fr ρ M fun ds M1 => match ds with
  | [.lst xs] => R (enumD 0 xs) stYes M1
  | [.ref n] => match M1[n]? with
    | some (.lst xs) => R (enumD 0 xs) (fun M' => M'[n]? = some (.lst xs)) M1
    | _ => False
  | _ => False
end
end DL
set_option maxHeartbeats 1000000
namespace DL
open PySem PySem.Spec PyProof.Rows L2 MT
mutual
/-- tuples, lists and dicts -/
def pel : D → Bool
  | .non | .bl _ | .int _ | .str _ => true
  | .tup ds => pels ds
  | .lst ds => pels ds
  | .dct _ ds => pels ds
  | .ref _ | .scr _ | .exo _ _ _ _ _ | .clo _ _ _ _ => false
def pels : List D → Bool
  | [] => true
  | d :: ds => pel d && pels ds
end
structure ShLOk (n h : Nat) (d : D) : Prop where
  pe : DL.pel d = true
  showable : (toPyE d).showable = true
  depth : (toPyE d).depth ≤ h
  len : (toPyE d).shown.length ≤ n
inductive ShL : Nat → Nat → D → Prop
  | non : ShL 4 0 .non
  | bl (b : Bool) : ShL 5 0 (.bl b)
  | int {i : Int} {n : Nat} (h : Sh n 0 (.int i)) : ShL n 0 (.int i)
  | str {x : Str} {n : Nat} (h : (reprText x).length ≤ n) : ShL n 0 (.str x)
  | by_ {n h : Nat} {d : D} (ok : ShLOk n h d) : ShL n h d
  | tup {n h m : Nat} {ds : List D} (hd : ∀ d ∈ ds, ShL n h d) (hl : ds.length ≤ m) : ShL (m * (n + 2) + 3) (h + 1) (.tup ds)
  | lst {n h m : Nat} {ds : List D} (hd : ∀ d ∈ ds, ShL n h d) (hl : ds.length ≤ m) : ShL (m * (n + 2) + 3) (h + 1) (.lst ds)
  | up {n h n' h' : Nat} {d : D} (s : ShL n h d) (hn : n ≤ n') (hh : h ≤ h') : ShL n' h' d
theorem shLAll {n h : Nat} : ∀ {ds : List D}, (∀ d ∈ ds, ShLOk n h d) → DL.pels ds = true ∧ PyData.showableAll (toPyEs ds) = true ∧ PyData.depthAll (toPyEs ds) ≤ h ∧ ((PyData.shownAll (toPyEs ds)).map (·.length)).sum ≤ ds.length * n ∧ (PyData.shownAll (toPyEs ds)).length = ds.length
  | [], _ => ⟨rfl, rfl, Nat.zero_le _, Nat.zero_le _, rfl⟩
  | d :: ds, hd => by
    obtain ⟨a1, a2, a3, a4⟩ := hd d List.mem_cons_self
    obtain ⟨b1, b2, b3, b4, b5⟩ := shLAll (ds := ds) fun x hx => hd x (List.mem_cons_of_mem _ hx)
    refine ⟨?_, ?_, ?_, ?_, ?_⟩
    · show (DL.pel d && DL.pels ds) = true
      rw [a1, b1]; rfl
    · show (PyData.showable (toPyE d) && PyData.showableAll (toPyEs ds)) = true
      rw [a2, b2]; rfl
    · show max (PyData.depth (toPyE d)) (PyData.depthAll (toPyEs ds)) ≤ h
      exact Nat.max_le.mpr ⟨a3, b3⟩
    · show (PyData.shown (toPyE d)).length + ((PyData.shownAll (toPyEs ds)).map (·.length)).sum ≤ (ds.length + 1) * n
      rw [Nat.add_mul]
      omega
    · show (PyData.shownAll (toPyEs ds)).length + 1 = ds.length + 1
      rw [b5]
theorem ShL.ok' {n h : Nat} {d : D} (s : ShL n h d) : ShLOk n h d := by
  induction s with
  | non => exact ⟨rfl, rfl, Nat.le_refl _, by decide +kernel⟩
  | bl b => exact ⟨rfl, rfl, Nat.zero_le _, by cases b <;> decide +kernel⟩
  | int h => exact ⟨rfl, h.ok'.showable, Nat.zero_le _, h.ok'.len⟩
  | str h => exact ⟨rfl, rfl, Nat.zero_le _, h⟩
  | by_ h => exact h
  | @tup n h m ds hd hl ih =>
    obtain ⟨b1, b2, b3, b4, b5⟩ := shLAll ih
    refine ⟨b1, b2, Nat.succ_le_succ b3, ?_⟩
    show (tupleText (PyData.shownAll (toPyEs ds))).length ≤ _
    refine Nat.le_trans (tupleText_len_le _) ?_
    rw [b5, Nat.mul_add]
    have := Nat.mul_le_mul_right n hl
    omega
  | @lst n h m ds hd hl ih =>
    obtain ⟨b1, b2, b3, b4, b5⟩ := shLAll ih
    refine ⟨b1, b2, Nat.succ_le_succ b3, ?_⟩
    show (listText (PyData.shownAll (toPyEs ds))).length ≤ _
    refine Nat.le_trans (listText_len_le _) ?_
    rw [b5, Nat.mul_add]
    have := Nat.mul_le_mul_right n hl
    omega
  | up s hn hh ih => exact ⟨ih.pe, ih.showable, Nat.le_trans ih.depth hh, Nat.le_trans ih.len hn⟩
def lstOf (d : D) (M : Sto) : Option (List D) := match d with
  | .lst ds => some ds
  | .ref n => match M[n]? with
    | some (.lst ds) => some ds
    | _ => none
  | _ => none
/-- == and != of any list and an empty one -/
def gEqN (neg : Bool) : G2 := fun x y M Q => y = .lst [] ∧ ∃ ds, lstOf x M = some ds ∧ Q (.bl (decide (ds = []) ^^ neg)) M
theorem gEqN_mono (neg : Bool) : Mono2 (gEqN neg) := fun x y M Q Q' w q => ⟨q.1, q.2.choose, q.2.choose_spec.1, w _ _ q.2.choose_spec.2⟩
def rNil (K : PySem.W.Frag) (neg : Bool) : R2 := fun x y H Q => ∃ l b xs, x = .ref l ∧ y = .ref b ∧ SqL K H l xs ∧ SqL K H b [] ∧ Q (.bl (xs.isEmpty ^^ neg)) H
section
variable {X : Cx}
theorem op_neNil (hu : X.A.units + 64 < cLine) : OpR X (compareOp .NotEq) (rNil X.K true) := by
  intro pins s σ H x y v u Q I rx ry ⟨l, b, xs, ex, ey, h1, h2, q⟩
  subst ex ey
  obtain rfl : v = Value.ref l := rx
  obtain rfl : u = Value.ref b := ry
  obtain ⟨its, rv, p1, _⟩ := I.list h1
  obtain ⟨js, rw_, p2, _⟩ := I.list h2
  cases rw_
  cases xs with
  | nil =>
    cases rv
    exact PySem.SeqAt.RcNeAt.lists (e := fun _ => true) p1.isList p2.isList rfl (by omega) (fun j a _ => absurd a (by simp)) X.prog X.w _ _ ⟨.bl _, H, I, rfl, q⟩
  | cons x xs =>
    have hl := rv.length
    exact PySem.SeqAt.RcNeAt.lists_lengths p1.isList p2.isList (by simp; intro e; rw [e] at hl; cases hl) (by omega) X.prog X.w _ _ ⟨.bl _, H, I, rfl, q⟩
theorem lstOf_ok {K : PySem.W.Frag} {al : List Addr} {F G H : Hp} {M : Sto} {x : V} {d : D} {ds : List D} (W : Wd K al F G H M) (r : Rp K F al x d) (e : lstOf d M = some ds) : ∃ l xs, x = .ref l ∧ SqL K H l xs ∧ xs.length = ds.length := by
  cases r with
  | lst a b =>
    cases e
    exact ⟨_, _, rfl, SqL.of (W.sm _ _ a), b.length⟩
  | ref a =>
    unfold lstOf at e
    dsimp only at e
    split at e
    · next ds2 e2 =>
      cases e
      obtain ⟨xs, q, rs⟩ := W.cel _ _ _ e2 a
      exact ⟨_, xs, rfl, SqL.of q, rs.length⟩
    · cases e
  | _ => cases e
theorem nil_rel {K : PySem.W.Frag} {neg : Bool} {al : List Addr} {F G H : Hp} {M : Sto} {x y : V} {dx dy : D} {Q : VK} (W : Wd K al F G H M) (r1 : Rp K F al x dx) (r2 : Rp K F al y dy) (q : gEqN neg dx dy M (kont K al F G Q)) : rNil K neg x y H Q := by
  obtain ⟨rfl, ds, e, k⟩ := q
  obtain ⟨l, xs, rfl, h1, hl⟩ := lstOf_ok W r1 e
  cases r2 with
  | lst a b =>
    cases b
    refine ⟨l, _, xs, rfl, rfl, h1, SqL.of (W.sm _ _ a), ?_⟩
    rw [show xs.isEmpty = decide (ds = []) by
      cases xs with
      | nil => cases ds with
        | nil => rfl
        | cons _ _ => cases hl
      | cons _ _ => cases ds with
        | nil => cases hl
        | cons _ _ => simp]
    exact kont.here k W (.bl _)
theorem o_neN (hu : X.A.units + 64 < cLine) : O2 X (compareOp .NotEq) (gEqN true) := O2.of (op_neNil hu) (gEqN_mono _) fun al F G H M x y dx dy Q W r1 r2 q => nil_rel W r1 r2 q
end
end DL
set_option maxHeartbeats 1000000
namespace DL
open PySem PySem.Spec PyProof.Rows L2 MT
section
variable {X : Cx} {o e : Expr} {fo fe : DTE} {pos apos : Pos}
/-- a method of a text with a text -/
@[reducible] def dM1 (g : Str → Str → Sto → DK → Prop) (fo fe : DTE) : DTE := fun ρ M Q => fo ρ M fun x M1 => match x with
  | .str a => fe ρ M1 fun y M2 => match y with
    | .str b => g a b M2 Q
    | _ => False
  | _ => False
/-- for over a text: its signs -/
def signsD (x : Str) : List D := x.cps.toList.map fun c => D.str ⟨#[c]⟩
@[reducible] def diStr (fa : DTE) : DTI := fun ρ M R => fa ρ M fun d M1 => match d with
  | .str x => R (signsD x) stYes M1
  | _ => False
end
end DL
set_option maxHeartbeats 1000000
namespace DL
open PySem PySem.Spec PyProof.Rows L2 MT
section
variable {X : Cx} {e : Expr}
/-- an expression that is never reached -/
@[reducible] def dNeverE : DTE := fun _ _ _ => False
end
section
variable {X : Cx} {pins : List (Addr × Obj)} {σ : L2.St} {H : Hp} {s : Shared}
@[reducible] def dgStar1L (g : DTGs) : DTG := fun d ρ M Q => match d with
  | .lst (x :: xs) => xs.length ≤ 1000 ∧ g [x, .lst xs] ρ M Q
  | _ => False
end
section
variable {X : Cx} {a : Expr} {fa : DTE} {pos : Pos}
/-- instances of class C are (or are not) instances of class C' -/
def KC (K : PySem.W.Frag) (C C' : Addr) (b : Bool) : Prop := PySem.W.kitOne K (.ref C) (.ref C') = some b
@[reducible] def dIsiC (K : PySem.W.Frag) (C' : Addr) (fa : DTE) : DTE := fun ρ M Q => fa ρ M fun d M1 => match d with
  | .ref n => match M1[n]? with
    | some (.ins C _) => InC K C ∧ ∃ b, KC K C C' b ∧ Q (.bl b) M1
    | _ => False
  | _ => False
end
section
variable {X : Cx} {C f : Addr} {fd : FuncData} {ps : List Str} {k : Nat} {ds : DSp}
@[reducible] def gEqI (C : Addr) (ds : DSp) : G2 := fun x y M Q => match x with
  | .ref n => match y with
    | .ref m => match M[n]? with
      | some (.ins C' fs) => match M[m]? with
        | some (.ins C'' gs) => C' = C ∧ C'' = C ∧ ds [.ref n, .ref m] M (fun v M2 => ∃ b : Bool, v = .bl b ∧ Q (.bl b) M2) fun _ _ _ => False
        | _ => False
      | _ => False
    | _ => False
  | _ => False
end
section
variable {X : Cx} {a b : Expr} {fa fb : DTE} {rest : List Expr} {pos : Pos}
@[reducible] def dOrT (fa fb : DTE) : DTE := fun ρ M Q => fa ρ M fun d M1 => gTru d M1 fun b M2 => if b = true then Q d M2 else fb ρ M2 Q
end
end DL
set_option maxHeartbeats 1000000
namespace DL
open PySem PySem.Spec PyProof.Rows L2 MT
theorem c1 : Str.length (":" : Str) = 1 := by decide +kernel
theorem c2 : Str.length ("@" : Str) = 1 := by decide +kernel
theorem c3 : Str.length (" " : Str) = 1 := by decide +kernel
end DL
set_option maxHeartbeats 1000000
namespace DL
open PySem PySem.Spec PyProof.Rows L2 MT
end DL
set_option maxHeartbeats 1000000
namespace DL
open PySem PySem.Spec PyProof.Rows L2 MT
theorem fn_getIn {K : PySem.W.Frag} {g : Addr} (h : PySem.W.isFn K (.ref g) = true) : PySem.W.specialIn K (.ref g) "__get__" = some (some (.builtin "function.__get__")) ∧ PySem.W.takesIn K (.ref g) = some false := by
  have e := beq_iff_eq.mp h
  refine ⟨?_, ?_⟩
  · unfold PySem.W.specialIn
    rw [e, Option.bind_some]
    kernel_rfl
  · unfold PySem.W.takesIn PySem.W.specialIn
    rw [e, Option.bind_some, Option.bind_some]
    kernel_rfl
theorem DfM.bm {K : PySem.W.Frag} {C : Addr} {m q : Str} {st : Stmt} (d : DfM K C m q st) (cp : PySem.W.copiedNames.contains m = false) : ∀ f, Meth K C m f → BMeth K C m f := fun f M => by
  obtain ⟨g, fd, F, M2⟩ := d.ex
  have e := M.at_
  rw [M2.at_] at e
  cases e
  obtain ⟨h1, h2⟩ := fn_getIn M.fn
  refine ⟨M, h1, h2, cp, ?_⟩
  obtain ⟨oc, od, kV, doc, pm, an, cdv, ct, osl, rfl, lk, _⟩ := F.ex
  unfold PySem.W.fnIn
  rw [lk]
end DL
set_option maxHeartbeats 1000000
namespace DL
open PySem PySem.Spec PyProof.Rows L2 MT
theorem FnG.imp {P : Program} {w : World} {K : PySem.W.Frag} {mg : Str → Option Value} {base : Heap} {CX : CXT} {k : Nat} {f : Addr} {fd : FuncData} {ps : List Str} {sp sp' : Sp} (F : FnG P w K mg base CX k f fd ps sp) (h : ∀ vs H Q E, sp' vs H Q E → sp vs H Q E) : FnG P w K mg base CX k f fd ps sp' :=
  ⟨fun vs H Q E q => F.len _ _ _ _ (h _ _ _ _ q), fun A outer s H args us vs Q E hg hr e0 hb rv q => F.run A outer s H args us vs Q E hg hr e0 hb rv (h _ _ _ _ q)⟩
end DL
set_option maxHeartbeats 1000000
namespace DL
open PySem PySem.Spec PyProof.Rows L2 MT
structure DfML (K : PySem.W.Frag) (Cs : List Addr) (m qual : Str) (st : Stmt) : Prop where
  ex : ∃ (f : Addr) (fd : FuncData), Fun K m qual st f fd ∧ ∀ C ∈ Cs, Meth K C m f
theorem DfML.bm {K : PySem.W.Frag} {Cs : List Addr} {m q : Str} {st : Stmt} (d : DfML K Cs m q st) (cp : PySem.W.copiedNames.contains m = false) : ∀ f, ∀ C ∈ Cs, Meth K C m f → BMeth K C m f := fun f C hC M => by
  obtain ⟨g, fd, F, M2⟩ := d.ex
  exact DfM.bm ⟨g, fd, F, M2 C hC⟩ cp f M
end DL
set_option maxHeartbeats 1000000
namespace DL
open PySem PySem.Spec PyProof.Rows L2 MT
end DL
set_option maxHeartbeats 1000000
namespace DL
open PySem PySem.Spec PyProof.Rows L2 MT
end DL
set_option maxHeartbeats 1000000
namespace DL
open PySem PySem.Spec PyProof.Rows L2 MT
end DL
set_option maxHeartbeats 1000000
namespace DL
open PySem PySem.Spec PyProof.Rows L2 MT
/-- the cells and the unused digits -/
abbrev CR := List Int × List Int
def dkd (cs : CR) (n : Int) : Sto := [.lst (cs.2.map D.int), .lst [.lst (cs.1.map D.int), .int n, .ref 0]]
def Gd (b : Nat) (cs : CR) (n : Int) : Prop := (1 ≤ cs.1.length ∧ cs.1.length ≤ 63 ∧ cs.2.length = cs.1.length) ∧ ((∀ c ∈ cs.1, 0 ≤ c) ∧ ∀ c ∈ cs.2, 0 ≤ c) ∧ 0 ≤ n ∧ n + b ≤ 1000000
theorem Gd.le {b b' : Nat} {cs : CR} {n : Int} (g : Gd b cs n) (h : b' ≤ b) : Gd b' cs n := ⟨g.1, g.2.1, g.2.2.1, by have := g.2.2.2; omega⟩
def spNextD : DSp := fun args M Q _ => ∃ (cs : CR) (n : Int) (R : Sto) (lim : Int) (b : Nat), args = [.ref 1, .int lim] ∧ M = dkd cs n ++ R ∧ Gd (b + 1) cs n ∧ 0 < lim ∧ lim < 1073741824 ∧ ∀ r cs' n', 0 ≤ r → r < lim → Gd b cs' n' → Q (.int r) (dkd cs' n' ++ R)
def spDrawsD : DSp := fun args M Q _ => ∃ ns, args = [.scr ns] ∧ M = [] ∧ ns.length ≤ 63 ∧ ∀ cs, Gd 1000000 cs 0 → Q (.ref 1) (dkd cs 0)
theorem drd {cs : CR} {n : Int} {R : Sto} {lim : Int} {b : Nat} {Q : DK} {E : DXK} (g : Gd (b + 1) cs n) (h0 : 0 < lim) (h1 : lim < 1073741824) (k : ∀ (r : Nat) (cs' : CR) (n' : Int), (r : Int) < lim → Gd b cs' n' → Q (.int r) (dkd cs' n' ++ R)) : spNextD [.ref 1, .int lim] (dkd cs n ++ R) Q E :=
  ⟨cs, n, R, lim, b, rfl, rfl, g, h0, h1, fun r cs' n' r0 r1 g' => by
    obtain ⟨r, rfl⟩ := Int.eq_ofNat_of_zero_le r0
    exact k r cs' n' r1 g'⟩
theorem dkd_len (cs : CR) (n : Int) (R : Sto) : (dkd cs n ++ R).length = R.length + 2 := by unfold dkd; simp
theorem get_dkd (cs : CR) (n : Int) (R : Sto) (c : Cell) : (dkd cs n ++ (R ++ [c]))[R.length + 2]? = some c := by
  have := get_new (dkd cs n ++ R) c
  rw [dkd_len, List.append_assoc] at this
  exact this
theorem set_dkd (cs : CR) (n : Int) (R : Sto) (c d : Cell) : (dkd cs n ++ (R ++ [c])).set (R.length + 2) d = dkd cs n ++ (R ++ [d]) := by
  have := set_new (dkd cs n ++ R) c d
  rw [dkd_len, List.append_assoc, List.append_assoc] at this
  exact this
theorem dkd_bel {m : Nat} {cs cs' : CR} {n n' : Int} {R : Sto} (h : stoBel m (dkd cs n ++ R)) : stoBel m (dkd cs' n' ++ R) := fun c hc => by
  rcases List.mem_append.mp hc with z | z
  · have h2 := h _ (List.mem_append_left _ (show Cell.lst [.lst (cs.1.map D.int), .int n, .ref 0] ∈ dkd cs n by unfold dkd; simp))
    unfold dkd at z
    have z : c = .lst (cs'.2.map D.int) ∨ c = .lst [.lst (cs'.1.map D.int), .int n', .ref 0] := by simpa using z
    rcases z with rfl | rfl
    · exact bels_int _ _
    · have h2 : (bels m (cs.1.map D.int) && (true && (bel m (.ref 0) && true))) = true := h2
      show (bels m (cs'.1.map D.int) && (true && (bel m (.ref 0) && true))) = true
      rw [bels_int, Bool.true_and] at h2 ⊢
      exact h2
  · exact h c (List.mem_append_right _ z)
theorem see_dkd {cs cs' : CR} {n n' : Int} {R M' : Sto} {Q : DK} {d : D} (hM : stoBel (List.length (dkd cs n ++ R)) (dkd cs n ++ R)) (hd : bel (R.length + 2) d = true) (q : Q d (dkd cs' n' ++ R)) : See (List.length (dkd cs n) + List.length R) Q d (dkd cs' n' ++ (R ++ M')) := by
  rw [← List.append_assoc, ← List.length_append]
  exact See.drop' (dkd cs' n' ++ R) (by rw [dkd_len, dkd_len]) (by rw [dkd_len]; exact hd) (dkd_bel hM) q
theorem dkd_two (cs : CR) (n : Int) (R : Sto) : List.length (dkd cs n) + List.length R = R.length + 2 := by rw [← List.length_append, dkd_len]
end DL
set_option maxHeartbeats 1000000
namespace DL
open PySem PySem.Spec PyProof.Rows L2 MT
/-- the order of pairs -/
def pLe (p q : Int × Int) : Prop := p.1 < q.1 ∨ (p.1 = q.1 ∧ p.2 ≤ q.2)
@[reducible] def pD (p : Int × Int) : D := .tup [.int p.1, .int p.2]
def pP (p : Int × Int) : PyData := .tuple [.int p.1, .int p.2]
theorem lt_pP (p q : Int × Int) : PySem.W.dataLt (pP p) (pP q) = decide (p.1 < q.1 ∨ (p.1 = q.1 ∧ p.2 < q.2)) := by
  unfold pP
  rw [PySem.W.dataLt_tuple]
  simp [PySem.W.keyToks, PySem.W.keyToksAll, PyProof.Rows.lex_cons, PyProof.Rows.lexLt, itemOrd, itemLt]
  by_cases h1 : p.1 < q.1
  · simp [h1]
  · by_cases h2 : p.1 = q.1
    · simp [h2]
    · have h3 : q.1 < p.1 := by omega
      simp [h1, h2, h3]
def minPr (p : Int × Int) (ps : List (Int × Int)) : Int × Int := ps.foldl (fun a y => if y.1 < a.1 ∨ (y.1 = a.1 ∧ y.2 < a.2) then y else a) p
theorem minD_pairs : ∀ (ps : List (Int × Int)) (p : Int × Int), PySem.W.minD (pP p) (ps.map pP) = pP (minPr p ps)
  | [], _ => rfl
  | q :: ps, p => by
    show List.foldl _ (if PySem.W.dataLt (pP q) (pP p) = true then pP q else pP p) (ps.map pP) = pP (ps.foldl _ (if q.1 < p.1 ∨ (q.1 = p.1 ∧ q.2 < p.2) then q else p))
    rw [lt_pP]
    by_cases h : q.1 < p.1 ∨ (q.1 = p.1 ∧ q.2 < p.2)
    · rw [decide_eq_true h, if_pos rfl, if_pos h]
      exact minD_pairs ps q
    · rw [decide_eq_false h, if_neg (by decide), if_neg h]
      exact minD_pairs ps p
theorem pLe_trans {p q r : Int × Int} (h1 : pLe p q) (h2 : pLe q r) : pLe p r := by
  unfold pLe at *
  omega
theorem pLe_refl (p : Int × Int) : pLe p p := .inr ⟨rfl, Int.le_refl _⟩
theorem minPr_spec : ∀ (ps : List (Int × Int)) (p : Int × Int), minPr p ps ∈ p :: ps ∧ ∀ q ∈ p :: ps, pLe (minPr p ps) q
  | [], p => ⟨List.mem_cons_self, fun q hq => by rw [List.mem_singleton.mp hq]; exact pLe_refl p⟩
  | y :: ps, p => by
    have e : minPr p (y :: ps) = minPr (if y.1 < p.1 ∨ (y.1 = p.1 ∧ y.2 < p.2) then y else p) ps := rfl
    rw [e]
    by_cases h : y.1 < p.1 ∨ (y.1 = p.1 ∧ y.2 < p.2)
    · rw [if_pos h]
      obtain ⟨h1, h2⟩ := minPr_spec ps y
      refine ⟨List.mem_cons_of_mem _ h1, fun q hq => ?_⟩
      rcases List.mem_cons.mp hq with rfl | hq
      · exact pLe_trans (h2 y List.mem_cons_self) (by unfold pLe; omega)
      · exact h2 q hq
    · rw [if_neg h]
      obtain ⟨h1, h2⟩ := minPr_spec ps p
      refine ⟨?_, fun q hq => ?_⟩
      · rcases List.mem_cons.mp h1 with h1 | h1
        · rw [h1]; exact List.mem_cons_self
        · exact List.mem_cons_of_mem _ (List.mem_cons_of_mem _ h1)
      · rcases List.mem_cons.mp hq with rfl | hq
        · exact h2 q List.mem_cons_self
        · rcases List.mem_cons.mp hq with rfl | hq
          · exact pLe_trans (h2 p List.mem_cons_self) (by unfold pLe; omega)
          · exact h2 q (List.mem_cons_of_mem _ hq)
theorem pP_inj {p q : Int × Int} (h : pP p = pP q) : p = q := by
  unfold pP at h
  injection h with h
  injection h with h1 h2
  injection h1 with h1
  injection h2 with h2 _
  injection h2 with h2
  exact Prod.ext h1 h2
theorem pP_alike (p q : Int × Int) : PySem.W.alike (pP p) (pP q) = true := rfl
section
variable {X : Cx}
def rMinP (K : PySem.W.Frag) : List V → Hp → VK → Prop := fun vs H Q => ∃ (l : Addr) (xs : List V) (ps : List (Int × Int)), vs = [.ref l] ∧ SqL K H l xs ∧ DpAll K H xs (ps.map pP) ∧ ps ≠ [] ∧ ∀ (i : Nat) (v : V) (m : Int × Int), xs[i]? = some v → ps[i]? = some m → (∀ q ∈ ps, pLe m q) → Q v H
theorem depth_pairs : ∀ ps : List (Int × Int), PyData.depthAll (ps.map pP) ≤ 1
  | [] => Nat.zero_le _
  | p :: ps => by
    show max (PyData.depth (pP p)) (PyData.depthAll (ps.map pP)) ≤ 1
    exact Nat.max_le.mpr ⟨Nat.le_refl 1, depth_pairs ps⟩
theorem cr_minP (hc : X.calm = true) (hu : X.A.units + 64 < cLine) : CallR X (.builtin "min") (rMinP X.K) := by
  intro pins s σ H vs us Q I r h
  obtain ⟨l, xs, ps, rfl, hs, hd, hne, q⟩ := h
  obtain ⟨its, rv, hl, _⟩ := I.list hs
  rw [Vals.ref1 r]
  obtain ⟨as, ra⟩ := Dp.readsAll I _ xs its hd rv
  cases ps with
  | nil => exact absurd rfl hne
  | cons p ps =>
    have ha : PySem.W.AlikeAll ((p :: ps).map pP) := ⟨fun x hx y hy => by
      obtain ⟨a, _, rfl⟩ := List.mem_map.mp hx
      obtain ⟨b, _, rfl⟩ := List.mem_map.mp hy
      exact pP_alike a b, fun x hx => by
      obtain ⟨a, _, rfl⟩ := List.mem_map.mp hx
      exact fun z => by cases z⟩
    have hdp := depth_pairs (p :: ps)
    refine PySem.W.min_list_data (vs := its.toArray) (x := pP p) (xs := ps.map pP) (as := as) (I.ok.hd hc) hl.isList (by rw [List.toList_toArray]; exact ra) ha (by rw [List.map_cons] at hdp; omega) fun i v h' tk bs hv rb hk => ?_
    rw [minD_pairs] at rb
    have hv2 : its[i]? = some v := by simpa using hv
    have hil : i < xs.length := by rw [rv.length]; exact (List.getElem?_eq_some_iff.mp hv2).1
    obtain ⟨v', hv3, rw1⟩ := rv.get (List.getElem?_eq_getElem hil)
    rw [hv2] at hv3
    cases hv3
    obtain ⟨m, bs', hm, rm⟩ : ∃ (m : Int × Int) (bs' : List Addr), (p :: ps)[i]? = some m ∧ Reads s.heap v (pP m) bs' := by
      obtain ⟨bs', r1, r2, _, _⟩ := PySem.W.readsAll_at ra i v hv2
      have hl2 : i < (p :: ps).length := by rw [List.length_map] at r2; exact r2
      refine ⟨(p :: ps)[i], bs', List.getElem?_eq_getElem hl2, ?_⟩
      rw [List.getD_eq_getElem?_getD, List.getElem?_map, List.getElem?_eq_getElem hl2] at r1
      exact r1
    have em : m = minPr p ps := pP_inj (PySem.W.alike_unique _ _ v _ _ (pP_alike _ _) (PySem.W.reads_keeps hk rm) rb)
    exact ⟨_, H, I.kept hk, rw1, q i _ m (List.getElem?_eq_getElem hil) hm (by rw [em]; exact (minPr_spec ps p).2)⟩
end
theorem vals_erase : ∀ {xs : List V} {us : List Value} (j : Nat), Vals xs us → Vals (xs.eraseIdx j) (us.eraseIdx j)
  | _, _, _, .nil => .nil
  | _, _, 0, .cons _ r => r
  | _, _, j + 1, .cons a r => .cons a (vals_erase j r)
section
variable {X : Cx}
def rRemD (K : PySem.W.Frag) : V → List V → Hp → VK → Prop := fun x vs H Q => ∃ (l : Addr) (xs : List V) (y : V) (ds : List PyData) (d : PyData) (j : Nat), x = .ref l ∧ vs = [y] ∧ H l = some (.lst xs) ∧ DpAll K H xs ds ∧ Dp K H y d ∧ PyData.plainAll ds = true ∧ d.plain = true ∧ d.depth ≤ 40 ∧ PySem.SeqAt.dataPlace ds d = some j ∧ Q .non (upd H l (.lst (xs.eraseIdx j)))
theorem mt_removeD (hu : X.A.units + 64 < cLine) : MtM X "list.remove" (rRemD X.K) := by
  intro pins s σ H x vs v us Q I rx rv h
  obtain ⟨l, xs, y, ds, d, j, rfl, rfl, hH, hds, hd, p1, p2, p3, hp, q⟩ := h
  cases rx
  obtain ⟨u, rfl, ru⟩ := rv.one
  obtain ⟨z, its, n, r, hl, e⟩ := I.lstM hH
  obtain ⟨as, ra⟩ := Dp.readsAll I ds xs its hds r
  obtain ⟨bs, rb⟩ := Dp.reads I d y u hd ru
  have hlen : its.length = ds.length := by
    have := PySem.W.readsAll_len (vs := its.toArray) (h := s.heap) (xs := ds) (as := as) (by rw [List.toList_toArray]; exact ra)
    rw [List.size_toArray] at this
    exact this
  have hj : j < its.length := by
    rw [hlen]
    exact (List.findIdx?_eq_some_iff_findIdx_eq.mp hp).1
  refine PySem.SeqAt.remove_list_data (vs := its.toArray) ⟨_, e, rfl, n, rfl⟩ (by rw [List.toList_toArray]; exact ra) rb p1 p2 (by have := Nat.min_le_right (PyData.depthAll ds) d.depth; omega) hp (by rw [List.size_toArray]; omega) ?_
  refine ⟨.non, _, I.lset (its' := its.eraseIdx j) (t' := s.toks) hH e ?_ ?_ ?_, rfl, q⟩
  · show (its.toArray).eraseIdxIfInBounds j = (its.eraseIdx j).toArray
    simp [Array.eraseIdxIfInBounds, hj]
  · exact vals_erase j r
  · have := List.length_eraseIdx_le (l := xs) (i := j)
    omega
theorem pus_pairs : ∀ ps : List (Int × Int), pus (ps.map pD) = true ∧ toPys (ps.map pD) = ps.map pP
  | [] => ⟨rfl, rfl⟩
  | p :: ps => by
    obtain ⟨h1, h2⟩ := pus_pairs ps
    refine ⟨?_, ?_⟩
    · show (pu (pD p) && pus (ps.map pD)) = true
      rw [h1]; rfl
    · show toPy (pD p) :: toPys (ps.map pD) = pP p :: ps.map pP
      rw [h2]; rfl
theorem lstOf_rps {K : PySem.W.Frag} {al : List Addr} {F G H : Hp} {M : Sto} {x : V} {d : D} {ds : List D} (W : Wd K al F G H M) (r : Rp K F al x d) (e : lstOf d M = some ds) : ∃ l xs, x = .ref l ∧ SqL K H l xs ∧ Rps K F al xs ds := by
  cases r with
  | lst a b =>
    cases e
    exact ⟨_, _, rfl, SqL.of (W.sm _ _ a), b⟩
  | ref a =>
    unfold lstOf at e
    dsimp only at e
    split at e
    · next ds2 e2 =>
      cases e
      obtain ⟨xs, q, rs⟩ := W.cel _ _ _ e2 a
      exact ⟨_, xs, rfl, SqL.of q, rs⟩
    · cases e
  | _ => cases e
theorem rps_at {K : PySem.W.Frag} {F : Hp} {al : List Addr} : ∀ {xs : List V} {ds : List D}, Rps K F al xs ds → ∀ (i : Nat) (v : V) (d : D), xs[i]? = some v → ds[i]? = some d → Rp K F al v d
  | _, _, .nil, i, v, d, h, _ => by simp at h
  | _, _, .cons a r, 0, v, d, h1, h2 => by cases h1; cases h2; exact a
  | _, _, .cons a r, i + 1, v, d, h1, h2 => rps_at r i v d (by simpa using h1) (by simpa using h2)
def gMinP : G1 := fun x M Q => ∃ ps : List (Int × Int), lstOf x M = some (ps.map pD) ∧ ps ≠ [] ∧ ∀ m ∈ ps, (∀ q ∈ ps, pLe m q) → Q (pD m) M
theorem gMinP_mono : Mono1 gMinP := fun x M Q Q' w q => ⟨q.choose, q.choose_spec.1, q.choose_spec.2.1, fun m h1 h2 => w _ _ (q.choose_spec.2.2 m h1 h2)⟩
theorem o_minP (hc : X.calm = true) (hu : X.A.units + 64 < cLine) : ON X (.builtin "min") (g1 gMinP) := ON.of1 (cr_minP hc hu) gMinP_mono fun al F G H M x d Q W r q => by
  obtain ⟨ps, e, hne, k⟩ := q
  obtain ⟨l, xs, rfl, h1, rs⟩ := lstOf_rps W r e
  obtain ⟨p1, p2⟩ := pus_pairs ps
  refine ⟨l, xs, ps, rfl, h1, by rw [← p2]; exact dps_of W.sm rs p1, hne, fun i v m hv hm hle => ?_⟩
  exact kont.here (k m (List.mem_of_getElem? hm) hle) W (rps_at rs i v _ hv (by rw [List.getElem?_map, hm]; rfl))
/-- the method's reading, from its data, the frozen ones told -/
theorem mt_okS {step : List D → List D → (List D → D → Prop) → Prop} {r : PySem.W.Frag → V → List V → Hp → VK → Prop} {o : Expr} {es : List Expr} {fo : DTE} {fr : DTA} (ho : DE X o fo) (hr : DA X es fr)
    (hk : ∀ (K : PySem.W.Frag) al F (H : Hp) p xs ds us ys Q, Sm F H → H p = some (.lst xs) → Rps K F al xs ds → Rps K F al us ys → step ds ys (fun ds' d => ∀ xs' v, Rps K F al xs' ds' → Rp K F al v d → Q v (upd H p (.lst xs'))) → r K (.ref p) us H Q)
    (hst : ∀ ds ys (k k' : List D → D → Prop), (∀ a b, k a b → k' a b) → step ds ys k → step ds ys k') {σ : L2.St} {H : Hp} {Q : VK} (h : Lift X (dMt step fo fr) σ H Q) :
    tBM X.K "list" (r X.K) (Lift X fo) (LiftA X fr) σ H Q := by
  obtain ⟨ρ, M, al, F, G, W, s, q⟩ := h
  refine ho.seq W s q fun d M1 al1 F1 H1 v q1 e1 W1 r1 s1 => ?_
  cases d <;> first | exact q1.elim | skip
  obtain ⟨ds, e⟩ := q1.1.ex
  obtain ⟨p, xs, rfl, hp, hx, rs⟩ := cell_ok W1 r1 e
  refine ⟨.inl ⟨rfl, xs, SqL.of hx⟩, hr.seq W1 s1 q1.2 fun ys M2 al2 F2 H2 us q2 e2 W2 r2 s2 => ?_⟩
  try dsimp only at q2
  split at q2
  · next ds2 c2 =>
    obtain ⟨p2, xs2, z, hp2, hx2, rs2⟩ := cell_ok W2 (r1.ext e2) c2
    cases z
    refine hk X.K al2 F2 H2 p xs2 ds2 us ys Q W2.sm hx2 rs2 r2 (hst _ _ _ _ (fun ds' d k xs' v h1 h2 => ?_) q2)
    exact k al2 F2 _ _ (e1.trans e2) (W2.write hp2 ⟨xs', upd_same, h1⟩) h2
  · exact q2.elim
theorem rps_erase {K : PySem.W.Frag} {F : Hp} {al : List Addr} : ∀ {xs : List V} {ds : List D} (j : Nat), Rps K F al xs ds → Rps K F al (xs.eraseIdx j) (ds.eraseIdx j)
  | _, _, _, .nil => .nil
  | _, _, 0, .cons _ r => r
  | _, _, j + 1, .cons a r => .cons a (rps_erase j r)
theorem pds_plain : ∀ ps : List (Int × Int), PyData.plainAll (ps.map pP) = true
  | [] => rfl
  | p :: ps => by
    show (PyData.plain (pP p) && PyData.plainAll (ps.map pP)) = true
    rw [pds_plain ps]; rfl
/-- l.remove(p) of a list of pairs -/
def stRem : List D → List D → (List D → D → Prop) → Prop := fun ds ys k => ∃ (ps : List (Int × Int)) (p : Int × Int), ds = ps.map pD ∧ ys = [pD p] ∧ p ∈ ps ∧ k ((ps.erase p).map pD) .non
theorem stRem_mono : ∀ ds ys (k k' : List D → D → Prop), (∀ a b, k a b → k' a b) → stRem ds ys k → stRem ds ys k' := fun ds ys k k' w q => by
  obtain ⟨ps, p, h1, h2, h3, h4⟩ := q
  exact ⟨ps, p, h1, h2, h3, w _ _ h4⟩
theorem eqv_pP (p q : Int × Int) : PyData.eqv (pP p) (pP q) = decide (p = q) := by
  show (PyData.eqv (.int p.1) (.int q.1) && (PyData.eqv (.int p.2) (.int q.2) && true)) = _
  rw [show PyData.eqv (.int p.1) (.int q.1) = (p.1 == q.1) from rfl, show PyData.eqv (.int p.2) (.int q.2) = (p.2 == q.2) from rfl, Bool.and_true]
  rw [Bool.eq_iff_iff, Bool.and_eq_true, beq_iff_eq, beq_iff_eq, decide_eq_true_iff]
  exact ⟨fun h => Prod.ext h.1 h.2, fun h => by rw [h]; exact ⟨rfl, rfl⟩⟩
theorem place_erase : ∀ (ps : List (Int × Int)) (p : Int × Int), p ∈ ps → ∃ j, PySem.SeqAt.dataPlace (ps.map pP) (pP p) = some j ∧ ∀ {α : Type} (f : Int × Int → α), (ps.map f).eraseIdx j = (ps.erase p).map f
  | [], _, h => nomatch h
  | q :: ps, p, h => by
    by_cases e : q = p
    · subst e
      refine ⟨0, ?_, fun f => ?_⟩
      · show List.findIdx? _ (pP q :: ps.map pP) = some 0
        rw [List.findIdx?_cons, eqv_pP, decide_eq_true rfl]
        rfl
      · rw [List.erase_cons_head]
        rfl
    · have hm : p ∈ ps := by
        rcases List.mem_cons.mp h with z | z
        · exact absurd z.symm e
        · exact z
      obtain ⟨j, hj, hf⟩ := place_erase ps p hm
      refine ⟨j + 1, ?_, fun f => ?_⟩
      · show List.findIdx? _ (pP q :: ps.map pP) = some (j + 1)
        rw [List.findIdx?_cons, eqv_pP, decide_eq_false e]
        show Option.map (fun i => i + 1) (PySem.SeqAt.dataPlace (ps.map pP) (pP p)) = _
        rw [hj]
        rfl
      · rw [List.erase_cons_tail (by simpa using e), List.map_cons, List.map_cons, List.eraseIdx_cons_succ, hf f]
theorem d_remove (hu : X.A.units + 64 < cLine) {o e : Expr} {fo : DTE} {fr : DTA} {apos cpos : Pos} (ho : DE X o fo) (hr : DA X [e] fr) (hb : attributeBase o "remove" X.env (eval o X.env) = eval o X.env := by rfl)
    (h2 : ((backTo cpos (starEach [e] X.env)).all (fun x => !x.1) && (backToKw cpos (keywordEach [] X.env)).all (fun x => x.1.isSome) && decide ([e].length + ([] : List Keyword).length + (if ([] : List Keyword).isEmpty = true then 0 else 1) < 30)) = true := by rfl)
    (h3 : (apos.endLine == cpos.line) = true := by rfl) (h4 : starEach [e] X.env = (false, eval e X.env) :: starEach [] X.env := by rfl) (h5 : (backTo cpos (starEach [] X.env)).any (·.1) = false := by rfl) :
    DE X (.Call (.Attribute o "remove" apos) [e] [] cpos) (dMt stRem fo fr) :=
  ⟨PE.of (pe_bm PySem.F.plainAttrs_list PySem.F.slot_list_remove PySem.F.type_list_remove (mt_removeD hu) ho.pe hr.pa hb h2 h3 h4 h5) fun σ H Q h => mt_okS (r := rRemD) ho hr (fun K al F H p xs ds us ys Q sm hp rs r2 q => by
    obtain ⟨ps, p0, rfl, rfl, hm, k⟩ := q
    cases r2 with
    | cons a b =>
      cases b
      obtain ⟨j, hj, he⟩ := place_erase ps p0 hm
      obtain ⟨p1, p2⟩ := pus_pairs ps
      exact ⟨_, xs, _, ps.map pP, pP p0, j, rfl, rfl, hp, by rw [← p2]; exact dps_of sm rs p1, dp_of sm a rfl, pds_plain ps, rfl, Nat.le_of_ble_eq_true rfl, hj, k _ _ (by rw [← he pD]; exact rps_erase j rs) .non⟩) stRem_mono h, dMt_mono stRem_mono ho hr⟩
end
end DL
set_option maxHeartbeats 1000000
namespace DL
open PySem PySem.Spec PyProof.Rows L2 MT
end DL
set_option maxHeartbeats 1000000
namespace DL
open PySem PySem.Spec PyProof.Rows L2 MT
end DL
set_option maxHeartbeats 1000000
namespace DL
open PySem PySem.Spec PyProof.Rows L2 MT
end DL
set_option maxHeartbeats 1000000
namespace DL
open PySem PySem.Spec PyProof.Rows L2 MT
end DL
set_option maxHeartbeats 2000000
namespace DL
open PySem PySem.Spec PyProof.Rows L2
def setF (i : Nat) (v : Value) (o : Obj) : Obj := o.mapFields (·.setIfInBounds i v)
open L2H (RoomH Hot1 PinOk HotC)
end DL
set_option maxHeartbeats 2000000
namespace DL
open PySem PySem.Spec PyProof.Rows L2
end DL
set_option maxHeartbeats 2000000
namespace DL
open PySem PySem.Spec PyProof.Rows L2
inductive HdC (X : Cx) : List ExceptHandler → List Cla → Prop
  | nil : HdC X [] []
  | cons {t : Expr} {n : Str} {i : Nat} {cs : List Value} {ts : Addr → Value → Option Addr → TS} {b₀ : Stmt} {suite : List Stmt} {pos' : Pos} {hds : List ExceptHandler} {l : List Cla} (T : Tst X t cs) (hi : X.N[i]? = some n) (hln : X.env.kindOf n = some .local)
      (hsu : ∀ (a : Addr) (oe : Obj) (cls : Value) (d : Option Addr) (pn : List (Addr × Obj)), L2.Zc cls d oe → (∃ vs, oe.data = .fields vs) → PSs (X.suite a ((a, oe) :: pn)) (b₀ :: suite) (ts a cls d)) (r : HdC X hds l) :
      HdC X (.ExceptHandler (some t) (some n) (b₀ :: suite) pos' :: hds) ((cs, i, ts) :: l)
end DL
set_option maxHeartbeats 2000000
namespace DL
open PySem PySem.Spec PyProof.Rows L2
theorem FldOk.ext {K : PySem.W.Frag} {F F' : Hp} {al al' : List Addr} {o : Option Addr} {fs : List (Str × D)} (h : FldOk K F al o fs) (e : Ext al F al' F') : FldOk K F' al' o fs := by
  rcases h with h | ⟨q, vs, rfl, h1, h2, h3⟩
  · exact .inl h
  · exact .inr ⟨q, vs, rfl, e.sm _ _ h1, h2, h3.ext e⟩
inductive DHdC (X : Cx) : List ExceptHandler → List Dcl → Prop
  | nil : DHdC X [] []
  | cons {t : Expr} {n : Str} {i : Nat} {cs : List Value} {fs : Addr → Value → Option Addr → DTS} {b₀ : Stmt} {suite : List Stmt} {pos' : Pos} {hds : List ExceptHandler} {l : List Dcl} (T : Tst X t cs) (hi : X.N[i]? = some n) (hln : X.env.kindOf n = some .local)
      (hsu : ∀ (a : Addr) (oe : Obj) (cls : Value) (d : Option Addr) (pn : List (Addr × Obj)), L2.Zc cls d oe → (∃ vs, oe.data = .fields vs) → DSs (X.suite a ((a, oe) :: pn)) (b₀ :: suite) (fs a cls d)) (r : DHdC X hds l) :
      DHdC X (.ExceptHandler (some t) (some n) (b₀ :: suite) pos' :: hds) ((cs, i, fs) :: l)
theorem DHdC.hd {X : Cx} {hds : List ExceptHandler} {l : List Dcl} (h : DHdC X hds l) : HdC X hds (l.map (liftC X.K)) := by
  induction h with
  | nil => exact .nil
  | cons T hi hln hsu r ih => exact .cons T hi hln (fun a oe cls d pn hz hd => PSs.of (hsu a oe cls d pn hz hd).ps fun E σ H h => LiftSN.of h) ih
theorem DHdC.mono {X : Cx} {hds : List ExceptHandler} {l : List Dcl} (h : DHdC X hds l) : ∀ c ∈ l, ∀ a cls d, MonoS (c.2.2 a cls d) := by
  induction h with
  | nil => exact fun c hc => nomatch hc
  | cons T hi hln hsu r ih =>
    intro c hc a cls d
    rcases List.mem_cons.mp hc with rfl | hc
    · exact (hsu a { cls := cls, dict := d, data := .fields #[.none, .none, .none] } cls d [] ⟨rfl, rfl⟩ ⟨_, rfl⟩).mono
    · exact ih c hc a cls d
end DL
set_option maxHeartbeats 1000000
namespace DL
open PySem PySem.Spec PyProof.Rows L2 MT
end DL
set_option maxHeartbeats 1000000
namespace PySem
namespace SeqAt
open Builtin
end SeqAt
end PySem
namespace DL
open PySem PySem.Spec PyProof.Rows L2 MT
end DL
set_option maxHeartbeats 1000000
namespace DL
open PySem PySem.Spec PyProof.Rows L2 MT
end DL
namespace DL
open PySem PySem.Spec PyProof.Rows L2 LamX NdefX
structure LF where
  params : Arguments
  body : Expr
  scope : Scope
  qual : Str
  cl : List (Str × Addr)
  c : Addr
abbrev LF.nf (L : LF) : NF := ⟨"<lambda>", L.qual, L.params, [], L.scope, L.cl, L.c⟩
abbrev LF.ob (L : LF) (pm ctv : Value) : Obj := PySem.W.kla_obj "<lambda>" L.qual L.params L.body L.scope L.cl pm L.c ctv
/-- the captured cells, in the base -/
structure CellsB (base : Heap) (cl : List (Str × Addr)) (fr : List Str) (vs : List V) : Prop where
  len : vs.length = fr.length
  all : ∀ y c, cl.lookup y = some c → ∃ v, base.IsCell c v
  inj : ∀ x y c, cl.lookup x = some c → cl.lookup y = some c → x = y
  has : ∀ (i : Nat) (y : Str), fr[i]? = some y → ∃ c, cl.lookup y = some c ∧ ∀ v, vs[i]? = some v → ∃ u, L2.RelV v u ∧ base.IsCell c (some u)
theorem CellsB.at_ {base : Heap} {cl : List (Str × Addr)} {fr : List Str} {vs : List V} (C : CellsB base cl fr vs) {h : Heap} {H : Hp} (bs : ∀ b o, base.get? b = some o → h.get? b = some o ∧ H b = none) : CellsAt cl fr (vs.map some) h H := by
  have up : ∀ {c v}, base.IsCell c v → h.IsCell c v ∧ H c = none := fun {c v} ⟨o, e, d⟩ => ⟨⟨o, (bs _ _ e).1, d⟩, (bs _ _ e).2⟩
  refine ⟨by rw [List.length_map]; exact C.len, fun y c e => ?_, C.inj, fun i y e => ?_⟩
  · obtain ⟨v, z⟩ := C.all y c e
    exact ⟨(up z).2, v, (up z).1⟩
  · obtain ⟨c, hc, hv⟩ := C.has i y e
    refine ⟨c, hc, fun v ev => ?_⟩
    rw [List.getElem?_map] at ev
    cases q : vs[i]? with
    | none => rw [q] at ev; cases ev
    | some z =>
      rw [q] at ev
      cases ev
      obtain ⟨u, r, y⟩ := hv _ q
      exact ⟨u, r, (up y).1⟩
end DL
namespace DL
open PySem PySem.Spec PyProof.Rows L2 LamX NdefX
/-- what the def that makes the lambda must be: its code object, its table, among the marks -/
structure LamAt (K : PySem.W.Frag) (mg : Str → Option Value) (code : Value) (qual : Str) : Prop where
  ex : ∃ c P : Addr, code = .ref c ∧ (∀ base : Heap, K.In base → TabB base mg c P) ∧ (P, qual ++ "<lambda>") ∈ Tk K ∧ ∀ p ∈ Tk K, p.1 = P → p.2 = qual ++ "<lambda>"
theorem Wd.code {K : PySem.W.Frag} {al : List Addr} {F G H : Hp} {M : Sto} {P d : Addr} {q : Str} {ps : Array Value} {pos : Pos} (W : Wd K al F G H M) (hp : (P, q) ∈ Tk K) (hu : ∀ p ∈ Tk K, p.1 = P → p.2 = q) (hP : H P = some (.tbl ps)) (hd : H d = none) :
    Wd K al (upd F d (CodeO d q)) G (upd (upd H P (.tbl (ps ++ #[rawInt pos.line, rawInt pos.col, .ref d]))) d (CodeO d q)) M ∧ Ext al F al (upd F d (CodeO d q)) := by
  have t := W.tb _ hp
  have nPd : P ≠ d := ne_of_none hP hd
  have eF : Ext al F al (upd F d (CodeO d q)) := ⟨⟨[], by simp⟩, Sm.new (W.sm.free hd)⟩
  have off : ∀ b, b ≠ P → b ≠ d → upd (upd H P (.tbl (ps ++ #[rawInt pos.line, rawInt pos.col, .ref d]))) d (CodeO d q) b = H b := fun b z1 z2 => by rw [upd_ne z2, upd_ne z1]
  have notP : ∀ b, b ∈ al → b ≠ P := fun b hb z => t.na (z ▸ hb)
  refine ⟨⟨fun b o e => ?_, fun b o e => ?_, fun b o e => ⟨?_, (W.fg b o e).2⟩, W.len, W.nd, fun b hb => ?_, fun n c b e1 e2 => ?_, fun p hp2 => ?_⟩, eF⟩
  · by_cases hb : b = d
    · subst hb; rw [upd_same] at e ⊢; exact e
    · rw [upd_ne hb] at e
      rw [off b (fun z => by rw [z, t.nf] at e; cases e) hb]
      exact W.sm b o e
  · rw [off b (fun z => by rw [z, t.ng] at e; cases e) (ne_of_none (W.sg b o e) hd)]
    exact W.sg b o e
  · rw [upd_ne (ne_of_none (W.sg b o e) hd)]
    exact (W.fg b o e).1
  · rw [upd_ne (show b ≠ d from fun z => W.notin hd (z ▸ hb))]
    exact W.out b hb
  · have hb := List.mem_of_getElem? e2
    exact (W.cel n c b e1 e2).ext eF (off b (notP b hb) fun z => W.notin hd (z ▸ hb))
  · have t2 := W.tb p hp2
    obtain ⟨qs, y1, y2, y3⟩ := t2.ok
    have npd : p.1 ≠ d := ne_of_none y1 hd
    refine ⟨?_, (upd_ne npd).trans t2.nf, t2.ng, t2.na⟩
    by_cases hb : p.1 = P
    · have eq : qs = ps := by rw [hb, hP] at y1; cases y1; rfl
      subst eq
      have eL : (qs ++ #[rawInt pos.line, rawInt pos.col, .ref d]).toList = qs.toList ++ [rawInt pos.line, rawInt pos.col, .ref d] := by simp
      refine ⟨_, by rw [hb, upd_ne nPd, upd_same], by rw [eL]; exact PySem.TriplesOk_snoc _ _ _ _ y2, fun pos2 cv z => ?_⟩
      rw [eL] at z
      rcases among_app _ y2 z with z | z
      · obtain ⟨c0, w1, w2⟩ := y3 pos2 cv z
        exact ⟨c0, w1, eF.sm _ _ w2⟩
      · refine ⟨d, z, ?_⟩
        rw [hu p hp2 hb]
        exact upd_same
    · exact ⟨qs, by rw [off p.1 hb npd]; exact y1, y2, fun pos2 cv z => let ⟨c0, w1, w2⟩ := y3 pos2 cv z; ⟨c0, w1, eF.sm _ _ w2⟩⟩
/-- how the lambda's names lie to those of the def that makes it -/
structure LamS (X : Cx) (scope : Scope) (fr : List Str) (js : List Nat) : Prop where
  free : ∀ y ∈ scope.names, y.2 = .free → X.env.scope.names.lookup y.1 = some .cell ∨ X.env.scope.names.lookup y.1 = some .free
  frm : ∀ y ∈ fr, (y, NameKind.free) ∈ scope.names
  js : js.map (fun j => X.N[j]?) = fr.map some
  fn : ∀ y, X.fn y = true
section
variable {X : Cx} {pins : List (Addr × Obj)} {σ : L2.St} {H : Hp} {s : Shared} {scope : Scope} {fr : List Str} {js : List Nat}
theorem LamS.has (L : LamS X scope fr js) (ok : X.Ok) : ∀ y ∈ scope.names, y.2 = .free → ∃ c, X.env.cells.lookup y.1 = some c := fun y hy e => (L.free y hy e).elim (fun z => ok.has _ (.inl z)) fun z => ok.has _ (.inr z)
end
structure LamD (K : PySem.W.Frag) (mg : Str → Option Value) (x q : Str) : Prop where
  ex : ∀ f : Addr, mg x = some (.ref f) → ∃ c P P' q', tabAt K f = some (c, P', q') ∧ P' = P ∧ (∀ base : Heap, K.In base → TabB base mg c P) ∧ (P, q) ∈ Tk K ∧ ∀ p ∈ Tk K, p.1 = P → p.2 = q
theorem LamD.at_ {K : PySem.W.Frag} {mg : Str → Option Value} {x x2 q qual : Str} {st : Stmt} {f : Addr} {fd : FuncData} {cdv : Value} (L : LamD K mg x q) (hm : mg x = some (.ref f)) (F : Fun K x2 qual st f fd) (hc : fd.code = cdv) {qe : Str} (hq : qe ++ "<lambda>" = q) : LamAt K mg cdv qe := by
  obtain ⟨c, P, P', q', h1, rfl, h3, h4, h5⟩ := L.ex f hm
  obtain ⟨oc, od, kV, doc, pm, an, cd2, ct, osl, rfl, lk, _⟩ := F.ex
  subst hq
  refine ⟨c, P', ?_, h3, h4, h5⟩
  rw [← hc]
  unfold tabAt at h1
  rw [lk] at h1
  dsimp only at h1 ⊢
  split at h1
  · next c2 e2 =>
    split at h1
    · split at h1
      · cases h1
        rfl
      · cases h1
    · cases h1
  · cases h1
end DL
namespace DL
open PySem PySem.Spec PyProof.Rows L2 LamX NdefX
end DL
set_option maxHeartbeats 1000000
namespace DL
open PySem PySem.Spec PyProof.Rows L2
section
variable {X : Cx}
def rGetL (K : PySem.W.Frag) : V → V → Hp → VK → Prop := fun o i H Q => ∃ p xs k z, o = .ref p ∧ i = .int k ∧ 0 ≤ k ∧ SqL K H p xs ∧ atI xs k = some z ∧ Q z H
theorem get_list : PGet X (rGetL X.K) := by
  intro pins s σ H o i ov iv Q I ro ri h
  obtain ⟨p, xs, k, z, rfl, rfl, h0, hq, he, q⟩ := h
  cases ro
  obtain ⟨t, rfl⟩ := ri
  obtain ⟨its, r, pl, hz⟩ := I.list hq
  obtain ⟨j, h1, h2, h3, h4, h5⟩ := atI_get he
  obtain ⟨w, ew, rw'⟩ := r.get h2
  have hl := r.length
  have hn := line63
  have hj : k.toNat = j := by
    rw [seqIndex_of h0 h5] at h1
    exact Option.some.inj h1
  exact wpAny_getItem_list pl.isList h0 (by omega) (by rw [hj]; simpa using ew) ⟨z, H, I, rw', q⟩
/-- a op= b on ints, by data -/
structure IpD (X : Cx) (op : Operator) (c : Int → Int → Prop) (f : Int → Int → Int) : Prop where
  run : PIp X op (fun x y H Q => ∃ i j, x = .int i ∧ y = .int j ∧ c i j ∧ Q (.int (f i j)) H)
theorem ipd_mul : IpD X .Mult CMulW fun i j => i * j := ⟨fun pins s σ H x y v u Q I r1 r2 ⟨i, j, e1, e2, hc, q⟩ => by
  subst e1; subst e2
  obtain ⟨t, rfl⟩ := r1
  obtain ⟨t', rfl⟩ := r2
  exact imul_int (hm := hc.ok) ⟨.int _, H, I.tok _, ⟨_, rfl⟩, q⟩⟩
variable {o i e : Expr} {fo fi fe : DTE} {op : Operator} {pos tpos : Pos} {c : Int → Int → Prop} {f : Int → Int → Int}
@[reducible] def dAugI (c : Int → Int → Prop) (f : Int → Int → Int) (fo fi fe : DTE) : DTS := fun D ρ M => fo ρ M fun x M1 => fi ρ M1 fun y M2 => match x, y with
  | .ref n, .int k => 0 ≤ k ∧ match M2[n]? with
    | some (.lst ds) => match atI ds k with
      | some (.int a) => fe ρ M2 fun z M3 => match z with
        | .int b => c a b ∧ match M3[n]? with
          | some (.lst es) => es.length = ds.length ∧ D.nx ρ (M3.set n (.lst (es.set k.toNat (.int (f a b)))))
          | _ => False
        | _ => False
      | _ => False
    | _ => False
  | _, _ => False
theorem ds_augI (hop : IpD X op c f) (ho : DE X o fo) (hi : DE X i fi) (he : DE X e fe)
    (ha : ∀ ov iv new, augStore i ov iv new = (do holding [new, ov, iv] (setItem ov iv new); release [new, ov, iv] []; pure .next) := by intros; rfl) :
    DS X (.AugAssign (.Subscript o i tpos) op e pos) (dAugI c f fo fi fe) := by
  refine ⟨PS.of (ps_augS ho.pe hi.pe get_list he.pe hop.run set_list ha) fun E σ H ⟨ρ, M, al, F, G, W, s, q⟩ => ?_, fun D D' ρ M w q => ho.mono _ _ _ _ (fun x M1 q1 => hi.mono _ _ _ _ (fun y M2 q2 => ?_) q1) q⟩
  · refine ho.seq W s q fun x M1 al1 F1 H1 ov q1 e1 W1 r1 s1 => ?_
    refine hi.seq W1 s1 q1 fun y M2 al2 F2 H2 iv q2 e2 W2 r2 s2 => ?_
    split at q2
    · next n k =>
      obtain ⟨h0, q3⟩ := q2
      split at q3
      · next ds em =>
        split at q3
        · next a ea =>
          obtain ⟨p, xs, rfl, hp, hx, rs⟩ := cell_ok W2 (r1.ext e2) em
          cases r2
          obtain ⟨z, hz, rz⟩ := rs.at ea
          cases rz
          refine ⟨p, xs, k, _, rfl, rfl, h0, SqL.of hx, hz, ?_⟩
          refine he.seq W2 s2 q3 fun y M3 al3 F3 H3 u q4 e3 W3 r3 s3 => ?_
          split at q4
          · next b =>
            obtain ⟨hc, q5⟩ := q4
            cases r3
            refine ⟨a, b, rfl, rfl, hc, ?_⟩
            split at q5
            · next es em2 =>
              obtain ⟨hl, q6⟩ := q5
              obtain ⟨p', xs', hpp, hp', hx', rs'⟩ := cell_ok W3 ((r1.ext e2).ext e3) em2
              cases hpp
              have hix : ixN xs'.length k = some k.toNat := by
                obtain ⟨j, g1, g2, g3, g4, g5⟩ := atI_get hz
                have l1 := rs.length
                have l2 := rs'.length
                exact ixN_of h0 (by omega)
              refine ⟨p, xs', k, k.toNat, rfl, rfl, hx', hix, ?_⟩
              exact q6 al3 F3 _ σ (e1.trans (e2.trans e3)) (W3.write hp' ⟨_, upd_same, Rps.set (.int _) k.toNat rs'⟩) s3.sl rfl
            · exact q5.elim
          · exact q4.elim
        · exact q3.elim
      · exact q3.elim
    · exact q2.elim
  · try dsimp only at q2 ⊢
    split at q2
    · obtain ⟨h0, q3⟩ := q2
      refine ⟨h0, ?_⟩
      split at q3
      · split at q3
        · refine he.mono _ _ _ _ (fun z M3 q4 => ?_) q3
          split at q4
          · obtain ⟨hc, q5⟩ := q4
            refine ⟨hc, ?_⟩
            split at q5
            · exact ⟨q5.1, w.nx _ _ q5.2⟩
            · exact q5.elim
          · exact q4.elim
        · exact q3.elim
      · exact q3.elim
    · exact q2.elim
/-- * of great ints -/
@[reducible] def gMulW : G2 := fun x y M Q => match x, y with
  | .int i, .int j => CMulW i j ∧ Q (.int (i * j)) M
  | _, _ => False
theorem gMulW_mono : Mono2 gMulW := fun x y M Q Q' w q => by
  unfold gMulW at q ⊢
  split at q
  · exact ⟨q.1, w _ _ q.2⟩
  · exact q.elim
theorem o_mulW : O2 X (binaryOp .Mult) gMulW := O2.of op_mulW gMulW_mono fun al F G H M x y dx dy Q W r1 r2 q => by
  unfold gMulW at q
  split at q
  · cases r1; cases r2
    exact ⟨_, _, rfl, rfl, q.1, kont.here q.2 W (.int _)⟩
  · exact q.elim
/-- list.index of None in a list of ints and None that nobody changes -/
def optV : Option Int → V
  | none => .non
  | some i => .int i
theorem rps_opt {K : PySem.W.Frag} {F : Hp} {al : List Addr} : ∀ {os : List (Option Int)} {vs : List V}, Rps K F al vs (os.map optD) → vs = os.map optV
  | [], vs, r => by cases r; rfl
  | o :: os, vs, r => by
    cases r with
    | cons r1 r2 =>
      rw [rps_opt r2]
      cases o <;> (cases r1; rfl)
theorem all_opt (os : List (Option Int)) : (os.map optV).all flatV = true := by
  induction os with
  | nil => rfl
  | cons o os ih => rw [List.map_cons, List.all_cons, ih]; cases o <;> rfl
@[reducible] def dIxN (fo : DTE) (fr : DTA) : DTE := fun ρ M Q => fo ρ M fun o M1 => match o with
  | .lst xs => fr ρ M1 fun ds M2 => match ds with
    | [.non] => ∃ (os : List (Option Int)) (j : Nat), xs = os.map optD ∧ os[j]? = some none ∧ (∀ m, m < j → ∀ z, os[m]? = some z → z ≠ none) ∧ Q (.int j) M2
    | _ => False
  | _ => False
variable {o e : Expr} {fo : DTE} {fr : DTA} {apos cpos : Pos}
theorem d_indexN (ho : DE X o fo) (hr : DA X [e] fr) (hb : attributeBase o "index" X.env (eval o X.env) = eval o X.env := by rfl)
    (h2 : ((backTo cpos (starEach [e] X.env)).all (fun x => !x.1) && (backToKw cpos (keywordEach [] X.env)).all (fun x => x.1.isSome) && decide ([e].length + ([] : List Keyword).length + (if ([] : List Keyword).isEmpty = true then 0 else 1) < 30)) = true := by rfl)
    (h3 : (apos.endLine == cpos.line) = true := by rfl) (h4 : starEach [e] X.env = (false, eval e X.env) :: starEach [] X.env := by rfl) (h5 : (backTo cpos (starEach [] X.env)).any (·.1) = false := by rfl) :
    DE X (.Call (.Attribute o "index" apos) [e] [] cpos) (dIxN fo fr) := by
  refine ⟨PE.of (pe_bm PySem.F.plainAttrs_list PySem.F.slot_list_index PySem.F.type_list_index mt_index ho.pe hr.pa hb h2 h3 h4 h5) fun σ H Q ⟨ρ, M, al, F, G, W, s, q⟩ => ?_, fun ρ M Q Q' w q => ho.mono _ _ _ _ (fun d M1 q1 => ?_) q⟩
  · refine ho.seq W s q fun d M1 al1 F1 H1 v q1 e1 W1 r1 s1 => ?_
    cases d <;> first | exact q1.elim | skip
    next xs =>
    obtain ⟨p, zs, rfl, h1, rs⟩ := seqOf_ok W1 r1 (show seqOf (.lst xs) M1 = some xs from rfl)
    refine ⟨.inl ⟨rfl, zs, SqL.of h1⟩, hr.seq W1 s1 q1 fun ys M2 al2 F2 H2 us q2 e2 W2 r2 s2 => ?_⟩
    obtain ⟨p2, zs2, z, h2, rs2⟩ := seqOf_ok W2 (r1.ext e2) (show seqOf (.lst xs) M2 = some xs from rfl)
    cases z
    try dsimp only at q2
    split at q2
    · obtain ⟨os, j, rfl, hj, hm, q3⟩ := q2
      cases r2 with
      | cons ra rb =>
        cases ra
        cases rb
        have hz := rps_opt rs2
        subst hz
        refine ⟨p, _, _, j, .non, rfl, rfl, SqL.of h2, rfl, all_opt os, by rw [List.getElem?_map, hj]; rfl, rfl, fun m z hm2 hz => ?_, q3 al2 F2 H2 _ (e1.trans e2) W2 (.int _)⟩
        rw [List.getElem?_map] at hz
        obtain ⟨c, hc, rfl⟩ := Option.map_eq_some_iff.mp hz
        have := hm m hm2 c hc
        cases c
        · exact absurd rfl this
        · rfl
    · exact q2.elim
  · cases d <;> first | exact q1.elim | skip
    refine hr.mono _ _ _ _ (fun ds M2 q2 => ?_) q1
    try dsimp only at q2 ⊢
    split at q2
    · obtain ⟨os, j, h1, h2, h3, h4⟩ := q2
      exact ⟨os, j, h1, h2, h3, w _ _ h4⟩
    · exact q2.elim
end
end DL
namespace Law
open PySem PySem.Spec PyProof.Rows L2 DL MT
local macro_rules | `(tactic| walk_at "go1") => `(tactic| ((repeat (first | (with_reducible conv => whnf); (simp only [lk_states, lk_tables, lk_notes, lk_standing, lk_watching, seqDs_lt, seqDs_tt, seqDs_tl, seqDs_ll, seqD_tup, seqD_lst, tyNm_non, tyNm_bl, tyNm_int, tyNm_str, tyNm_tup, tyNm_lst, tyNm_dct, tabInt_NoneType, tabInt_bool, tabInt_int, tabInt_str, tabInt_tuple, tabInt_list, tabInt_dict, tabBool_NoneType, tabBool_bool, tabBool_int, tabBool_str, tabBool_tuple, tabBool_list, tabBool_dict, tabTuple_NoneType, tabTuple_bool, tabTuple_int, tabTuple_str, tabTuple_tuple, tabTuple_list, tabTuple_dict, tabStr_NoneType, tabStr_bool, tabStr_int, tabStr_str, tabStr_tuple, tabStr_list, tabStr_dict, tabList_NoneType, tabList_bool, tabList_int, tabList_str, tabList_tuple, tabList_list, tabList_dict, vw_tup, vw_lst, vw_int, vw_str, vw_bl, vw_non, get_ga, get_gb, set_ga, set_gb, range_2, gTru, decide_true, len_snoc, get_newS, set_newS, List.getLast?_concat, rng_two, List.dropLast_concat, List.flatten_cons, List.flatten_nil, Bool.false_eq_true, reduceIte, Bool.not_true, Bool.not_false, get_new, get_new1, set_new, set_new1, atI_back, atI_back2, Int.zero_add, itemsOf_tup, itemsOf_lst, itemsOf_ref, seqOf_lst, seqOf_ref, lenOf_tup, lenOf_lst, lenOf_ref, List.getElem?_cons_zero, List.getElem?_cons_succ, List.set_cons_zero, List.set_cons_succ, List.cons_append, List.nil_append, List.length_cons, List.length_nil, List.length_map, List.length_append, Nat.zero_add, atI_0, atI_1, atI_2, atI_3, ixN_0, ixN_1, Option.bind_some, Option.map_some, Bool.xor_false, Bool.xor_true, startD, DL.isNon, List.map_cons, List.map_nil, List.replicate_succ, List.replicate_zero, List.append_nil, Nat.reduceAdd, Nat.reduceSub, Int.reduceToNat, Int.reducePow, Int.reduceNeg, Int.reduceSub, Int.reduceAdd, Int.reduceMul, wipeD]) | (with_reducible conv => whnf); (with_reducible refine And.intro ?side ?_); (case side => first | (with_reducible assumption) | (with_reducible rfl) | omega | decide | (exact ⟨by omega, by omega, by omega⟩) | (exact ⟨by omega, by omega⟩) | (unfold CMul; omega) | (exact ⟨_, get_new _ _⟩) | (exact ⟨_, get_new1 _ _ _⟩) | (exact ⟨_, get_newS _ _ _⟩) | (exact ⟨_, get_ga _ _ _ _⟩) | (exact ⟨_, get_gb _ _ _ _ _⟩) | (exact ⟨_, rfl⟩)))); (with_reducible conv => whnf)))
local macro_rules | `(tactic| walk_at "go4") => `(tactic| ((repeat (first | (simp only [dSeq, dAsg, dBin, dUn, dVar, dC, dNil, dCons, dApp, dTru, dBl, dAnd, dOr, dNot, dAndV, dOrV, dNotV, dIf, dIfS, dNext, dDrop, dRet, dRetN, dPar, dPar3, dgName, dgNil, dgCons, dgTup, dgSub, dTup, dLst, dLstM, dStar, dSl, dSlS, dNoPart, dPart, dMt, dMt0, stApp, stPop, dExt, diEnum, diEnum2, diEnumR, gMulA, dChain, dCall, dIsi, dYes, diSeq, diStr, dM1, dIsiC, gEqI, dgStar1L, dNeverE, dOrT, diR1, diR2, diR3, diZip, g1, g2I, gI0, gInt, gAdd, gMul, gMulM, gAddM, gNeg, gLen, lenOf, gTuple, gList, gAbs, gIx, gSl, gTru, gIsN, gInt1, gStrI, seqOf, itemsOf, spF, List.map_cons, List.map_nil, List.length_cons, List.length_nil, List.append_nil, List.cons_append, List.nil_append, List.getElem?_cons_zero, List.getElem?_cons_succ, List.set_cons_zero, List.set_cons_succ, Nat.reduceAdd, Nat.reduceSub, Option.bind_some, Option.map_some, Bool.xor_false, Bool.xor_true, dRevT, lk_states, lk_tables, lk_notes, lk_standing, lk_watching, seqDs_lt, seqDs_tt, seqDs_tl, seqDs_ll, seqD_tup, seqD_lst, tyNm_non, tyNm_bl, tyNm_int, tyNm_str, tyNm_tup, tyNm_lst, tyNm_dct, tabInt_NoneType, tabInt_bool, tabInt_int, tabInt_str, tabInt_tuple, tabInt_list, tabInt_dict, tabBool_NoneType, tabBool_bool, tabBool_int, tabBool_str, tabBool_tuple, tabBool_list, tabBool_dict, tabTuple_NoneType, tabTuple_bool, tabTuple_int, tabTuple_str, tabTuple_tuple, tabTuple_list, tabTuple_dict, tabStr_NoneType, tabStr_bool, tabStr_int, tabStr_str, tabStr_tuple, tabStr_list, tabStr_dict, tabList_NoneType, tabList_bool, tabList_int, tabList_str, tabList_tuple, tabList_list, tabList_dict, vw_tup, vw_lst, vw_int, vw_str, vw_bl, vw_non, get_ga, get_gb, set_ga, set_gb, range_2, decide_true, len_snoc, get_newS, set_newS, List.getLast?_concat, rng_two, List.dropLast_concat, Bool.false_eq_true, reduceIte, Bool.not_true, Bool.not_false, get_new, get_new1, set_new, set_new1, atI_back, atI_back2, Int.zero_add, itemsOf_tup, itemsOf_lst, itemsOf_ref, seqOf_lst, seqOf_ref, lenOf_tup, lenOf_lst, lenOf_ref, List.length_map, List.length_append, Nat.zero_add, atI_0, atI_1, atI_2, atI_3, ixN_0, ixN_1, DL.isNon, Int.reduceToNat, Int.reducePow, Int.reduceNeg, Int.reduceSub, Int.reduceAdd, Int.reduceMul]) | (with_reducible refine And.intro ?side ?_); (case side => first | (with_reducible assumption) | (with_reducible rfl) | omega | decide | (exact ⟨by omega, by omega, by omega⟩) | (exact ⟨by omega, by omega⟩) | (unfold CMul; omega) | (exact ⟨_, get_new _ _⟩) | (exact ⟨_, get_new1 _ _ _⟩) | (exact ⟨_, get_newS _ _ _⟩) | (exact ⟨_, get_ga _ _ _ _⟩) | (exact ⟨_, get_gb _ _ _ _ _⟩) | (exact ⟨_, rfl⟩))))))
local macro_rules | `(tactic| walk_at "go3") => `(tactic| ((repeat (first | (with_reducible conv => whnf); (simp only [lk_states, lk_tables, lk_notes, lk_standing, lk_watching, seqDs_lt, seqDs_tt, seqDs_tl, seqDs_ll, seqD_tup, seqD_lst, tyNm_non, tyNm_bl, tyNm_int, tyNm_str, tyNm_tup, tyNm_lst, tyNm_dct, tabInt_NoneType, tabInt_bool, tabInt_int, tabInt_str, tabInt_tuple, tabInt_list, tabInt_dict, tabBool_NoneType, tabBool_bool, tabBool_int, tabBool_str, tabBool_tuple, tabBool_list, tabBool_dict, tabTuple_NoneType, tabTuple_bool, tabTuple_int, tabTuple_str, tabTuple_tuple, tabTuple_list, tabTuple_dict, tabStr_NoneType, tabStr_bool, tabStr_int, tabStr_str, tabStr_tuple, tabStr_list, tabStr_dict, tabList_NoneType, tabList_bool, tabList_int, tabList_str, tabList_tuple, tabList_list, tabList_dict, vw_tup, vw_lst, vw_int, vw_str, vw_bl, vw_non, get_ga, get_gb, set_ga, set_gb, range_2, gTru, decide_true, len_snoc, get_newS, set_newS, List.getLast?_concat, rng_two, List.dropLast_concat, Bool.false_eq_true, reduceIte, Bool.not_true, Bool.not_false, get_new, get_new1, set_new, set_new1, atI_back, atI_back2, Int.zero_add, itemsOf_tup, itemsOf_lst, itemsOf_ref, seqOf_lst, seqOf_ref, lenOf_tup, lenOf_lst, lenOf_ref, List.getElem?_cons_zero, List.getElem?_cons_succ, List.set_cons_zero, List.set_cons_succ, List.cons_append, List.nil_append, List.length_cons, List.length_nil, List.length_map, List.length_append, Nat.zero_add, atI_0, atI_1, atI_2, atI_3, ixN_0, ixN_1, Option.bind_some, Option.map_some, Bool.xor_false, Bool.xor_true, startD, DL.isNon, List.map_cons, List.map_nil, List.append_nil, Nat.reduceAdd, Nat.reduceSub, Int.reduceToNat, Int.reducePow, Int.reduceNeg, Int.reduceSub, Int.reduceAdd, Int.reduceMul, wipeD]) | (with_reducible conv => whnf); (with_reducible refine And.intro ?side ?_); (case side => first | (with_reducible assumption) | (with_reducible rfl) | omega | decide | (exact ⟨by omega, by omega, by omega⟩) | (exact ⟨by omega, by omega⟩) | (unfold CMul; omega) | (exact ⟨_, get_new _ _⟩) | (exact ⟨_, get_new1 _ _ _⟩) | (exact ⟨_, get_newS _ _ _⟩) | (exact ⟨_, get_ga _ _ _ _⟩) | (exact ⟨_, get_gb _ _ _ _ _⟩) | (exact ⟨_, rfl⟩)))); (with_reducible conv => whnf)))
local macro_rules | `(tactic| walk_at "go2") => `(tactic| ((repeat (first | (with_reducible conv => whnf); (simp only [lk_states, lk_tables, lk_notes, lk_standing, lk_watching, seqDs_lt, seqDs_tt, seqDs_tl, seqDs_ll, seqD_tup, seqD_lst, tyNm_non, tyNm_bl, tyNm_int, tyNm_str, tyNm_tup, tyNm_lst, tyNm_dct, tabInt_NoneType, tabInt_bool, tabInt_int, tabInt_str, tabInt_tuple, tabInt_list, tabInt_dict, tabBool_NoneType, tabBool_bool, tabBool_int, tabBool_str, tabBool_tuple, tabBool_list, tabBool_dict, tabTuple_NoneType, tabTuple_bool, tabTuple_int, tabTuple_str, tabTuple_tuple, tabTuple_list, tabTuple_dict, tabStr_NoneType, tabStr_bool, tabStr_int, tabStr_str, tabStr_tuple, tabStr_list, tabStr_dict, tabList_NoneType, tabList_bool, tabList_int, tabList_str, tabList_tuple, tabList_list, tabList_dict, vw_tup, vw_lst, vw_int, vw_str, vw_bl, vw_non, get_ga, get_gb, set_ga, set_gb, range_2, gTru, decide_true, len_snoc, get_newS, set_newS, List.getLast?_concat, rng_two, List.dropLast_concat, List.flatten_cons, List.flatten_nil, Bool.false_eq_true, reduceIte, Bool.not_true, Bool.not_false, get_new, get_new1, set_new, set_new1, atI_back, atI_back2, Int.zero_add, itemsOf_tup, itemsOf_lst, itemsOf_ref, seqOf_lst, seqOf_ref, lenOf_tup, lenOf_lst, lenOf_ref, List.getElem?_cons_zero, List.getElem?_cons_succ, List.set_cons_zero, List.set_cons_succ, List.cons_append, List.nil_append, List.length_cons, List.length_nil, List.length_map, List.length_append, Nat.zero_add, atI_0, atI_1, atI_2, atI_3, ixN_0, ixN_1, Option.bind_some, Option.map_some, Bool.xor_false, Bool.xor_true, startD, DL.isNon, List.map_cons, List.map_nil, List.replicate_succ, List.replicate_zero, List.append_nil, Nat.reduceAdd, Nat.reduceSub, Int.reduceToNat, Int.reducePow, Int.reduceNeg, Int.reduceSub, Int.reduceAdd, Int.reduceMul, wipeD, get_dkA, get_dkB, get_dkC, set_dkA, set_dkB, set_dkC, intsOf_ints, eqv_tabs]) | (with_reducible conv => whnf); (with_reducible refine And.intro ?side ?_); (case side => first | (with_reducible assumption) | (with_reducible rfl) | omega | decide | (exact ⟨by omega, by omega, by omega⟩) | (exact ⟨by omega, by omega⟩) | (unfold CMul; omega) | (exact ⟨_, get_new _ _⟩) | (exact ⟨_, get_new1 _ _ _⟩) | (exact ⟨_, get_newS _ _ _⟩) | (exact ⟨_, get_ga _ _ _ _⟩) | (exact ⟨_, get_gb _ _ _ _ _⟩) | (exact ⟨_, get_dkA _ _ _ _ _⟩) | (exact ⟨_, get_dkB _ _ _ _ _ _⟩) | (exact ⟨_, get_dkC _ _ _ _ _ _ _⟩) | (exact ⟨_, rfl⟩)))); (with_reducible conv => whnf)))
theorem sc_sums_of : FnScope ["counts", "found", "count"] ["counts"] (defScope s_sums_of) := ⟨rfl, rfl, rfl, by decide +kernel, rfl, by decide +kernel, by decide +kernel⟩
theorem sc_sum_between : FnScope ["sums", "low", "high", "begin", "end"] ["sums", "low", "high"] (defScope s_sum_between) := ⟨rfl, rfl, rfl, by decide +kernel, rfl, by decide +kernel, by decide +kernel⟩
theorem sc_count_tables : FnScope ["tree", "windows", "lasts", "counts", "mark", "parent", "length", "sums", "offset", "index", "tick", "least", "last"] ["tree", "windows"] (defScope s_count_tables) := ⟨rfl, rfl, rfl, by decide +kernel, rfl, by decide +kernel, by decide +kernel⟩
theorem sc__law_draws : FnScope ["_law_script", "_law_cells", "_law_cell"] ["_law_script"] (defScope s__law_draws) := ⟨rfl, rfl, rfl, by decide +kernel, rfl, by decide +kernel, by decide +kernel⟩
theorem sc__law_next : FnScope ["_law_state", "_law_many", "_law_cells", "_law_count", "_law_rests", "_law_index", "_law_digit", "_law_mixed"] ["_law_state", "_law_many"] (defScope s__law_next) := ⟨rfl, rfl, rfl, by decide +kernel, rfl, by decide +kernel, by decide +kernel⟩
theorem sc__law_tree : FnScope ["_law_state", "_law_most", "_law_longest", "_law_many", "_law_way", "_law_found", "_law_k", "_law_length"] ["_law_state", "_law_most", "_law_longest"] (defScope s__law_tree) := ⟨rfl, rfl, rfl, by decide +kernel, rfl, by decide +kernel, by decide +kernel⟩
theorem sc__law_rows : FnScope ["_law_tree_here", "_law_found", "_law_k", "_law_parent", "_law_length"] ["_law_tree_here"] (defScope s__law_rows) := ⟨rfl, rfl, rfl, by decide +kernel, rfl, by decide +kernel, by decide +kernel⟩
theorem sc__law_falls : FnScope ["_law_tree_here", "_law_pushes_here", "_law_rows_here", "_law_found", "_law_left", "_law_mark", "_law_tick", "_law_other", "_law_length"] ["_law_tree_here", "_law_pushes_here"] (defScope s__law_falls) := ⟨rfl, rfl, rfl, by decide +kernel, rfl, by decide +kernel, by decide +kernel⟩
theorem sc__law_pushes : FnScope ["_law_state", "_law_tree_here", "_law_most", "_law_ticks", "_law_found", "_law_k"] ["_law_state", "_law_tree_here", "_law_most", "_law_ticks"] (defScope s__law_pushes) := ⟨rfl, rfl, rfl, by decide +kernel, rfl, by decide +kernel, by decide +kernel⟩
theorem sc__law_windows : FnScope ["_law_state", "_law_tree_here", "_law_ticks", "_law_wide", "_law_table", "_law_found", "_law_way", "_law_number", "_law_least"] ["_law_state", "_law_tree_here", "_law_ticks", "_law_wide"] (defScope s__law_windows) := ⟨rfl, rfl, rfl, by decide +kernel, rfl, by decide +kernel, by decide +kernel⟩
theorem sc__law_tables : FnScope ["_law_tree_here", "_law_windows_here", "_law_found", "_law_mark", "_law_least", "_law_last", "_law_longer", "_law_table", "_law_low", "_law_high", "_law_parent", "_law_length", "_law_number", "_law_one"] ["_law_tree_here", "_law_windows_here"] (defScope s__law_tables) := ⟨rfl, rfl, rfl, by decide +kernel, rfl, by decide +kernel, by decide +kernel⟩
theorem sc__law_told : FnScope ["_law_tree_here", "_law_windows_here", "_law_kinds", "error"] ["_law_tree_here", "_law_windows_here"] (defScope s__law_told) := ⟨rfl, rfl, rfl, by decide +kernel, rfl, by decide +kernel, by decide +kernel⟩
theorem sc__law_below : FnScope ["_law_tree_here", "_law_windows_here", "_law_mark", "_law_least", "_law_last", "_law_found", "_law_k", "_law_below_here", "_law_first", "_law_index", "_law_near", "_law_length", "_law_part"] ["_law_tree_here", "_law_windows_here", "_law_mark"] (defScope s__law_below) := ⟨rfl, rfl, rfl, by decide +kernel, rfl, by decide +kernel, by decide +kernel⟩
theorem sc__law_right : FnScope ["_law_tree_here", "_law_windows_here", "_law_due", "_law_shown", "_law_found", "_law_again"] ["_law_tree_here", "_law_windows_here", "_law_due"] (defScope s__law_right) := ⟨rfl, rfl, rfl, by decide +kernel, rfl, by decide +kernel, by decide +kernel⟩
theorem sc_law : FnScope ["_law_script", "_law_state", "_law_turn", "_law_tree_here", "_law_windows_here", "_law_least", "_law_spot", "_law_mark", "_law_late", "_law_wide", "_law_found", "_law_last"] ["_law_script"] (defScope s_law) := ⟨rfl, rfl, rfl, by decide +kernel, rfl, by decide +kernel, by decide +kernel⟩
theorem sci_NoLast : FnScope ["self", "mark"] ["self", "mark"] (defScope si_NoLast) := ⟨rfl, rfl, rfl, by decide +kernel, rfl, by decide +kernel, by decide +kernel⟩
theorem sci_TooLarge : FnScope ["self", "bound"] ["self", "bound"] (defScope si_TooLarge) := ⟨rfl, rfl, rfl, by decide +kernel, rfl, by decide +kernel, by decide +kernel⟩
structure Tp (K : PySem.W.Frag) (mg : Str → Option Value) : Prop where
  bn : Bn mg
  d_sums_of : Df K mg "sums_of" s_sums_of
  d_sum_between : Df K mg "sum_between" s_sum_between
  d_count_tables : Df K mg "count_tables" s_count_tables
  d__law_draws : Df K mg "_law_draws" s__law_draws
  d__law_next : Df K mg "_law_next" s__law_next
  d__law_tree : Df K mg "_law_tree" s__law_tree
  d__law_rows : Df K mg "_law_rows" s__law_rows
  d__law_falls : Df K mg "_law_falls" s__law_falls
  d__law_pushes : Df K mg "_law_pushes" s__law_pushes
  d__law_windows : Df K mg "_law_windows" s__law_windows
  d__law_tables : Df K mg "_law_tables" s__law_tables
  d__law_told : Df K mg "_law_told" s__law_told
  d__law_below : Df K mg "_law_below" s__law_below
  d__law_right : Df K mg "_law_right" s__law_right
  d_law : Df K mg "law" s_law
  k_SMALL_TICK : ∃ t, mg "SMALL_TICK" = some (.int 300 t)
  g_NoLast : mg "NoLast" = some (.ref (cls mg "NoLast"))
  g_FallError : mg "FallError" = some (.ref (cls mg "FallError"))
  g_TooLarge : mg "TooLarge" = some (.ref (cls mg "TooLarge"))
  g_BadPushes : mg "BadPushes" = some (.ref (cls mg "BadPushes"))
  g_Conflict : mg "Conflict" = some (.ref (cls mg "Conflict"))
  g_NoTable : mg "NoTable" = some (.ref (cls mg "NoTable"))
  f_NoLast : EcF K (cls mg "NoLast") "mark"
  i_NoLast : ExI K (cls mg "NoLast")
  m_NoLast_FallError : PySem.W.exmOne K (.ref (cls mg "NoLast")) (.ref (cls mg "FallError")) = some true
  y_NoLast_0 : PySem.W.kitAny K (.ref (cls mg "NoLast")) [.ref (cls mg "NoLast")] = some true
  y_NoLast_1 : PySem.W.kitAny K (.ref (cls mg "NoLast")) [.ref (cls mg "TooLarge")] = some false
  y_NoLast_2 : PySem.W.kitAny K (.ref (cls mg "NoLast")) [.ref (cls mg "BadPushes"), .ref (cls mg "Conflict"), .ref (cls mg "NoTable"), .type "LookupError"] = some false
  f_TooLarge : EcF K (cls mg "TooLarge") "bound"
  i_TooLarge : ExI K (cls mg "TooLarge")
  m_TooLarge_FallError : PySem.W.exmOne K (.ref (cls mg "TooLarge")) (.ref (cls mg "FallError")) = some true
  y_TooLarge_0 : PySem.W.kitAny K (.ref (cls mg "TooLarge")) [.ref (cls mg "NoLast")] = some false
  y_TooLarge_1 : PySem.W.kitAny K (.ref (cls mg "TooLarge")) [.ref (cls mg "TooLarge")] = some true
  y_TooLarge_2 : PySem.W.kitAny K (.ref (cls mg "TooLarge")) [.ref (cls mg "BadPushes"), .ref (cls mg "Conflict"), .ref (cls mg "NoTable"), .type "LookupError"] = some false
section
variable {P : Program} {w : World} {K : PySem.W.Frag} {mg : Str → Option Value} {base : Heap}
theorem c__law_next (T : Tp K mg) : Cl P w K mg base "_law_next" (0 + 1) ["_law_state", "_law_many"] spNextD := by
  obtain ⟨f, fd, F, hm⟩ := T.d__law_next.ex
  have S := sc__law_next
  have B := T.bn
  refine ⟨⟨f, fd, fnD F S (fun args M Q E h => by (repeat (obtain ⟨_, h⟩ := h)); subst_vars; rfl) (fun cdv A outer s H E hgd hr => ⟨_, (ds_cons (ds_asg (dv 0) (dg_tupL (n := 3) rfl (dgs_cons (dgn 2 S.nd) (dgs_cons (dgn 3 S.nd) (dgs_cons (dgn 4 S.nd) dgs_nil)))))
  (ds_cons (dss 5 S.nd (d_op o_mod (dv 3) (d_callB o_len (by rfl) B.len b_len (d_cons (dv 2) d_nil))))
  (ds_cons (ds_asg (d_op o_add (dv 3) d_int) (dg_sub (dv 0) d_int))
  (ds_cons (ds_if (dt_cmp o_gt (d_ix (dv 4) (dv 5) (fun _ _ => rfl)) d_int) (ds_cons (dss 6 S.nd (d_op o_mod (d_ix (dv 4) (dv 5) (fun _ _ => rfl)) (dv 1)))
  (ds_cons (ds_asg (d_op o_fdiv (d_ix (dv 4) (dv 5) (fun _ _ => rfl)) (dv 1)) (dg_sub (dv 4) (dv 5)))
  (ds_one (ds_ret (dv 6))))) ds_nil)
  (ds_cons (dss 7 S.nd (d_op o_mod (d_op o_pow (d_op o_add (d_op o_add (d_op o_mod (d_ix (dv 2) (dv 5) (fun _ _ => rfl)) d_int) (d_op o_mulA d_int (dv 3))) d_int) d_int) d_int))
  (ds_cons (dss 7 S.nd (d_op o_mod (d_op o_pow (d_op o_add (d_op o_add (dv 7) (d_op o_mulA (d_op o_mulA d_int (dv 3)) (dv 3))) d_int) d_int) d_int))
  (ds_one (ds_ret (d_op o_mod (d_op o_fdiv (d_op o_mod (d_op o_mulA (dv 7) d_int) d_int) d_int) (dv 1)))))))))), fun args M Q E' hM hA h => ?_⟩), hm, F.kp, (F.binds (ps := ["_law_state", "_law_many"]) fun _ _ _ _ _ _ us hl => match us, hl with | [_, _], _ => rfl)⟩, ?_⟩
  rotate_left
  · exact fun args M Q Q' E E' w _ ⟨x0, x1, x2, x3, x4, x5, x6, x7, x8, x9, k⟩ => ⟨x0, x1, x2, x3, x4, x5, x6, x7, x8, x9, fun y0 y1 y2 y3 y4 y5 => w _ _ (k y0 y1 y2 y3 y4 y5)⟩
  · obtain ⟨cs, n, R, lim, b, rfl, rfl, g, l0, l1, k⟩ := h
    obtain ⟨⟨h1, h2, h3⟩, ⟨y1, y2⟩, y3, y4⟩ := g
    have i0 : 0 ≤ n % (cs.1.length : Int) := Int.emod_nonneg _ (by omega)
    have i1 : n % (cs.1.length : Int) < cs.1.length := Int.emod_lt_of_pos _ (by omega)
    have i2 : n % (cs.1.length : Int) < cs.2.length := by rw [h3]; exact i1
    obtain ⟨c, hc, _, ec⟩ := atI_ints i0 i1
    obtain ⟨d, hd, _, ed⟩ := atI_ints i0 i2
    have c0 := y1 c hc
    have d0 := y2 d hd
    have fin : ∀ (z : Int) (cs' : CR), Gd b cs' (n + 1) → 0 ≤ z → z < lim → See (R.length + 1 + 1) Q (.int z) (Cell.lst (List.map D.int cs'.2) :: Cell.lst [D.lst (List.map D.int cs'.1), D.int (n + 1), D.ref 0] :: R) := fun z cs' hg h0 h1 => See.keep (k z cs' (n + 1) h0 h1 hg)
    have hg1 : Gd b cs (n + 1) := ⟨⟨h1, h2, h3⟩, ⟨y1, y2⟩, by omega, by omega⟩
    rw [show startD ["_law_state", "_law_many", "_law_cells", "_law_count", "_law_rests", "_law_index", "_law_digit", "_law_mixed"] [D.ref 1, D.int lim] = [some (.ref 1), some (.int lim), none, none, none, none, none, none] from rfl]
    unfold dkd
    walk_at "go4"
    unfold dgTupL
    walk_at "go4"
    rw [ed]
    walk_at "go4"
    refine ite_dec (fun h => ?_) (fun h => ?_)
    · walk_at "go4"
      rw [ixN_of i0 i2]
      walk_at "go4"
      rw [← List.map_set]
      refine fin _ (cs.1, cs.2.set _ _) ⟨⟨h1, h2, by rw [List.length_set]; exact h3⟩, ⟨y1, fun x hx => ?_⟩, by omega, by omega⟩ (Int.emod_nonneg _ (by omega)) (Int.emod_lt_of_pos _ l0)
      rcases List.mem_or_eq_of_mem_set hx with z | z
      · exact y2 x z
      · rw [z]; exact Int.ediv_nonneg d0 (by omega)
    · rw [ec]
      walk_at "go4"
      have nn : 5039 * n * n ≤ 5039000000000000 ∧ 0 ≤ 5039 * n * n := by
        have h1 : 5039 * n ≤ 5039000000 := by omega
        have h2 : 5039 * n * n ≤ 5039000000 * n := Int.mul_le_mul_of_nonneg_right h1 y3
        exact ⟨by omega, Int.mul_nonneg (by omega) y3⟩
      have x0 : 0 ≤ (c % 2147483629 + 40037 * n + 9203) ^ 3 % 2147483587 := Int.emod_nonneg _ (by decide)
      have x1 : (c % 2147483629 + 40037 * n + 9203) ^ 3 % 2147483587 < 2147483587 := Int.emod_lt_of_pos _ (by decide)
      generalize (c % 2147483629 + 40037 * n + 9203) ^ 3 % 2147483587 = x at x0 x1 ⊢
      generalize 5039 * n * n = y at nn ⊢
      have z0 : 0 ≤ (x + y + 43) ^ 3 % 2147483563 := Int.emod_nonneg _ (by decide)
      have z1 : (x + y + 43) ^ 3 % 2147483563 < 2147483563 := Int.emod_lt_of_pos _ (by decide)
      walk_at "go4"
      exact fin _ cs hg1 (Int.emod_nonneg _ (by omega)) (Int.emod_lt_of_pos _ l0)
theorem c__law_draws (T : Tp K mg) : Cl P w K mg base "_law_draws" (0 + 1) ["_law_script"] spDrawsD := by
  obtain ⟨f, fd, F, hm⟩ := T.d__law_draws.ex
  have S := sc__law_draws
  have B := T.bn
  refine ⟨⟨f, fd, fnD F S (fun args M Q E h => by (repeat (obtain ⟨_, h⟩ := h)); subst_vars; rfl) (fun cdv A outer s H E hgd hr => ⟨_, (ds_cons (dss 1 S.nd (d_op o_add (d_lcI (own := [("_law_cell", 2)]) rfl S.nd (di_seq (d_slice (dv 0) do_none (do_some d_int))) (blkOk_by (N := ["_law_script", "_law_cells", "_law_cell"]) (sc := defScope s__law_draws) (by decide +kernel)) (by decide) (fun _ _ _ _ _ => (dgn 2 S.nd)) (fun _ _ _ _ _ => dts_nil) (fun _ _ _ _ _ => (d_callB o_abs (by rfl) B.abs b_abs (d_cons (dv 2) d_nil)))) (d_op o_mulA (d_lst (d_cons d_int d_nil)) (d_callTy o_int1 (by rfl) B.int b_int (d_cons (d_cmp (o_eq hr.units) (d_callB o_len (by rfl) B.len b_len (d_cons (dv 0) d_nil)) d_int) d_nil)))))
  (ds_one (ds_ret (d_lstM (d_cons (dv 1) (d_cons d_int (d_cons (d_lcMI (own := [("_law_cell", 2)]) rfl S.nd (di_seq (dv 1)) (blkOk_by (N := ["_law_script", "_law_cells", "_law_cell"]) (sc := defScope s__law_draws) (by decide +kernel)) (by decide) (fun _ _ _ _ _ => (dgn 2 S.nd)) (fun _ _ _ _ _ => dts_nil) (fun _ _ _ _ _ => (d_op o_mulA (dv 2) (d_callTy o_int1 (by rfl) B.int b_int (d_cons (d_cmp o_ge (dv 2) (d_op o_pow d_int d_int)) d_nil))))) d_nil))))))), fun args M Q E' hM hA h => ?_⟩), hm, F.kp, (F.binds (ps := ["_law_script"]) fun _ _ _ _ _ _ us hl => match us, hl with | [_], _ => rfl)⟩, ?_⟩
  rotate_left
  · exact fun args M Q Q' E E' w _ ⟨x0, x1, x2, x3, k⟩ => ⟨x0, x1, x2, x3, fun y0 y1 => w _ _ (k y0 y1)⟩
  · obtain ⟨ns, rfl, rfl, hl, k⟩ := h
    walk_at "go1"
    rw [cut_map]
    refine lc_map (fun d => match d with | .int i => .int (if i < 0 then -i else i) | d => d) trivial (by rw [List.length_map]; have := cut_len ns none (some 63); omega) (fun d hd kk hk => ?_) ?_
    · obtain ⟨i, hi, rfl⟩ := List.mem_map.mp hd
      walk_at "go1"
      exact hk
    walk_at "go1"
    rw [show lenOf (D.scr ns) [] = some ns.length from rfl]
    walk_at "go1"
    have hcl := cut_len ns none (some 63)
    obtain ⟨cs1, e1, l1, l2, p1⟩ : ∃ cs1 : List Int, (List.map (fun d => match d with | D.int i => D.int (if i < 0 then -i else i) | d => d) (List.map D.int (cut ns none (some 63))) ++ (List.replicate (if decide ((ns.length : Int) = 0) = true then (1 : Int) else 0).toNat [D.int 0]).flatten) = cs1.map D.int ∧ 1 ≤ cs1.length ∧ cs1.length ≤ 63 ∧ ∀ c ∈ cs1, 0 ≤ c := by
      by_cases hz : ns = []
      · subst hz
        exact ⟨[0], rfl, by decide, by decide, by simp⟩
      · refine ⟨(cut ns none (some 63)).map fun i => if i < 0 then -i else i, ?_, ?_, ?_, fun c hc => ?_⟩
        · rw [decide_eq_false (by have := List.length_pos_iff.mpr hz; omega)]
          rw [show (List.replicate (if false = true then (1 : Int) else 0).toNat [D.int 0]).flatten = [] from rfl, List.append_nil, List.map_map, List.map_map]
          rfl
        · rw [List.length_map, show (63 : Int) = ((63 : Nat) : Int) from rfl, cut_to, List.length_take]
          have := List.length_pos_iff.mpr hz
          omega
        · rw [List.length_map]
          omega
        · obtain ⟨i, _, rfl⟩ := List.mem_map.mp hc
          split <;> omega
    refine ⟨?_, ?_⟩
    · have := congrArg List.length e1
      rw [List.length_append, List.length_map, List.length_map, List.length_map] at this
      omega
    rw [e1]
    clear e1
    walk_at "go1"
    refine lc_mapL D.int (fun i => D.int (i * (if decide ((1000000000000000000 : Int) ≤ i) = true then (1 : Int) else 0))) (L := cs1) (st := stYes) (M := []) trivial (by omega) (fun i hi kk hk => ?_) ?_
    · walk_at "go1"
      exact hk
    walk_at "go1"
    refine See.keep ?_
    rw [show cs1.map (fun i => D.int (i * (if decide ((1000000000000000000 : Int) ≤ i) = true then (1 : Int) else 0))) = (cs1.map fun i => i * (if decide ((1000000000000000000 : Int) ≤ i) = true then (1 : Int) else 0)).map D.int by rw [List.map_map]; rfl]
    refine k (cs1, _) ⟨⟨l1, l2, by rw [List.length_map]⟩, ⟨p1, fun c hc => ?_⟩, by omega, by omega⟩
    obtain ⟨i, hi, rfl⟩ := List.mem_map.mp hc
    have := p1 i hi
    split <;> omega
def spTree : DSp := fun args M Q _ => ∃ (cs : CR) (n : Int) (R : Sto) (most longest b : Nat), args = [.ref 1, natD most, natD longest] ∧ M = dkd cs n ++ R ∧ Gd (b + 36) cs n ∧ 1 ≤ most ∧ most ≤ 12 ∧ 1 ≤ longest ∧ longest ≤ 1000000 ∧ ∀ t cs' n', TreeOk t → (∀ p ∈ t, p.2 ≤ longest) → t.length < most → Gd b cs' n' → Q (treeD t) (dkd cs' n' ++ R)
def invTree (most longest c : Nat) (many : D) (way : Nat) (b : Nat) (R : Sto) : List D → List D → Dn → Sto → Prop := fun done todo ρ M => done ++ todo = rng 0 c ∧ ∃ (t : Tr) (cs : CR) (n : Int) (x6 x7 : Option D), ρ = ⟨[some (.ref 1), some (natD most), some (natD longest), some many, some (natD way), some (.ref (R.length + 2)), x6, x7], noX⟩ ∧ M = dkd cs n ++ (R ++ [.lst (t.map rowD)]) ∧ TreeOk t ∧ (∀ p ∈ t, p.2 ≤ longest) ∧ t.length = done.length ∧ Gd (b + 3 * todo.length) cs n
theorem rows_bel (n : Nat) (t : List (Nat × Nat)) : bels n (t.map rowD) = true := bels_of fun d hd => by
  obtain ⟨p, _, rfl⟩ := List.mem_map.mp hd
  rfl
theorem c__law_tree (T : Tp K mg) : Cl P w K mg base "_law_tree" (1 + 1) ["_law_state", "_law_most", "_law_longest"] spTree := by
  obtain ⟨f, fd, F, hm⟩ := T.d__law_tree.ex
  have S := sc__law_tree
  have B := T.bn
  have c__law_next := @c__law_next P w K mg base T
  refine ⟨⟨f, fd, fnD F S (fun args M Q E h => by (repeat (obtain ⟨_, h⟩ := h)); subst_vars; rfl) (fun cdv A outer s H E hgd hr => ⟨_, (ds_cons (dsp3 3 4 5 S.nd (d_cons (d_op o_add d_int (d_cl c__law_next hgd (hr.mono (by first | decide | omega)) (d_cons (dv 0) (d_cons (dv 1) d_nil)))) (d_cons (d_cl c__law_next hgd (hr.mono (by first | decide | omega)) (d_cons (dv 0) (d_cons d_int d_nil))) (d_cons (d_lstM d_nil) d_nil))))
  (ds_cons (ds_forI (passes_of rfl) rfl (di_range1 (by rfl) B.range (d_cons (d_op o_sub (dv 3) d_int) d_nil)) (dgn 6 S.nd) (ds_cons (dss 7 S.nd (d_op o_add d_int (d_cl c__law_next hgd (hr.mono (by first | decide | omega)) (d_cons (dv 0) (d_cons (dv 2) d_nil)))))
  (ds_one (ds_expr (d_append (dv 5) (d_cons (d_tup (d_cons (d_ix (d_lst (d_cons (d_cl c__law_next hgd (hr.mono (by first | decide | omega)) (d_cons (dv 0) (d_cons (d_op o_add (dv 6) d_int) d_nil))) (d_cons (dv 6) (d_cons d_int (d_cons (d_callB (o_max2 rfl) (by rfl) B.max b_max (d_cons d_int (d_cons (d_op o_sub (dv 6) (d_cl c__law_next hgd (hr.mono (by first | decide | omega)) (d_cons (dv 0) (d_cons d_int d_nil)))) d_nil))) d_nil))))) (dv 4) (fun _ _ => rfl)) (d_cons (dv 7) d_nil))) d_nil))))))
  (ds_one (ds_ret (d_callTy o_tuple (by rfl) B.tuple b_tuple (d_cons (dv 5) d_nil)))))), fun args M Q E' hM hA h => ?_⟩), hm, F.kp, (F.binds (ps := ["_law_state", "_law_most", "_law_longest"]) fun _ _ _ _ _ _ us hl => match us, hl with | [_, _, _], _ => rfl)⟩, ?_⟩
  rotate_left
  · exact fun args M Q Q' E E' w _ ⟨x0, x1, x2, x3, x4, x5, x6, x7, x8, x9, x10, x11, x12, k⟩ => ⟨x0, x1, x2, x3, x4, x5, x6, x7, x8, x9, x10, x11, x12, fun y0 y1 y2 y3 y4 y5 y6 => w _ _ (k y0 y1 y2 y3 y4 y5 y6)⟩
  · obtain ⟨cs, n, R, most, longest, b, rfl, rfl, g, m1, m2, l1, l2, k⟩ := h
    walk_at "go1"
    refine drd (b := b + 35) g (by omega) (by omega) fun r1 cs n h1 g => ?_
    walk_at "go1"
    refine drd (b := b + 34) g (by decide) (by decide) fun way cs n hw g => ?_
    walk_at "go1"
    rw [List.append_assoc]
    refine ⟨invTree most longest r1 (.int (1 + (r1 : Int))) way b R, ⟨?_, [], cs, n, none, none, ?_, rfl, ⟨by simp, fun k p e => by simp at e⟩, by simp, rfl, g.le ?_⟩, fun _ _ _ _ _ => trivial, ?_, ?_⟩
    · rw [show (1 + (r1 : Int) - 1).toNat = r1 by omega]; rfl
    · rw [dkd_two]
    · rw [rng_length]; omega
    · rintro done d todo ρ M ⟨e, t, cs, n, x6, x7, rfl, rfl, ht, hlg, hl, g⟩
      obtain ⟨rfl, hlt⟩ := rng_at e
      rw [List.length_cons, Nat.mul_add] at g
      walk_at "go1"
      refine drd (b := b + 3 * todo.length + 2) g (by omega) (by omega) fun r7 cs n h7 g => ?_
      walk_at "go1"
      refine drd (b := b + 3 * todo.length + 1) g (by omega) (by omega) fun r5 cs n h5 g => ?_
      walk_at "go1"
      refine drd (b := b + 3 * todo.length) g (by decide) (by decide) fun r6 cs n h6 g => ?_
      have hp : ∃ p : Nat, p ≤ done.length ∧ atI [D.int (r5 : Int), D.int (done.length : Int), D.int 0, D.int (if (done.length : Int) - (r6 : Int) > 0 then (done.length : Int) - (r6 : Int) else 0)] (way : Int) = some (.int p) := by
        have : way = 0 ∨ way = 1 ∨ way = 2 ∨ way = 3 := by omega
        rcases this with rfl | rfl | rfl | rfl
        · exact ⟨r5, by omega, atI_0 _ _⟩
        · exact ⟨done.length, Nat.le_refl _, atI_1 _ _ _⟩
        · exact ⟨0, Nat.zero_le _, atI_2 _ _ _ _⟩
        · refine ⟨done.length - r6, by omega, ?_⟩
          rw [show (((3 : Nat) : Int)) = 3 from rfl, atI_3]
          congr 2
          split <;> omega
      obtain ⟨p, p1, e2⟩ := hp
      walk_at "go1"
      rw [e2]
      walk_at "go1"
      rw [get_dkd]
      walk_at "go1"
      rw [set_dkd]
      have e3 : t.map rowD ++ [D.tup [D.int (p : Int), D.int (1 + (r7 : Int))]] = (t ++ [(p, 1 + r7)]).map rowD := by simp [rowD]
      rw [e3]
      exact ⟨by rw [← e]; simp, t ++ [(p, 1 + r7)], cs, n, _, _, rfl, rfl, tree_snoc ht (by omega) (by omega) (by omega) (by omega), fun q hq => by
        rcases List.mem_append.mp hq with z | z
        · exact hlg q z
        · rw [List.mem_singleton.mp z]
          show 1 + r7 ≤ longest
          omega, by simp [hl], g⟩
    · rintro done ρ M ⟨e, t, cs, n, x6, x7, rfl, rfl, ht, hlg, hl, g⟩
      rw [List.append_nil] at e
      have hd := congrArg List.length e
      rw [rng_length] at hd
      walk_at "go1"
      rw [get_dkd]
      walk_at "go1"
      exact see_dkd hM (rows_bel _ _) (k t cs n ht hlg (by omega) g)
def nbL : List (Nat × Nat) → Nat → Nat → List (Nat × Nat)
  | [], _, _ => []
  | (p, l) :: r, k, i => (if p = i then [(k + 1, l)] else []) ++ ((if k + 1 = i then [(p, l)] else []) ++ nbL r (k + 1) i)
theorem nbL_snoc : ∀ (r : List (Nat × Nat)) (k i p l : Nat), nbL (r ++ [(p, l)]) k i = nbL r k i ++ ((if p = i then [(k + r.length + 1, l)] else []) ++ (if k + r.length + 1 = i then [(p, l)] else []))
  | [], k, i, p, l => by
    show (if p = i then [(k + 1, l)] else []) ++ ((if k + 1 = i then [(p, l)] else []) ++ []) = _
    rw [List.append_nil]
    rfl
  | (a, b) :: r, k, i, p, l => by
    show (if a = i then [(k + 1, b)] else []) ++ ((if k + 1 = i then [(a, b)] else []) ++ nbL (r ++ [(p, l)]) (k + 1) i) = _
    rw [nbL_snoc r (k + 1) i p l, show k + 1 + r.length + 1 = k + ((a, b) :: r).length + 1 by rw [List.length_cons]; omega]
    show _ = ((if a = i then [(k + 1, b)] else []) ++ ((if k + 1 = i then [(a, b)] else []) ++ nbL r (k + 1) i)) ++ _
    rw [List.append_assoc, List.append_assoc]
def nbs (t : Tr) (i : Nat) : List (Nat × Nat) := nbL t 0 i
def cellsF (n : Nat) (f : Nat → Cell) : Sto := (List.range n).map f
theorem getF (M : Sto) {n i : Nat} (f : Nat → Cell) (h : i < n) : (M ++ cellsF n f)[M.length + i]? = some (f i) := by
  rw [List.getElem?_append_right (by omega), Nat.add_sub_cancel_left]
  unfold cellsF
  rw [List.getElem?_map, List.getElem?_range h]
  rfl
theorem setF (M : Sto) {n i : Nat} (f : Nat → Cell) (h : i < n) (c : Cell) : (M ++ cellsF n f).set (M.length + i) c = M ++ cellsF n fun j => if j = i then c else f j := by
  rw [List.set_append_right _ _ (by omega), Nat.add_sub_cancel_left]
  congr 1
  unfold cellsF
  refine List.ext_getElem (by simp) fun j h1 h2 => ?_
  rw [List.getElem_set, List.getElem_map, List.getElem_map, List.getElem_range]
  by_cases e : i = j
  · subst e; simp
  · rw [if_neg e, if_neg (Ne.symm e)]
def nbCells (t : Tr) (n : Nat) : Sto := cellsF n fun i => Cell.lst ((nbs t i).map rowD)
def refsD (m n : Nat) : List D := (List.range n).map fun i => D.ref (m + i)
theorem atI_refs {m n i : Nat} (h : i < n) : atI (refsD m n) (i : Int) = some (.ref (m + i)) := atI_of rfl (by unfold refsD; rw [List.getElem?_map, List.getElem?_range h]; rfl)
theorem cellsF_len (n : Nat) (f : Nat → Cell) : (cellsF n f).length = n := by unfold cellsF; simp
theorem cellsF_snoc (n : Nat) (f : Nat → Cell) : cellsF (n + 1) f = cellsF n f ++ [f n] := by unfold cellsF; rw [List.range_succ, List.map_append]; rfl
theorem refs_snoc (m n : Nat) : refsD m n ++ [D.ref (m + n)] = refsD m (n + 1) := by unfold refsD; rw [List.range_succ, List.map_append]; rfl
theorem refs_len (m n : Nat) : (refsD m n).length = n := by unfold refsD; simp
theorem cellsF_congr {n : Nat} {f g : Nat → Cell} (h : ∀ i, i < n → f i = g i) : cellsF n f = cellsF n g := by
  unfold cellsF
  exact List.map_congr_left fun i hi => h i (List.mem_range.mp hi)
theorem nbL_len : ∀ (r : List (Nat × Nat)) (k i : Nat), (nbL r k i).length ≤ 2 * r.length
  | [], _, _ => Nat.zero_le _
  | (p, l) :: r, k, i => by
    have := nbL_len r (k + 1) i
    show ((if p = i then [(k + 1, l)] else []) ++ ((if k + 1 = i then [(p, l)] else []) ++ nbL r (k + 1) i)).length ≤ 2 * (r.length + 1)
    rw [List.length_append, List.length_append]
    have h1 : (if p = i then [(k + 1, l)] else []).length ≤ 1 := by split <;> simp
    have h2 : (if k + 1 = i then [(p, l)] else []).length ≤ 1 := by split <;> simp
    omega
def spRows : DSp := fun args M Q _ => ∃ (t : Tr), args = [treeD t] ∧ TreeOk t ∧ Q (.lst (refsD M.length (t.length + 1))) (M ++ nbCells t (t.length + 1))
theorem c__law_rows (T : Tp K mg) : Cl P w K mg base "_law_rows" (0 + 1) ["_law_tree_here"] spRows := by
  obtain ⟨f, fd, F, hm⟩ := T.d__law_rows.ex
  have S := sc__law_rows
  have B := T.bn
  refine ⟨⟨f, fd, fnD F S (fun args M Q E h => by (repeat (obtain ⟨_, h⟩ := h)); subst_vars; rfl) (fun cdv A outer s H E hgd hr => ⟨_, (ds_cons (ds_setLcI (i := 1) (own := [("_law_k", 2)]) rfl S.nd rfl rfl (sw_true rfl rfl rfl (by decide +kernel)) (di_range1 (by rfl) B.range (d_cons (d_op o_add (d_callB o_len (by rfl) B.len b_len (d_cons (dv 0) d_nil)) d_int) d_nil)) (blkOk_by (N := ["_law_tree_here", "_law_found", "_law_k", "_law_parent", "_law_length"]) (sc := defScope s__law_rows) (by decide +kernel)) (by decide) (fun _ _ _ _ _ => (dgn 2 S.nd)) (fun _ _ _ _ _ => dts_nil) (fun _ _ _ _ _ => (d_lstM d_nil)))
  (ds_cons (ds_forI (passes_of rfl) rfl (di_range1 (by rfl) B.range (d_cons (d_callB o_len (by rfl) B.len b_len (d_cons (dv 0) d_nil)) d_nil)) (dgn 2 S.nd) (ds_cons (ds_asg (d_ix (dv 0) (dv 2) (fun _ _ => rfl)) (dg_tupL (n := 2) rfl (dgs_cons (dgn 3 S.nd) (dgs_cons (dgn 4 S.nd) dgs_nil))))
  (ds_cons (ds_expr (d_append (d_ix (dv 1) (dv 3) (fun _ _ => rfl)) (d_cons (d_tup (d_cons (d_op o_add (dv 2) d_int) (d_cons (dv 4) d_nil))) d_nil)))
  (ds_one (ds_expr (d_append (d_ix (dv 1) (d_op o_add (dv 2) d_int) (fun _ _ => rfl)) (d_cons (d_tup (d_cons (dv 3) (d_cons (dv 4) d_nil))) d_nil)))))))
  (ds_one (ds_ret (dv 1))))), fun args M Q E' hM hA h => ?_⟩), hm, F.kp, (F.binds (ps := ["_law_tree_here"]) fun _ _ _ _ _ _ us hl => match us, hl with | [_], _ => rfl)⟩, ?_⟩
  rotate_left
  · exact fun args M Q Q' E E' w _ ⟨x0, x1, x2, k⟩ => ⟨x0, x1, x2, w _ _ k⟩
  · obtain ⟨t, rfl, ht, k⟩ := h
    have ht1 := ht.1
    walk_at "go1"
    rw [show ((t.length : Int) + 1).toNat = t.length + 1 by omega]
    refine ⟨fun done todo acc M' => done ++ todo = rng 0 (t.length + 1) ∧ acc = refsD M.length done.length ∧ M' = M ++ cellsF done.length fun _ => Cell.lst [], ⟨rfl, rfl, by show M = M ++ []; rw [List.append_nil]⟩, fun _ _ _ _ _ => trivial, ?_, ?_⟩
    · rintro done d todo acc M' ⟨e, rfl, rfl⟩
      obtain ⟨rfl, hlt⟩ := rng_mid e
      walk_at "go1"
      rw [cellsF_len]
      exact ⟨by rw [refs_len]; omega, by rw [List.append_assoc]; rw [Int.zero_add] at e; exact e, refs_snoc _ _, by rw [cellsF_snoc, List.append_assoc]⟩
    rintro done acc M' ⟨e, rfl, rfl⟩
    have hd := congrArg List.length e
    rw [List.append_nil, rng_length] at hd
    rw [hd]
    walk_at "go1"
    rw [show ((t.length : Int)).toNat = t.length by omega]
    refine ⟨fun done todo ρ M' => done ++ todo = rng 0 t.length ∧ (M' = M ++ cellsF (t.length + 1) fun i => Cell.lst ((nbL (t.take done.length) 0 i).map rowD)) ∧ ∃ (x2 x3 x4 : Option D), ρ = ⟨[some (treeD t), some (.lst (refsD M.length (t.length + 1))), x2, x3, x4], noX⟩, ⟨rfl, rfl, _, _, _, rfl⟩, fun _ _ _ _ _ => trivial, ?_, ?_⟩
    · rintro done d todo ρ M' ⟨e, rfl, x2, x3, x4, rfl⟩
      obtain ⟨rfl, hlt⟩ := rng_at e
      obtain ⟨⟨p, l⟩, hp⟩ : ∃ p, t[done.length]? = some p := ⟨_, List.getElem?_eq_getElem hlt⟩
      have htr := ht.2 _ _ hp
      dsimp only at htr
      walk_at "go1"
      rw [tree_at (k := done.length) rfl hp]
      have hlen : ∀ i, (nbL (t.take done.length) 0 i).length ≤ 22 := fun i => by
        have := nbL_len (t.take done.length) 0 i
        rw [List.length_take] at this
        omega
      walk_at "go1"
      rw [atI_refs (by omega)]
      refine ⟨⟨_, getF M _ (by omega)⟩, ?_⟩
      walk_at "go1"
      rw [getF M _ (by omega)]
      have h1 := hlen p
      have h2 := hlen (done.length + 1)
      walk_at "go1"
      rw [setF M _ (by omega)]
      walk_at "go1"
      rw [show ((done.length : Int) + 1) = ((done.length + 1 : Nat) : Int) from rfl, atI_refs (by omega)]
      refine ⟨⟨_, (getF M _ (show done.length + 1 < t.length + 1 by omega)).trans (by rw [if_neg (show ¬ (done.length + 1 = p) by omega)])⟩, ?_⟩
      walk_at "go1"
      rw [getF M _ (by omega)]
      rw [if_neg (show ¬ (done.length + 1 = p) by omega)]
      walk_at "go1"
      rw [setF M _ (by omega)]
      walk_at "go1"
      refine ⟨by rw [← e]; simp, ?_, _, _, _, rfl⟩
      congr 1
      refine cellsF_congr fun i hi => ?_
      rw [List.take_succ, hp, show (some (p, l)).toList = [(p, l)] from rfl, nbL_snoc, List.length_take, Nat.min_eq_left (by omega), Nat.zero_add]
      by_cases e1 : i = done.length + 1
      · subst e1
        rw [if_pos rfl, if_pos rfl, if_neg (show ¬ (p = done.length + 1) by omega), List.nil_append, List.map_append]
        rfl
      · rw [if_neg e1, if_neg (Ne.symm e1), List.append_nil]
        by_cases e2 : i = p
        · subst e2
          rw [if_pos rfl, if_pos rfl, List.map_append]
          rfl
        · rw [if_neg e2, if_neg (Ne.symm e2), List.append_nil]
    rintro done ρ M' ⟨e, rfl, x2, x3, x4, rfl⟩
    have hd := rng_end e
    rw [hd, List.take_length]
    walk_at "go1"
    exact See.keep k
theorem mem_nbL : ∀ (r : List (Nat × Nat)) (k i : Nat) (q : Nat × Nat), q ∈ nbL r k i ↔ ∃ (j : Nat) (p : Nat × Nat), r[j]? = some p ∧ ((p.1 = i ∧ q = (k + j + 1, p.2)) ∨ (k + j + 1 = i ∧ q = p))
  | [], k, i, q => ⟨fun h => (nomatch h), fun ⟨j, p, h, _⟩ => by simp at h⟩
  | (p, l) :: r, k, i, q => by
    show q ∈ (if p = i then [(k + 1, l)] else []) ++ ((if k + 1 = i then [(p, l)] else []) ++ nbL r (k + 1) i) ↔ _
    rw [List.mem_append, List.mem_append, mem_nbL r (k + 1) i q]
    constructor
    · rintro (h | h | ⟨j, p2, h1, h2⟩)
      · split at h
        · next e => exact ⟨0, (p, l), rfl, .inl ⟨e, List.mem_singleton.mp h⟩⟩
        · cases h
      · split at h
        · next e => exact ⟨0, (p, l), rfl, .inr ⟨e, List.mem_singleton.mp h⟩⟩
        · cases h
      · refine ⟨j + 1, p2, h1, ?_⟩
        rw [show k + (j + 1) + 1 = k + 1 + j + 1 by omega]
        exact h2
    · rintro ⟨j, p2, h1, h2⟩
      cases j with
      | zero =>
        cases h1
        rcases h2 with ⟨e, h⟩ | ⟨e, h⟩
        · rw [if_pos e]
          exact .inl (List.mem_singleton.mpr h)
        · rw [if_pos e]
          exact .inr (.inl (List.mem_singleton.mpr h))
      | succ j =>
        rw [show k + (j + 1) + 1 = k + 1 + j + 1 by omega] at h2
        exact .inr (.inr ⟨j, p2, h1, h2⟩)
theorem nbs_near {t : Tr} (ht : TreeOk t) {m : Nat} (hm : m ≤ t.length) (q : Nat × Nat) : q ∈ nbs t m ↔ q ∈ near t m := by
  unfold nbs near belows
  rw [mem_nbL, List.mem_append, List.mem_filterMap]
  constructor
  · rintro ⟨j, p, h1, ⟨e, rfl⟩ | ⟨e, rfl⟩⟩
    · exact .inr ⟨(p, j), List.mem_of_getElem? (i := j) (by rw [List.getElem?_zipIdx, h1]; simp), by rw [Nat.zero_add]; exact if_pos e⟩
    · refine .inl ?_
      rw [if_pos (by omega), show m - 1 = j by omega, List.getD_eq_getElem?_getD, h1]
      exact List.mem_singleton.mpr rfl
  · rintro (h | ⟨r, hr, e⟩)
    · split at h
      · next h0 =>
        obtain ⟨p, hp, _, _, _⟩ := tree_get ht h0 hm
        rw [List.getD_eq_getElem?_getD, hp] at h
        exact ⟨m - 1, p, hp, .inr ⟨by omega, List.mem_singleton.mp h⟩⟩
      · cases h
    · split at e
      · next e1 =>
        cases e
        exact ⟨r.2, r.1, idx_mem hr, .inl ⟨e1, by rw [Nat.zero_add]⟩⟩
      · cases e
theorem nbs_len (t : Tr) (i : Nat) : (nbs t i).length ≤ 2 * t.length := nbL_len t 0 i
structure DijI (t : Tr) (ps : List (Nat × Int)) (fd : Nat → Option Int) (left : List (Int × Int)) : Prop where
  low : ∀ q ∈ left, ∃ m : Nat, q.2 = m ∧ m ≤ t.length ∧ fallT t ps m ≤ q.1
  eq : ∀ m v, m ≤ t.length → fd m = some v → v = fallT t ps m
  src : ∀ p ∈ ps, fd p.1 = none → (p.2, (p.1 : Int)) ∈ left
  nb : ∀ y v, y ≤ t.length → fd y = some v → ∀ q ∈ nbs t y, fd q.1 = none → (v + q.2, (q.1 : Int)) ∈ left
theorem DijI.start {t : Tr} {ps : List (Nat × Int)} (hp : ∀ p ∈ ps, p.1 ≤ t.length) : DijI t ps (fun _ => none) (ps.map fun p => (p.2, (p.1 : Int))) := by
  refine ⟨fun q hq => ?_, fun m v _ h => (nomatch h), fun p h _ => List.mem_map.mpr ⟨p, h, rfl⟩, fun y v _ h => (nomatch h)⟩
  obtain ⟨p, h, rfl⟩ := List.mem_map.mp hq
  have := fallT_le (t := t) h p.1
  rw [dist_self] at this
  exact ⟨p.1, rfl, hp p h, by show _ ≤ p.2; omega⟩
theorem nbs_back {t : Tr} {m : Nat} {q : Nat × Nat} (h : q ∈ nbs t m) : (m, q.2) ∈ nbs t q.1 := by
  unfold nbs at *
  rw [mem_nbL] at *
  obtain ⟨j, p, h1, ⟨e, rfl⟩ | ⟨e, rfl⟩⟩ := h
  · exact ⟨j, p, h1, .inr ⟨rfl, by rw [← e]⟩⟩
  · exact ⟨j, q, h1, .inl ⟨rfl, by rw [← e]⟩⟩
/-- a mark that is not found falls no earlier than the least open tick -/
theorem DijI.least {t : Tr} (ht : TreeOk t) {ps : List (Nat × Int)} (hp : ∀ p ∈ ps, p.1 ≤ t.length) {fd : Nat → Option Int} {left : List (Int × Int)} (I : DijI t ps fd left) {v : Int} (hv : ∀ q ∈ left, v ≤ q.1) {p : Nat × Int} (hm : p ∈ ps) : ∀ (n z : Nat), z ≤ t.length → (dist t p.1 z).toNat ≤ n → fd z = none → v ≤ p.2 + dist t p.1 z := by
  intro n
  induction n with
  | zero =>
    intro z hz hd hf
    by_cases e : p.1 = z
    · subst e
      have := hv _ (I.src p hm hf)
      rw [dist_self]
      show v ≤ p.2 + 0
      dsimp only at this
      omega
    · obtain ⟨q, hq, e2⟩ := last_near ht (hp p hm) hz e
      obtain ⟨_, _, h3⟩ := near_dist ht hz hq
      have := dist_nonneg t p.1 q.1
      omega
  | succ n ih =>
    intro z hz hd hf
    by_cases e : p.1 = z
    · subst e
      have := hv _ (I.src p hm hf)
      rw [dist_self]
      show v ≤ p.2 + 0
      dsimp only at this
      omega
    · obtain ⟨q, hq, e2⟩ := last_near ht (hp p hm) hz e
      obtain ⟨_, h2, h3⟩ := near_dist ht hz hq
      have h4 := dist_nonneg t p.1 q.1
      cases hy : fd q.1 with
      | none =>
        have := ih q.1 h2 (by omega) hy
        omega
      | some u =>
        have h5 := I.eq q.1 u h2 hy
        have h6 := hv _ (I.nb q.1 u h2 hy (z, q.2) (nbs_back ((nbs_near ht hz q).mpr hq)) hf)
        have h7 := fallT_le (t := t) hm q.1
        dsimp only at h6
        omega
theorem DijI.skip {t : Tr} {ps : List (Nat × Int)} {fd : Nat → Option Int} {left : List (Int × Int)} (I : DijI t ps fd left) {v : Int} {m : Nat} {u : Int} (hf : fd m = some u) : DijI t ps fd (left.erase (v, (m : Int))) := by
  have hne : ∀ (z : Int) (k : Nat), fd k = none → (z, (k : Int)) ≠ (v, (m : Int)) := fun z k hk e => by
    have : k = m := by
      have := congrArg Prod.snd e
      dsimp only at this
      omega
    rw [this, hf] at hk
    cases hk
  exact ⟨fun q hq => I.low q (List.mem_of_mem_erase hq), I.eq, fun p h hf2 => (List.mem_erase_of_ne (hne _ _ hf2)).mpr (I.src p h hf2), fun y w hy e q hq hf2 => (List.mem_erase_of_ne (hne _ _ hf2)).mpr (I.nb y w hy e q hq hf2)⟩
def setO (fd : Nat → Option Int) (m : Nat) (v : Int) : Nat → Option Int := fun j => if j = m then some v else fd j
theorem DijI.step {t : Tr} (ht : TreeOk t) {ps : List (Nat × Int)} (hne : ps ≠ []) (hp : ∀ p ∈ ps, p.1 ≤ t.length) {fd : Nat → Option Int} {left : List (Int × Int)} (I : DijI t ps fd left) {v : Int} {m : Nat} (hq : (v, (m : Int)) ∈ left) (hv : ∀ q ∈ left, v ≤ q.1) (hf : fd m = none) : DijI t ps (setO fd m v) (left.erase (v, (m : Int)) ++ (nbs t m).map fun q => (v + q.2, (q.1 : Int))) := by
  obtain ⟨m', e1, hm, hlow⟩ := I.low _ hq
  have : m' = m := by dsimp only at e1; omega
  subst this
  have hvf : v = fallT t ps m' := by
    obtain ⟨p, hp1, e2⟩ := fallT_mem (t := t) hne m'
    have := I.least ht hp hv hp1 _ m' hm (Nat.le_refl _) hf
    dsimp only at hlow
    omega
  have hkeep : ∀ (z : Int) (k : Nat), setO fd m' v k = none → (z, (k : Int)) ∈ left → (z, (k : Int)) ∈ left.erase (v, (m' : Int)) := fun z k hk h => by
    refine (List.mem_erase_of_ne fun e => ?_).mpr h
    have : k = m' := by
      have := congrArg Prod.snd e
      dsimp only at this
      omega
    unfold setO at hk
    rw [if_pos this] at hk
    cases hk
  have hold : ∀ k, setO fd m' v k = none → fd k = none := fun k hk => by
    unfold setO at hk
    split at hk
    · cases hk
    · exact hk
  refine ⟨fun q h => ?_, fun k w hk e => ?_, fun p h e => List.mem_append_left _ (hkeep _ _ e (I.src p h (hold _ e))), fun y w hy e q h e2 => ?_⟩
  · rcases List.mem_append.mp h with z | z
    · exact I.low q (List.mem_of_mem_erase z)
    · obtain ⟨r, hr, rfl⟩ := List.mem_map.mp z
      obtain ⟨d1, d2, d3⟩ := near_dist ht hm ((nbs_near ht hm r).mp hr)
      refine ⟨r.1, rfl, d2, ?_⟩
      have := fallsT_lip (t := t) hne r.1 m' d2 hm
      rw [fallsT_getD t ps d2, fallsT_getD t ps hm, dist_comm, d1] at this
      show _ ≤ v + (r.2 : Int)
      omega
  · unfold setO at e
    split at e
    · next e3 =>
      cases e
      rw [e3]
      exact hvf
    · exact I.eq k w hk e
  · unfold setO at e
    split at e
    · next e3 =>
      cases e
      rw [e3] at h
      exact List.mem_append_right _ (List.mem_map.mpr ⟨q, h, rfl⟩)
    · exact List.mem_append_left _ (hkeep _ _ e2 (I.nb y w hy e q h (hold _ e2)))
theorem DijI.done {t : Tr} (ht : TreeOk t) {ps : List (Nat × Int)} (hne : ps ≠ []) (hp : ∀ p ∈ ps, p.1 ≤ t.length) {fd : Nat → Option Int} (I : DijI t ps fd []) (m : Nat) (hm : m ≤ t.length) : fd m = some (fallT t ps m) := by
  cases ps with
  | nil => exact absurd rfl hne
  | cons p ps =>
    have key : ∀ (n z : Nat), z ≤ t.length → (dist t p.1 z).toNat ≤ n → fd z ≠ none := by
      intro n
      induction n with
      | zero =>
        intro z hz hd hf
        by_cases e : p.1 = z
        · subst e
          exact nomatch I.src p List.mem_cons_self hf
        · obtain ⟨q, hq, e2⟩ := last_near ht (hp p List.mem_cons_self) hz e
          obtain ⟨_, _, h3⟩ := near_dist ht hz hq
          have := dist_nonneg t p.1 q.1
          omega
      | succ n ih =>
        intro z hz hd hf
        by_cases e : p.1 = z
        · subst e
          exact nomatch I.src p List.mem_cons_self hf
        · obtain ⟨q, hq, e2⟩ := last_near ht (hp p List.mem_cons_self) hz e
          obtain ⟨_, h2, h3⟩ := near_dist ht hz hq
          have h4 := dist_nonneg t p.1 q.1
          cases hy : fd q.1 with
          | none => exact ih q.1 h2 (by omega) hy
          | some u => exact nomatch I.nb q.1 u h2 hy (z, q.2) (nbs_back ((nbs_near ht hz q).mpr hq)) hf
    cases h : fd m with
    | none => exact absurd h (key _ m hm (Nat.le_refl _))
    | some v => rw [I.eq m v hm h]
/-- how many marks are not found -/
def unf (n : Nat) (fd : Nat → Option Int) : Nat := (List.range n).countP fun j => (fd j).isNone
theorem unf_le (n : Nat) (fd : Nat → Option Int) : unf n fd ≤ n := by
  have := List.countP_le_length (p := fun j => (fd j).isNone) (l := List.range n)
  rwa [List.length_range] at this
theorem unf_set (n : Nat) (fd : Nat → Option Int) (m : Nat) (v : Int) (hm : m < n) (hf : fd m = none) : unf n (setO fd m v) + 1 = unf n fd := by
  unfold unf
  induction n with
  | zero => omega
  | succ n ih =>
    rw [List.range_succ, List.countP_append, List.countP_append, List.countP_singleton, List.countP_singleton]
    by_cases e : m = n
    · subst e
      have h1 : setO fd m v m = some v := if_pos rfl
      rw [h1, hf]
      have h2 : (List.range m).countP (fun j => (setO fd m v j).isNone) = (List.range m).countP fun j => (fd j).isNone := List.countP_congr fun j hj => by
        have := List.mem_range.mp hj
        have h3 : setO fd m v j = fd j := if_neg (by omega)
        rw [h3]
      rw [h2]
      rfl
    · have := ih (by omega)
      have h3 : setO fd m v n = fd n := if_neg (fun h => e h.symm)
      rw [h3]
      omega
def optI : Option Int → D
  | none => .non
  | some v => .int v
def spFalls : DSp := fun args M Q _ => ∃ (t : Tr) (ps : List (Nat × Int)), args = [treeD t, .tup (ps.map pushD)] ∧ TreeOk t ∧ ps ≠ [] ∧ ps.length ≤ 1000 ∧ (∀ p ∈ ps, p.1 ≤ t.length) ∧ Q (tabD (fallsT t ps)) M
def invDij (t : Tr) (ps : List (Nat × Int)) (m0 : Nat) (G : Sto) (B : Nat) : Nat → Dn → Sto → Prop := fun m ρ M => ∃ (fd : Nat → Option Int) (left : List (Int × Int)) (x5 x6 : Option D), ρ = ⟨[some (treeD t), some (.tup (ps.map pushD)), some (.lst (refsD m0 (t.length + 1))), some (.ref B), some (.ref (B + 1)), x5, x6, none, none], noX⟩
  ∧ M = G ++ [.lst ((List.range (t.length + 1)).map fun j => optI (fd j)), .lst (left.map pD)] ∧ DijI t ps fd left ∧ m = left.length + 24 * unf (t.length + 1) fd ∧ m ≤ 2000
theorem none_flat (n : Nat) : List.replicate n D.non = (List.range n).map fun _ => optI none := by
  induction n with
  | zero => rfl
  | succ n ih => rw [List.replicate_succ', ih, List.range_succ, List.map_append]; rfl
theorem opt_at {n i : Nat} (f : Nat → Option Int) (h : i < n) : atI ((List.range n).map fun j => optI (f j)) (i : Int) = some (optI (f i)) := atI_of rfl (by rw [List.getElem?_map, List.getElem?_range h]; rfl)
theorem opt_set {n i : Nat} (f : Nat → Option Int) (v : Int) : ((List.range n).map fun j => optI (f j)).set i (.int v) = (List.range n).map fun j => optI (setO f i v j) := by
  refine List.ext_getElem (by simp) fun j h1 h2 => ?_
  rw [List.getElem_set, List.getElem_map, List.getElem_map, List.getElem_range]
  unfold setO
  by_cases e : i = j
  · subst e; simp [optI]
  · rw [if_neg e, if_neg (Ne.symm e)]
theorem c__law_falls (T : Tp K mg) : Cl P w K mg base "_law_falls" (1 + 1) ["_law_tree_here", "_law_pushes_here"] spFalls := by
  obtain ⟨f, fd, F, hm⟩ := T.d__law_falls.ex
  have S := sc__law_falls
  have B := T.bn
  have c__law_rows := @c__law_rows P w K mg base T
  refine ⟨⟨f, fd, fnD F S (fun args M Q E h => by (repeat (obtain ⟨_, h⟩ := h)); subst_vars; rfl) (fun cdv A outer s H E hgd hr => ⟨_, (ds_cons (dsp2 2 3 S.nd (d_cons (d_cl c__law_rows hgd (hr.mono (by first | decide | omega)) (d_cons (dv 0) d_nil)) (d_cons (d_op o_mulM (d_lst (d_cons d_non d_nil)) (d_op o_add (d_callB o_len (by rfl) B.len b_len (d_cons (dv 0) d_nil)) d_int)) d_nil)))
  (ds_cons (ds_setLcMI (i := 4) (own := [("_law_mark", 5), ("_law_tick", 6)]) rfl S.nd rfl rfl (sw_true rfl rfl rfl (by decide +kernel)) (di_seq (dv 1)) (blkOk_by (N := ["_law_tree_here", "_law_pushes_here", "_law_rows_here", "_law_found", "_law_left", "_law_mark", "_law_tick", "_law_other", "_law_length"]) (sc := defScope s__law_falls) (by decide +kernel)) (by decide) (fun _ _ _ _ _ => (dg_tup (n := 2) rfl (dgs_cons (dgn 5 S.nd) (dgs_cons (dgn 6 S.nd) dgs_nil)))) (fun _ _ _ _ _ => dts_nil) (fun _ _ _ _ _ => (d_tup (d_cons (dv 6) (d_cons (dv 5) d_nil)))))
  (ds_cons (ds_while (passes_of rfl) (dt_cmp (o_neN hr.units) (dv 4) (d_lst d_nil)) (ds_cons (ds_asg (d_callB (o_minP rfl hr.units) (by rfl) B.min b_min (d_cons (dv 4) d_nil)) (dg_tupL (n := 2) rfl (dgs_cons (dgn 6 S.nd) (dgs_cons (dgn 5 S.nd) dgs_nil))))
  (ds_cons (ds_expr (d_remove hr.units (dv 4) (d_cons (d_tup (d_cons (dv 6) (d_cons (dv 5) d_nil))) d_nil)))
  (ds_one (ds_if (dt_cmp o_isN (d_ix (dv 3) (dv 5) (fun _ _ => rfl)) d_non) (ds_cons (ds_asg (dv 6) (dg_sub (dv 3) (dv 5)))
  (ds_one (ds_expr (d_extend (dv 4) (d_cons (d_lcI (own := [("_law_other", 7), ("_law_length", 8)]) rfl S.nd (di_seq (d_ix (dv 2) (dv 5) (fun _ _ => rfl))) (blkOk_by (N := ["_law_tree_here", "_law_pushes_here", "_law_rows_here", "_law_found", "_law_left", "_law_mark", "_law_tick", "_law_other", "_law_length"]) (sc := defScope s__law_falls) (by decide +kernel)) (by decide) (fun _ _ _ _ _ => (dg_tup (n := 2) rfl (dgs_cons (dgn 7 S.nd) (dgs_cons (dgn 8 S.nd) dgs_nil)))) (fun _ _ _ _ _ => dts_nil) (fun _ _ _ _ _ => (d_tup (d_cons (d_op o_add (dv 6) (dv 8)) (d_cons (dv 7) d_nil))))) d_nil))))) ds_nil)))))
  (ds_one (ds_ret (d_callTy o_tuple (by rfl) B.tuple b_tuple (d_cons (dv 3) d_nil))))))), fun args M Q E' hM hA h => ?_⟩), hm, F.kp, (F.binds (ps := ["_law_tree_here", "_law_pushes_here"]) fun _ _ _ _ _ _ us hl => match us, hl with | [_, _], _ => rfl)⟩, ?_⟩
  rotate_left
  · exact fun args M Q Q' E E' w _ ⟨x0, x1, x2, x3, x4, x5, x6, k⟩ => ⟨x0, x1, x2, x3, x4, x5, x6, w _ _ k⟩
  · obtain ⟨t, ps, rfl, ht, hps, hl, hp, k⟩ := h
    have ht1 := ht.1
    walk_at "go1"
    refine ⟨t, rfl, ht, ?_⟩
    walk_at "go1"
    refine lc_mapL pushD (fun p => pD (p.2, (p.1 : Int))) trivial (by omega) (fun p hp1 kk hk => ?_) ?_
    · walk_at "go1"
      exact hk
    rw [show ps.map (fun p => pD (p.2, (p.1 : Int))) = (ps.map fun p => (p.2, (p.1 : Int))).map pD by rw [List.map_map]; rfl, show ((t.length : Int) + 1).toNat = t.length + 1 by omega, rep_flat]
    walk_at "go1"
    rw [show (nbCells t (t.length + 1)).length = t.length + 1 from cellsF_len _ _]
    obtain ⟨B, hB⟩ : ∃ B, B = M.length + (t.length + 1) := ⟨_, rfl⟩
    obtain ⟨G, hG⟩ : ∃ G, G = M ++ nbCells t (t.length + 1) := ⟨_, rfl⟩
    have hGB : G.length = B := by rw [hG, hB, List.length_append]; congr 1; exact cellsF_len _ _
    have hgr : ∀ (i : Nat) (R : Sto), i < t.length + 1 → (G ++ R)[M.length + i]? = some (.lst ((nbs t i).map rowD)) := fun i R hi => by
      rw [List.getElem?_append_left (by omega), hG]
      exact getF M _ hi
    have g0 : ∀ a b : Cell, (G ++ [a, b])[B]? = some a := fun a b => by rw [List.getElem?_append_right (by omega), hGB, Nat.sub_self]; rfl
    have g1 : ∀ a b : Cell, (G ++ [a, b])[B + 1]? = some b := fun a b => by rw [List.getElem?_append_right (by omega), hGB, show B + 1 - B = 1 by omega]; rfl
    have s0 : ∀ a b c : Cell, (G ++ [a, b]).set B c = G ++ [c, b] := fun a b c => by rw [List.set_append_right _ _ (by omega), hGB, Nat.sub_self]; rfl
    have s1 : ∀ a b c : Cell, (G ++ [a, b]).set (B + 1) c = G ++ [a, c] := fun a b c => by rw [List.set_append_right _ _ (by omega), hGB, show B + 1 - B = 1 by omega]; rfl
    rw [← hB, ← hG]
    refine ⟨invDij t ps M.length G B, ⟨_, fun _ => none, _, none, none, rfl, by rw [show D.non :: List.replicate t.length D.non = (List.range (t.length + 1)).map fun _ => optI none from none_flat (t.length + 1), List.append_assoc]; rfl, DijI.start hp, rfl, ?_⟩, ?_⟩
    · have := unf_le (t.length + 1) fun _ => none
      rw [List.length_map]
      omega
    rintro m ρ M' ⟨fd, left, x5, x6, rfl, rfl, I, rfl, hm⟩
    walk_at "go1"
    have hL : lstOf (D.ref (B + 1)) (G ++ [Cell.lst (List.map (fun j => optI (fd j)) (List.range (t.length + 1))), Cell.lst (left.map pD)]) = some (left.map pD) := by
      unfold lstOf
      dsimp only
      rw [g1]
    refine ⟨rfl, left.map pD, hL, ?_⟩
    by_cases h0 : left = []
    · subst h0
      walk_at "go1"
      rw [g0]
      rw [show ((List.range (t.length + 1)).map fun j => optI (fd j)) = (fallsT t ps).map D.int by
        unfold fallsT
        rw [List.map_map]
        exact List.map_congr_left fun j hj => by
          rw [I.done ht hps hp j (by have := List.mem_range.mp hj; omega)]
          rfl]
      rw [hG, List.append_assoc]
      exact See.drop (bels_int _ _) hM k
    rw [decide_eq_false (by simpa using h0)]
    walk_at "go1"
    refine ⟨left, hL, h0, fun mp hmem hle => ?_⟩
    obtain ⟨v, mi⟩ := mp
    obtain ⟨m, e, hm1, hlow⟩ := I.low _ hmem
    dsimp only at e
    subst e
    have hv : ∀ q ∈ left, v ≤ q.1 := fun q hq => by
      have := hle q hq
      unfold pLe at this
      dsimp only at this
      omega
    walk_at "go1"
    refine ⟨⟨_, g1 _ _⟩, ?_⟩
    walk_at "go1"
    rw [g1]
    walk_at "go1"
    refine ⟨left, (v, (m : Int)), rfl, rfl, hmem, ?_⟩
    dsimp only
    rw [s1]
    have hel := List.length_erase_of_mem hmem
    have hpos := List.length_pos_iff.mpr h0
    walk_at "go1"
    rw [g0]
    walk_at "go1"
    rw [opt_at fd (by omega)]
    cases hf : fd m with
    | some u =>
      walk_at "go1"
      exact ⟨_, by omega, fd, _, _, _, rfl, rfl, I.skip hf, rfl, by omega⟩
    | none =>
      rw [show optI none = D.non from rfl]
      walk_at "go1"
      rw [g0]
      walk_at "go1"
      rw [show ixN (List.range (t.length + 1)).length (m : Int) = some m by rw [List.length_range, ixN_of (by omega) (by omega)]; rfl]
      dsimp only
      rw [s0, opt_set]
      walk_at "go1"
      refine ⟨⟨_, g1 _ _⟩, ?_⟩
      walk_at "go1"
      rw [atI_refs (by omega)]
      walk_at "go1"
      rw [hgr m _ (by omega)]
      have hnl := nbs_len t m
      walk_at "go1"
      refine lc_mapL rowD (fun q => pD (v + (q.2 : Int), (q.1 : Int))) (hgr m _ (by omega)) (by omega) (fun q hq kk hk => ?_) ?_
      · walk_at "go1"
        exact hk
      walk_at "go1"
      rw [g1]
      have hun := unf_set (t.length + 1) fd m v (by omega) hf
      walk_at "go1"
      rw [s1]
      refine ⟨_, ?_, setO fd m v, left.erase (v, (m : Int)) ++ (nbs t m).map fun q => (v + (q.2 : Int), (q.1 : Int)), _, _, rfl, ?_, I.step ht hps hp hmem hv hf, rfl, ?_⟩
      · rw [List.length_append, List.length_map]
        omega
      · rw [List.map_append, List.map_map]
        rfl
      · rw [List.length_append, List.length_map]
        omega
def spPushes : DSp := fun args M Q _ => ∃ (cs : CR) (n : Int) (R : Sto) (t : Tr) (most b : Nat) (ticks : Int), args = [.ref 1, treeD t, natD most, .int ticks] ∧ M = dkd cs n ++ R ∧ Gd (b + 41) cs n ∧ t.length ≤ 12 ∧ 1 ≤ most ∧ most ≤ 20 ∧ 0 < ticks ∧ ticks < 1073741824 ∧ ∀ (ps : List (Nat × Int)) (cs' : CR) (n' : Int), ps ≠ [] → ps.length ≤ most → (∀ p ∈ ps, p.1 ≤ t.length ∧ 0 ≤ p.2 ∧ p.2 < ticks) → Gd b cs' n' → Q (.tup (ps.map pushD)) (dkd cs' n' ++ R)
def invPushes (t : Tr) (most : Nat) (ticks : Int) (m b : Nat) (R : Sto) : List D → List D → Dn → Sto → Prop := fun done todo ρ M => done ++ todo = rng 0 m ∧ ∃ (ps : List (Nat × Int)) (cs : CR) (n : Int) (x5 : Option D), ρ = ⟨[some (.ref 1), some (treeD t), some (natD most), some (.int ticks), some (.ref (R.length + 2)), x5], noX⟩ ∧ M = dkd cs n ++ (R ++ [.lst (ps.map pushD)]) ∧ ps.length = done.length ∧ (∀ p ∈ ps, p.1 ≤ t.length ∧ 0 ≤ p.2 ∧ p.2 < ticks) ∧ Gd (b + 2 * todo.length) cs n
theorem c__law_pushes (T : Tp K mg) : Cl P w K mg base "_law_pushes" (1 + 1) ["_law_state", "_law_tree_here", "_law_most", "_law_ticks"] spPushes := by
  obtain ⟨f, fd, F, hm⟩ := T.d__law_pushes.ex
  have S := sc__law_pushes
  have B := T.bn
  have c__law_next := @c__law_next P w K mg base T
  refine ⟨⟨f, fd, fnD F S (fun args M Q E h => by (repeat (obtain ⟨_, h⟩ := h)); subst_vars; rfl) (fun cdv A outer s H E hgd hr => ⟨_, (ds_cons (dss 4 S.nd (d_lstM d_nil))
  (ds_cons (ds_forI (passes_of rfl) rfl (di_range1 (by rfl) B.range (d_cons (d_op o_add d_int (d_cl c__law_next hgd (hr.mono (by first | decide | omega)) (d_cons (dv 0) (d_cons (dv 2) d_nil)))) d_nil)) (dgn 5 S.nd) (ds_one (ds_expr (d_append (dv 4) (d_cons (d_tup (d_cons (d_cl c__law_next hgd (hr.mono (by first | decide | omega)) (d_cons (dv 0) (d_cons (d_op o_add (d_callB o_len (by rfl) B.len b_len (d_cons (dv 1) d_nil)) d_int) d_nil))) (d_cons (d_cl c__law_next hgd (hr.mono (by first | decide | omega)) (d_cons (dv 0) (d_cons (dv 3) d_nil))) d_nil))) d_nil)))))
  (ds_one (ds_ret (d_callTy o_tuple (by rfl) B.tuple b_tuple (d_cons (dv 4) d_nil)))))), fun args M Q E' hM hA h => ?_⟩), hm, F.kp, (F.binds (ps := ["_law_state", "_law_tree_here", "_law_most", "_law_ticks"]) fun _ _ _ _ _ _ us hl => match us, hl with | [_, _, _, _], _ => rfl)⟩, ?_⟩
  rotate_left
  · exact fun args M Q Q' E E' w _ ⟨x0, x1, x2, x3, x4, x5, x6, x7, x8, x9, x10, x11, x12, x13, x14, k⟩ => ⟨x0, x1, x2, x3, x4, x5, x6, x7, x8, x9, x10, x11, x12, x13, x14, fun y0 y1 y2 y3 y4 y5 y6 => w _ _ (k y0 y1 y2 y3 y4 y5 y6)⟩
  · obtain ⟨cs, n, R, t, most, b, ticks, rfl, rfl, g, ht, m1, m2, t1, t2, k⟩ := h
    walk_at "go1"
    rw [List.append_assoc]
    refine drd (b := b + 40) g (by omega) (by omega) fun r1 cs n h1 g => ?_
    walk_at "go1"
    rw [show (1 + (r1 : Int)).toNat = r1 + 1 by omega]
    refine ⟨invPushes t most ticks (r1 + 1) b R, ⟨rfl, [], cs, n, none, by rw [dkd_two], rfl, rfl, by simp, g.le (by rw [rng_length]; omega)⟩, fun _ _ _ _ _ => trivial, ?_, ?_⟩
    · rintro done d todo ρ M ⟨e, ps, cs, n, x5, rfl, rfl, hl, hp, g⟩
      obtain ⟨rfl, hlt⟩ := rng_at e
      rw [List.length_cons, Nat.mul_add] at g
      walk_at "go1"
      refine drd (b := b + 2 * todo.length + 1) g (by omega) (by omega) fun r2 cs n h2 g => ?_
      walk_at "go1"
      refine drd (b := b + 2 * todo.length) g (by omega) (by omega) fun r3 cs n h3 g => ?_
      walk_at "go1"
      rw [get_dkd]
      walk_at "go1"
      rw [set_dkd]
      refine ⟨by rw [← e]; simp, ps ++ [(r2, (r3 : Int))], cs, n, _, rfl, by rw [List.map_append]; rfl, by simp [hl], fun p hp1 => ?_, g⟩
      rcases List.mem_append.mp hp1 with z | z
      · exact hp p z
      · rw [List.mem_singleton.mp z]
        exact ⟨by show r2 ≤ _; omega, by show (0 : Int) ≤ (r3 : Int); omega, h3⟩
    · rintro done ρ M ⟨e, ps, cs, n, x5, rfl, rfl, hl, hp, g⟩
      have hd := rng_end e
      walk_at "go1"
      rw [get_dkd]
      walk_at "go1"
      refine see_dkd hM ?_ (k ps cs n (fun z => by rw [z] at hl; simp at hl; omega) (by omega) hp g)
      exact bels_of fun d hd => by
        obtain ⟨p, _, rfl⟩ := List.mem_map.mp hd
        rfl
theorem seq_mid {A B : DTS} {D : DEnds} {ρ : Dn} {M : Sto} (P : Dn → Sto → Prop) (h1 : ∀ nx : Dn → Sto → Prop, (∀ ρ' M', P ρ' M' → nx ρ' M') → A { D with nx := nx } ρ M) (h2 : ∀ ρ' M', P ρ' M' → B D ρ' M') : dSeq A B D ρ M := h1 (B D) h2
def sm : Nat → (Nat → Int) → Int
  | 0, _ => 0
  | n + 1, f => sm n f + f n
theorem sm_congr {n : Nat} {f g : Nat → Int} (h : ∀ i, i < n → f i = g i) : sm n f = sm n g := by
  induction n with
  | zero => rfl
  | succ n ih =>
    show sm n f + f n = sm n g + g n
    rw [ih fun i hi => h i (by omega), h n (by omega)]
theorem sm_list (n : Nat) (f : Nat → Int) : ((List.range n).map f).sum = sm n f := by
  induction n with
  | zero => rfl
  | succ n ih =>
    rw [List.range_succ, List.map_append, List.sum_append, ih]
    show sm n f + (f n + 0) = sm n f + f n
    omega
/-- the sum of the counts from an index to one before another index, as far as they exist -/
def seg (lo hi : Int) (n : Nat) (f : Nat → Int) : Int := sm n fun i => if lo ≤ (i : Int) ∧ (i : Int) < hi then f i else 0
theorem seg_eq (lo hi : Int) (n : Nat) (f : Nat → Int) : seg lo hi n f = sm (min n hi.toNat) f - sm (min (min n hi.toNat) lo.toNat) f := by
  unfold seg
  induction n with
  | zero => simp [sm]
  | succ n ih =>
    show sm n _ + (if lo ≤ (n : Int) ∧ (n : Int) < hi then f n else 0) = _
    rw [ih]
    by_cases h1 : (n : Int) < hi
    · rw [show min n hi.toNat = n by omega, show min (n + 1) hi.toNat = n + 1 by omega]
      by_cases h2 : lo ≤ (n : Int)
      · rw [if_pos ⟨h2, h1⟩, show min n lo.toNat = lo.toNat by omega, show min (n + 1) lo.toNat = lo.toNat by omega]
        show _ = sm n f + f n - _
        omega
      · rw [if_neg (fun h => h2 h.1), show min n lo.toNat = n by omega, show min (n + 1) lo.toNat = n + 1 by omega]
        omega
    · rw [if_neg (fun h => h1 h.2), show min (n + 1) hi.toNat = min n hi.toNat by omega]
      omega
/-- the same sum, walked from one number to another -/
theorem seg_walk {lo hi : Int} {n : Nat} (f : Nat → Int) {a b : Nat} (ha : a = min (min n hi.toNat) lo.toNat) (hb : b = min n hi.toNat) : seg lo hi n f = sm (b - a) fun j => f (a + j) := by
  rw [seg_eq, ← hb]
  rw [← hb] at ha
  rw [← ha]
  have hab : a ≤ b := by omega
  clear ha hb
  obtain ⟨d, rfl⟩ := Nat.le.dest hab
  rw [Nat.add_sub_cancel_left]
  clear hab
  induction d with
  | zero => show sm a f - sm a f = 0; omega
  | succ d ih =>
    show sm (a + d) f + f (a + d) - sm a f = sm d _ + f (a + d)
    rw [← ih]
    omega
/-- the closed windows, the counts -/
abbrev CW := List (Nat × Nat)
def lo (ws : CW) (m : Nat) : Nat := (ws.getD m (0, 0)).1
def wd (ws : CW) (m : Nat) : Nat := (ws.getD m (0, 0)).2 + 1 - (ws.getD m (0, 0)).1
abbrev Cn := Nat → Nat → Int
/-- the sum of a mark's counts that its parent's count at an index is multiplied by -/
def near1 (t : Tr) (ws : CW) (C : Nat → Int) (k i : Nat) : Int := seg ((i : Int) + ((lo ws (par t k) : Int) - (lo ws k : Int)) - (ln t k : Int)) ((i : Int) + ((lo ws (par t k) : Int) - (lo ws k : Int)) + (ln t k : Int) + 1) (wd ws k) C
def stepC (t : Tr) (ws : CW) (k : Nat) (C : Cn) : Cn := fun m i => if m = par t k then C m i * near1 t ws (C k) k i else C m i
def Cd (t : Tr) (ws : CW) (n : Nat) : Nat → Cn
  | 0 => fun _ _ => 1
  | r + 1 => stepC t ws (n - r) (Cd t ws n r)
def cnt (t : Tr) (ws : CW) : Int := sm (wd ws 0) (Cd t ws t.length t.length 0)
/-- how great the counts can be -/
def eb : Nat → Nat
  | 0 => 9
  | r + 1 => 2 * eb r + 9
theorem eb_mono (r d : Nat) : eb r ≤ eb (r + d) := by
  induction d with
  | zero => exact Nat.le_refl _
  | succ d ih =>
    show eb r ≤ 2 * eb (r + d) + 9
    omega
theorem eb_le {r : Nat} (h : r ≤ 11) : eb r ≤ 36855 := by
  have := eb_mono r (11 - r)
  rw [show r + (11 - r) = 11 by omega] at this
  exact Nat.le_trans this (by decide)
theorem sm_bnd {f : Nat → Int} {e : Nat} : ∀ {n : Nat}, (∀ i, i < n → 0 ≤ f i ∧ f i < 2 ^ e) → 0 ≤ sm n f ∧ sm n f ≤ n * 2 ^ e
  | 0, _ => ⟨Int.le_refl _, by show (0 : Int) ≤ ((0 : Nat) : Int) * _; simp⟩
  | n + 1, h => by
    have ih := sm_bnd (n := n) fun i hi => h i (by omega)
    have h1 := h n (by omega)
    show 0 ≤ sm n f + f n ∧ sm n f + f n ≤ ((n + 1 : Nat) : Int) * 2 ^ e
    rw [show ((n + 1 : Nat) : Int) = (n : Int) + 1 from rfl, Int.add_mul, Int.one_mul]
    omega
theorem pow_pos' (e : Nat) : (0 : Int) < 2 ^ e := Int.pow_pos (by decide)
theorem seg_bnd {f : Nat → Int} {e n : Nat} {a b : Int} (hn : n ≤ 301) (h : ∀ i, i < n → 0 ≤ f i ∧ f i < 2 ^ e) : 0 ≤ seg a b n f ∧ seg a b n f < 2 ^ (e + 9) := by
  have hp := pow_pos' e
  obtain ⟨h1, h2⟩ := sm_bnd (n := n) (f := fun i => if a ≤ (i : Int) ∧ (i : Int) < b then f i else 0) (e := e) fun i hi => by
    have := h i hi
    split <;> omega
  refine ⟨h1, Int.lt_of_le_of_lt h2 ?_⟩
  rw [Int.pow_add]
  refine Int.lt_of_le_of_lt (b := 301 * 2 ^ e) (Int.mul_le_mul_of_nonneg_right (by omega) (by omega)) ?_
  rw [Int.mul_comm]
  exact Int.mul_lt_mul_of_pos_left (by decide) hp
theorem mul_bnd {x y : Int} {a b : Nat} (hx : 0 ≤ x ∧ x < 2 ^ a) (hy : 0 ≤ y ∧ y < 2 ^ b) : 0 ≤ x * y ∧ x * y < 2 ^ (a + b) := by
  refine ⟨Int.mul_nonneg hx.1 hy.1, ?_⟩
  rw [Int.pow_add]
  by_cases h0 : y = 0
  · subst h0
    rw [Int.mul_zero]
    exact Int.mul_pos (pow_pos' a) (pow_pos' b)
  · exact Int.lt_of_lt_of_le (Int.mul_lt_mul_of_pos_right hx.2 (by omega)) (Int.mul_le_mul_of_nonneg_left (by omega) (Int.le_of_lt (pow_pos' a)))
theorem Cd_bnd {t : Tr} {ws : CW} (hw : ∀ m, wd ws m ≤ 301) (n : Nat) : ∀ (r m i : Nat), 0 ≤ Cd t ws n r m i ∧ Cd t ws n r m i < 2 ^ eb r
  | 0, m, i => ⟨by show (0 : Int) ≤ 1; decide, by show (1 : Int) < 2 ^ 9; decide⟩
  | r + 1, m, i => by
    have ih := Cd_bnd (t := t) (ws := ws) hw n r
    show 0 ≤ stepC t ws (n - r) (Cd t ws n r) m i ∧ stepC t ws (n - r) (Cd t ws n r) m i < 2 ^ (2 * eb r + 9)
    unfold stepC
    split
    · have := mul_bnd (ih m i) (seg_bnd (a := (i : Int) + ((lo ws (par t (n - r)) : Int) - (lo ws (n - r) : Int)) - (ln t (n - r) : Int)) (b := (i : Int) + ((lo ws (par t (n - r)) : Int) - (lo ws (n - r) : Int)) + (ln t (n - r) : Int) + 1) (hw (n - r)) fun i _ => ih (n - r) i)
      rw [show 2 * eb r + 9 = eb r + (eb r + 9) by omega]
      exact this
    · refine ⟨(ih m i).1, Int.lt_of_lt_of_le (ih m i).2 ?_⟩
      rw [show 2 * eb r + 9 = eb r + (eb r + 9) by omega, Int.pow_add]
      have := pow_pos' (eb r)
      have := pow_pos' (eb r + 9)
      refine Int.le_trans (b := 2 ^ eb r * 1) (by omega) (Int.mul_le_mul_of_nonneg_left (by omega) (by omega))
theorem abs_lt {x : Int} {e : Nat} (h : 0 ≤ x ∧ x < 2 ^ e) : x.natAbs < 2 ^ e := by
  have h1 : ((x.natAbs : Nat) : Int) < ((2 ^ e : Nat) : Int) := by
    rw [Int.natAbs_of_nonneg h.1]
    have : ((2 ^ e : Nat) : Int) = (2 : Int) ^ e := by norm_cast
    rw [this]
    exact h.2
  exact Int.ofNat_lt.mp h1
/-- the counts of a mark, all at once: a product over its children -/
def pm : Nat → (Nat → Int) → Int
  | 0, _ => 1
  | n + 1, f => pm n f * f n
def chF (t : Tr) (ws : CW) (n m i j : Nat) : Int := if par t (j + 1) = m then near1 t ws (Cd t ws n (n - (j + 1)) (j + 1)) (j + 1) i else 1
theorem pm_one {f : Nat → Int} : ∀ {n : Nat}, (∀ j, j < n → f j = 1) → pm n f = 1
  | 0, _ => rfl
  | n + 1, h => by
    show pm n f * f n = 1
    rw [pm_one fun j hj => h j (by omega), h n (by omega), Int.one_mul]
theorem pm_Cd {t : Tr} (ht : TreeOk t) {ws : CW} {n : Nat} (hn : n = t.length) (m i : Nat) : ∀ r, r ≤ n → pm (n - r) (chF t ws n m i) * Cd t ws n r m i = pm n (chF t ws n m i)
  | 0, _ => by
    show pm n _ * 1 = _
    rw [Int.mul_one]
  | r + 1, h => by
    rw [← pm_Cd ht hn m i r (by omega)]
    obtain ⟨k, hk⟩ : ∃ k, n - r = k + 1 := ⟨n - r - 1, by omega⟩
    rw [show n - (r + 1) = k by omega, hk]
    show pm k (chF t ws n m i) * stepC t ws (n - r) (Cd t ws n r) m i = pm k (chF t ws n m i) * chF t ws n m i k * Cd t ws n r m i
    rw [hk]
    unfold stepC chF
    rw [show n - (k + 1) = r by omega]
    by_cases e : m = par t (k + 1)
    · rw [if_pos e, if_pos e.symm, Int.mul_assoc, Int.mul_comm (Cd t ws n r m i)]
    · rw [if_neg e, if_neg (fun h => e h.symm), Int.mul_one]
theorem pm_fin {t : Tr} (ht : TreeOk t) {ws : CW} {n : Nat} (hn : n = t.length) {m : Nat} (hm : m ≤ n) (i : Nat) : Cd t ws n (n - m) m i = pm n (chF t ws n m i) := by
  rw [← pm_Cd ht hn m i (n - m) (by omega), show n - (n - m) = m by omega, pm_one, Int.one_mul]
  intro j hj
  unfold chF
  rw [if_neg]
  intro e
  obtain ⟨p, _, h1, _, h2⟩ := tree_get ht (m := j + 1) (by omega) (by omega)
  omega
theorem pm_bnd {f : Nat → Int} {e : Nat} : ∀ {n : Nat}, (∀ j, j < n → 0 ≤ f j ∧ f j < 2 ^ e) → 0 ≤ pm n f ∧ pm n f < 2 ^ (e * n + 1)
  | 0, _ => by
    show (0 : Int) ≤ 1 ∧ (1 : Int) < 2 ^ (e * 0 + 1)
    exact ⟨by decide, by rw [Nat.mul_zero]; decide⟩
  | n + 1, h => by
    have := mul_bnd (pm_bnd (n := n) fun j hj => h j (by omega)) (h n (by omega))
    rw [show e * (n + 1) + 1 = e * n + 1 + e by rw [Nat.mul_add]; omega]
    exact this
theorem chF_bnd {t : Tr} {ws : CW} (hw : ∀ m, wd ws m ≤ 301) {n : Nat} (hn : n ≤ 11) (m i j : Nat) : 0 ≤ chF t ws n m i j ∧ chF t ws n m i j < 2 ^ 36864 := by
  have hle : ∀ {x : Int} {e : Nat}, e ≤ 36864 → 0 ≤ x ∧ x < 2 ^ e → 0 ≤ x ∧ x < 2 ^ 36864 := fun {x e} he h => ⟨h.1, by
    refine Int.lt_of_lt_of_le h.2 ?_
    rw [show 36864 = e + (36864 - e) by omega, Int.pow_add]
    have h1 := pow_pos' e
    have h2 := pow_pos' (36864 - e)
    exact Int.le_trans (b := 2 ^ e * 1) (by omega) (Int.mul_le_mul_of_nonneg_left (by omega) (by omega))⟩
  unfold chF
  split
  · have h1 := eb_le (r := n - (j + 1)) (by omega)
    exact hle (e := eb (n - (j + 1)) + 9) (by omega) (seg_bnd (hw _) fun i _ => Cd_bnd hw n _ _ i)
  · exact hle (e := 1) (by decide) ⟨by decide, by decide⟩
def rgI (a b : Int) : List Int := (List.range (b - a).toNat).map fun (j : Nat) => a + (j : Int)
def exL (t : Tr) (ws : CW) (m : Nat) (tb : List Int) : Int := if m = 0 then (lo ws m : Int) else if tb.getD (par t m) 0 - (ln t m : Int) > (lo ws m : Int) then tb.getD (par t m) 0 - (ln t m : Int) else (lo ws m : Int)
def exH (t : Tr) (ws : CW) (m : Nat) (tb : List Int) : Int := if m = 0 then ((ws.getD m (0, 0)).2 : Int) else if tb.getD (par t m) 0 + (ln t m : Int) < ((ws.getD m (0, 0)).2 : Int) then tb.getD (par t m) 0 + (ln t m : Int) else ((ws.getD m (0, 0)).2 : Int)
def ext (t : Tr) (ws : CW) (m : Nat) (tb : List Int) : List Int := rgI (exL t ws m tb) (exH t ws m tb + 1)
def tabsL (t : Tr) (ws : CW) : Nat → List (List Int)
  | 0 => [[]]
  | m + 1 => (tabsL t ws m).flatMap fun tb => (ext t ws m tb).map fun v => tb ++ [v]
theorem mem_rgI {a b v : Int} : v ∈ rgI a b ↔ a ≤ v ∧ v < b := by
  unfold rgI
  rw [List.mem_map]
  constructor
  · rintro ⟨j, hj, rfl⟩
    have := List.mem_range.mp hj
    omega
  · rintro ⟨h1, h2⟩
    exact ⟨(v - a).toNat, List.mem_range.mpr (by omega), by omega⟩
theorem exL_ge (t : Tr) (ws : CW) (m : Nat) (tb : List Int) : (lo ws m : Int) ≤ exL t ws m tb := by
  unfold exL
  split
  · omega
  · split <;> omega
theorem exH_le (t : Tr) (ws : CW) (m : Nat) (tb : List Int) : exH t ws m tb ≤ ((ws.getD m (0, 0)).2 : Int) := by
  unfold exH
  split
  · omega
  · split <;> omega
theorem tabs_mem {t : Tr} {ws : CW} : ∀ {m : Nat} {tb : List Int}, tb ∈ tabsL t ws m → tb.length = m ∧ ∀ j, j < m → (lo ws j : Int) ≤ tb.getD j 0 ∧ tb.getD j 0 ≤ ((ws.getD j (0, 0)).2 : Int)
  | 0, tb, h => by
    rw [List.mem_singleton.mp h]
    exact ⟨rfl, fun j hj => absurd hj (by omega)⟩
  | m + 1, tb, h => by
    obtain ⟨tb, h1, h2⟩ := List.mem_flatMap.mp h
    obtain ⟨v, h3, rfl⟩ := List.mem_map.mp h2
    obtain ⟨h4, h5⟩ := mem_rgI.mp h3
    obtain ⟨l, hl⟩ := tabs_mem h1
    refine ⟨by rw [List.length_append, l]; rfl, fun j hj => ?_⟩
    have e1 := exL_ge t ws m tb
    have e2 := exH_le t ws m tb
    by_cases e : j = m
    · subst e
      rw [show (tb ++ [v]).getD j 0 = v by rw [List.getD_eq_getElem?_getD, List.getElem?_append_right (by omega), l]; simp]
      omega
    · rw [show (tb ++ [v]).getD j 0 = tb.getD j 0 by rw [List.getD_eq_getElem?_getD, List.getElem?_append_left (by omega), ← List.getD_eq_getElem?_getD]]
      exact hl j (by omega)
theorem rgI_len (a b : Int) : (rgI a b).length = (b - a).toNat := by unfold rgI; rw [List.length_map, List.length_range]
theorem ext_len (t : Tr) (ws : CW) (m : Nat) (tb : List Int) : (ext t ws m tb).length ≤ wd ws m := by
  have e1 := exL_ge t ws m tb
  have e2 := exH_le t ws m tb
  unfold ext wd
  unfold lo at e1
  rw [rgI_len]
  omega
theorem flatM_len {α β : Type} {f : α → List β} {k : Nat} : ∀ {xs : List α}, (∀ x ∈ xs, (f x).length ≤ k) → (xs.flatMap f).length ≤ xs.length * k
  | [], _ => by simp
  | x :: xs, h => by
    rw [List.flatMap_cons, List.length_append, List.length_cons, Nat.add_mul]
    have := flatM_len (f := f) (k := k) fun y hy => h y (List.mem_cons_of_mem _ hy)
    have := h x List.mem_cons_self
    omega
theorem tabs_len {t : Tr} {ws : CW} {k : Nat} (h : ∀ m, wd ws m ≤ k) : ∀ m, (tabsL t ws m).length ≤ k ^ m
  | 0 => by show 1 ≤ k ^ 0; rw [Nat.pow_zero]; exact Nat.le_refl _
  | m + 1 => by
    have h1 : (tabsL t ws (m + 1)).length ≤ (tabsL t ws m).length * k := flatM_len (xs := tabsL t ws m) (f := fun tb => (ext t ws m tb).map fun v => tb ++ [v]) fun tb _ => by
      rw [List.length_map]
      exact Nat.le_trans (ext_len t ws m tb) (h m)
    rw [Nat.pow_succ]
    exact Nat.le_trans h1 (Nat.mul_le_mul_right k (tabs_len h m))
/-- the weight of a table of the first marks -/
def wt (ws : CW) (C : Cn) (tb : List Int) (n : Nat) : Int := pm n fun j => C j ((tb.getD j 0) - (lo ws j : Int)).toNat
theorem pm_congr {f g : Nat → Int} : ∀ {n : Nat}, (∀ j, j < n → f j = g j) → pm n f = pm n g
  | 0, _ => rfl
  | n + 1, h => by
    show pm n f * f n = pm n g * g n
    rw [pm_congr fun j hj => h j (by omega), h n (by omega)]
theorem pm_at {f g : Nat → Int} {z : Int} {p : Nat} : ∀ {n : Nat}, p < n → (∀ j, j ≠ p → f j = g j) → f p = g p * z → pm n f = pm n g * z
  | 0, h, _, _ => absurd h (by omega)
  | n + 1, h, h1, h2 => by
    show pm n f * f n = pm n g * g n * z
    by_cases e : p = n
    · subst e
      rw [h2, pm_congr (g := g) fun j hj => h1 j (by omega), Int.mul_assoc]
    · rw [pm_at (n := n) (by omega) h1 h2, h1 n (fun h => e h.symm), Int.mul_assoc, Int.mul_comm z, Int.mul_assoc]
def sumL {α : Type} (xs : List α) (f : α → Int) : Int := (xs.map f).sum
theorem sumL_flat {α β : Type} (xs : List α) (g : α → List β) (f : β → Int) : sumL (xs.flatMap g) f = sumL xs fun x => sumL (g x) f := by
  unfold sumL
  induction xs with
  | nil => rfl
  | cons x xs ih =>
    rw [List.flatMap_cons, List.map_append, List.sum_append, List.map_cons, List.sum_cons, ih]
theorem sumL_congr {α : Type} {xs : List α} {f g : α → Int} (h : ∀ x ∈ xs, f x = g x) : sumL xs f = sumL xs g := by
  unfold sumL
  rw [List.map_congr_left h]
theorem sumL_mul {α : Type} (xs : List α) (c : Int) (f : α → Int) : sumL xs (fun x => c * f x) = c * sumL xs f := by
  unfold sumL
  induction xs with
  | nil => show (0 : Int) = c * 0; rw [Int.mul_zero]
  | cons x xs ih =>
    rw [List.map_cons, List.sum_cons, List.map_cons, List.sum_cons, ih, Int.mul_add]
theorem sumL_one {α : Type} (xs : List α) : sumL xs (fun _ => 1) = (xs.length : Int) := by
  unfold sumL
  induction xs with
  | nil => rfl
  | cons x xs ih => rw [List.map_cons, List.sum_cons, ih, List.length_cons]; omega
theorem sumL_rg (a b : Int) (f : Int → Int) : sumL (rgI a b) f = sm (b - a).toNat fun j => f (a + j) := by
  unfold sumL rgI
  rw [List.map_map]
  exact sm_list _ _
theorem ext_near {t : Tr} {ws : CW} {m : Nat} (h0 : 0 < m) {tb : List Int} (hp : (lo ws (par t m) : Int) ≤ tb.getD (par t m) 0) (hw : lo ws m ≤ (ws.getD m (0, 0)).2) (C : Nat → Int) :
    sumL (ext t ws m tb) (fun v => C (v - (lo ws m : Int)).toNat) = near1 t ws C m (tb.getD (par t m) 0 - (lo ws (par t m) : Int)).toNat := by
  have hwd : wd ws m = (ws.getD m (0, 0)).2 + 1 - lo ws m := rfl
  unfold ext near1
  rw [sumL_rg]
  have eL : exL t ws m tb = if tb.getD (par t m) 0 - (ln t m : Int) > (lo ws m : Int) then tb.getD (par t m) 0 - (ln t m : Int) else (lo ws m : Int) := if_neg (by omega)
  have eH : exH t ws m tb = if tb.getD (par t m) 0 + (ln t m : Int) < ((ws.getD m (0, 0)).2 : Int) then tb.getD (par t m) 0 + (ln t m : Int) else ((ws.getD m (0, 0)).2 : Int) := if_neg (by omega)
  rw [eL, eH, hwd]
  generalize tb.getD (par t m) 0 = y at hp ⊢
  generalize lo ws (par t m) = lp at hp ⊢
  generalize (ws.getD m (0, 0)).2 = h at hw ⊢
  generalize lo ws m = l at hw ⊢
  generalize ln t m = q
  rw [seg_walk C rfl rfl]
  by_cases h1 : y - (q : Int) > (l : Int)
  · rw [if_pos h1]
    by_cases h2 : y + (q : Int) < (h : Int)
    · rw [if_pos h2]
      by_cases hh : y - (q : Int) < y + (q : Int) + 1
      · rw [show (y + (q : Int) + 1 - (y - (q : Int))).toNat = min (h + 1 - l) (((y - (lp : Int)).toNat : Int) + ((lp : Int) - (l : Int)) + (q : Int) + 1).toNat - min (min (h + 1 - l) (((y - (lp : Int)).toNat : Int) + ((lp : Int) - (l : Int)) + (q : Int) + 1).toNat) (((y - (lp : Int)).toNat : Int) + ((lp : Int) - (l : Int)) - (q : Int)).toNat by omega]
        exact sm_congr fun j hj => congrArg C (by omega)
      · omega
    · rw [if_neg h2]
      rw [show ((h : Int) + 1 - (y - (q : Int))).toNat = min (h + 1 - l) (((y - (lp : Int)).toNat : Int) + ((lp : Int) - (l : Int)) + (q : Int) + 1).toNat - min (min (h + 1 - l) (((y - (lp : Int)).toNat : Int) + ((lp : Int) - (l : Int)) + (q : Int) + 1).toNat) (((y - (lp : Int)).toNat : Int) + ((lp : Int) - (l : Int)) - (q : Int)).toNat by omega]
      exact sm_congr fun j hj => congrArg C (by omega)
  · rw [if_neg h1]
    by_cases h2 : y + (q : Int) < (h : Int)
    · rw [if_pos h2]
      rw [show (y + (q : Int) + 1 - (l : Int)).toNat = min (h + 1 - l) (((y - (lp : Int)).toNat : Int) + ((lp : Int) - (l : Int)) + (q : Int) + 1).toNat - min (min (h + 1 - l) (((y - (lp : Int)).toNat : Int) + ((lp : Int) - (l : Int)) + (q : Int) + 1).toNat) (((y - (lp : Int)).toNat : Int) + ((lp : Int) - (l : Int)) - (q : Int)).toNat by omega]
      exact sm_congr fun j hj => congrArg C (by omega)
    · rw [if_neg h2]
      rw [show ((h : Int) + 1 - (l : Int)).toNat = min (h + 1 - l) (((y - (lp : Int)).toNat : Int) + ((lp : Int) - (l : Int)) + (q : Int) + 1).toNat - min (min (h + 1 - l) (((y - (lp : Int)).toNat : Int) + ((lp : Int) - (l : Int)) + (q : Int) + 1).toNat) (((y - (lp : Int)).toNat : Int) + ((lp : Int) - (l : Int)) - (q : Int)).toNat by omega]
      exact sm_congr fun j hj => congrArg C (by omega)
/-- one mark less -/
theorem tabs_step {t : Tr} (ht : TreeOk t) {ws : CW} (hw : ∀ m, m ≤ t.length → lo ws m ≤ (ws.getD m (0, 0)).2) (C : Cn) {m : Nat} (h0 : 0 < m) (hm : m ≤ t.length) :
    sumL (tabsL t ws (m + 1)) (fun tb => wt ws C tb (m + 1)) = sumL (tabsL t ws m) fun tb => wt ws (stepC t ws m C) tb m := by
  show sumL ((tabsL t ws m).flatMap fun tb => (ext t ws m tb).map fun v => tb ++ [v]) _ = _
  rw [sumL_flat]
  refine sumL_congr fun tb htb => ?_
  obtain ⟨hl, hb⟩ := tabs_mem htb
  obtain ⟨p, _, e1, _, e2⟩ := tree_get ht h0 hm
  have hpm : par t m < m := by omega
  have hwt : ∀ v, wt ws C (tb ++ [v]) (m + 1) = wt ws C tb m * C m (v - (lo ws m : Int)).toNat := fun v => by
    show pm m _ * C m (((tb ++ [v]).getD m 0) - (lo ws m : Int)).toNat = _
    rw [show (tb ++ [v]).getD m 0 = v by rw [List.getD_eq_getElem?_getD, List.getElem?_append_right (by omega), hl]; simp]
    congr 1
    exact pm_congr fun j hj => by rw [show (tb ++ [v]).getD j 0 = tb.getD j 0 by rw [List.getD_eq_getElem?_getD, List.getElem?_append_left (by omega), ← List.getD_eq_getElem?_getD]]
  have h1 : sumL ((ext t ws m tb).map fun v => tb ++ [v]) (fun tb => wt ws C tb (m + 1)) = sumL (ext t ws m tb) fun v => wt ws C tb m * C m (v - (lo ws m : Int)).toNat := by
    unfold sumL
    rw [List.map_map]
    exact congrArg List.sum (List.map_congr_left fun v _ => hwt v)
  rw [h1, sumL_mul, ext_near h0 (hb _ hpm).1 (hw m hm)]
  unfold wt
  refine (pm_at (p := par t m) hpm (fun j hj => ?_) ?_).symm
  · unfold stepC
    rw [if_neg hj]
  · unfold stepC
    rw [if_pos rfl]
theorem tabs_cnt {t : Tr} (ht : TreeOk t) {ws : CW} (hw : ∀ m, m ≤ t.length → lo ws m ≤ (ws.getD m (0, 0)).2) : cnt t ws = ((tabsL t ws (t.length + 1)).length : Int) := by
  have key : ∀ r, r ≤ t.length → sumL (tabsL t ws (t.length - r + 1)) (fun tb => wt ws (Cd t ws t.length r) tb (t.length - r + 1)) = ((tabsL t ws (t.length + 1)).length : Int) := by
    intro r
    induction r with
    | zero =>
      intro _
      rw [Nat.sub_zero, ← sumL_one]
      exact sumL_congr fun tb _ => pm_one fun j _ => rfl
    | succ r ih =>
      intro h
      rw [← ih (by omega)]
      obtain ⟨k, hk⟩ : ∃ k, t.length - r = k + 1 := ⟨t.length - r - 1, by omega⟩
      rw [show t.length - (r + 1) = k by omega, hk, tabs_step ht hw (Cd t ws t.length r) (m := k + 1) (by omega) (by omega)]
      show sumL _ (fun tb => wt ws (stepC t ws (t.length - r) (Cd t ws t.length r)) tb (k + 1)) = _
      rw [hk]
  rw [← key t.length (Nat.le_refl _), Nat.sub_self]
  show cnt t ws = sumL ((tabsL t ws 0).flatMap fun tb => (ext t ws 0 tb).map fun v => tb ++ [v]) _
  rw [sumL_flat]
  show _ = sumL [[]] _
  unfold sumL
  rw [List.map_singleton, List.sum_singleton, List.map_map]
  have h0 := hw 0 (Nat.zero_le _)
  have e : ext t ws 0 [] = rgI (lo ws 0 : Int) (((ws.getD 0 (0, 0)).2 : Int) + 1) := rfl
  rw [e]
  have h2 := sumL_rg (lo ws 0 : Int) (((ws.getD 0 (0, 0)).2 : Int) + 1) fun v => Cd t ws t.length t.length 0 (v - (lo ws 0 : Int)).toNat
  unfold sumL at h2
  refine Eq.trans ?_ (Eq.trans h2.symm (congrArg List.sum (List.map_congr_left fun v _ => ?_)))
  · unfold cnt wd
    unfold lo at h0 ⊢
    rw [show (((ws.getD 0 (0, 0)).2 : Int) + 1 - ((ws.getD 0 (0, 0)).1 : Int)).toNat = (ws.getD 0 (0, 0)).2 + 1 - (ws.getD 0 (0, 0)).1 by omega]
    exact sm_congr fun i hi => congrArg _ (by omega)
  · show _ = 1 * Cd t ws t.length t.length 0 _
    rw [Int.one_mul]
    rfl
theorem cnt_le {t : Tr} (ht : TreeOk t) {ws : CW} (hw : ∀ m, m ≤ t.length → lo ws m ≤ (ws.getD m (0, 0)).2) {k : Nat} (h : ∀ m, wd ws m ≤ k) : 0 ≤ cnt t ws ∧ cnt t ws ≤ ((k ^ (t.length + 1) : Nat) : Int) := by
  rw [tabs_cnt ht hw]
  have := tabs_len (t := t) h (t.length + 1)
  omega
def cD (w : Nat) (f : Nat → Int) : List D := (List.range w).map fun i => D.int (f i)
theorem cD_len (w : Nat) (f : Nat → Int) : (cD w f).length = w := by unfold cD; simp
theorem cD_at {w i : Nat} (f : Nat → Int) (h : i < w) : atI (cD w f) (i : Int) = some (.int (f i)) := atI_of rfl (by unfold cD; rw [List.getElem?_map, List.getElem?_range h]; rfl)
theorem cD_snoc (w : Nat) (f : Nat → Int) : cD w f ++ [D.int (f w)] = cD (w + 1) f := by unfold cD; rw [List.range_succ, List.map_append]; rfl
theorem cD_congr {w : Nat} {f g : Nat → Int} (h : ∀ i, i < w → f i = g i) : cD w f = cD w g := by
  unfold cD
  exact List.map_congr_left fun i hi => by rw [h i (List.mem_range.mp hi)]
theorem cD_set {w i : Nat} (f : Nat → Int) (v : Int) : (cD w f).set i (.int v) = cD w fun j => if j = i then v else f j := by
  unfold cD
  refine List.ext_getElem (by simp) fun j h1 h2 => ?_
  rw [List.getElem_set, List.getElem_map, List.getElem_map, List.getElem_range]
  by_cases e : i = j
  · subst e; simp
  · rw [if_neg e]
    show _ = D.int (if j = i then v else f j)
    rw [if_neg (Ne.symm e)]
theorem cD_rep (w : Nat) (v : Int) : List.replicate w (D.int v) = cD w fun _ => v := by
  induction w with
  | zero => rfl
  | succ w ih => rw [List.replicate_succ', ih, ← cD_snoc]
def spSums : DSp := fun args M Q _ => ∃ (n w : Nat) (f : Nat → Int), args = [.ref n] ∧ M[n]? = some (.lst (cD w f)) ∧ w ≤ 301 ∧ Q (.ref M.length) (M ++ [.lst (cD (w + 1) fun k => sm k f)])
theorem c_sums_of (T : Tp K mg) : Cl P w K mg base "sums_of" (0 + 1) ["counts"] spSums := by
  obtain ⟨f, fd, F, hm⟩ := T.d_sums_of.ex
  have S := sc_sums_of
  have B := T.bn
  refine ⟨⟨f, fd, fnD F S (fun args M Q E h => by (repeat (obtain ⟨_, h⟩ := h)); subst_vars; rfl) (fun cdv A outer s H E hgd hr => ⟨_, (ds_cons (dss 1 S.nd (d_lstM (d_cons d_int d_nil)))
  (ds_cons (ds_forI (passes_of rfl) rfl (di_seq (dv 0)) (dgn 2 S.nd) (ds_one (ds_expr (d_append (dv 1) (d_cons (d_op o_add (d_ix (dv 1) (d_un o_neg d_int) (fun _ _ => rfl)) (dv 2)) d_nil)))))
  (ds_one (ds_ret (dv 1))))), fun args M Q E' hM hA h => ?_⟩), hm, F.kp, (F.binds (ps := ["counts"]) fun _ _ _ _ _ _ us hl => match us, hl with | [_], _ => rfl)⟩, ?_⟩
  rotate_left
  · exact fun args M Q Q' E E' w _ ⟨x0, x1, x2, x3, x4, x5, k⟩ => ⟨x0, x1, x2, x3, x4, x5, w _ _ k⟩
  · obtain ⟨n, w, f, rfl, hn, hw, k⟩ := h
    walk_at "go1"
    rw [List.getElem?_append_left (List.getElem?_eq_some_iff.mp hn).1, hn]
    dsimp only
    refine ⟨fun done todo ρ M' => done ++ todo = cD w f ∧ ∃ x2, ρ = ⟨[some (.ref n), some (.ref M.length), x2], noX⟩ ∧ M' = M ++ [.lst (cD (done.length + 1) fun k => sm k f)], ⟨rfl, _, rfl, rfl⟩, ?_, ?_, ?_⟩
    · rintro done todo ρ M' ⟨e, x2, rfl, rfl⟩
      rw [List.getElem?_append_left (List.getElem?_eq_some_iff.mp hn).1, hn]
    · rintro done d todo ρ M' ⟨e, x2, rfl, rfl⟩
      have hlt : done.length < w := by
        have := congrArg List.length e
        rw [List.length_append, List.length_cons, cD_len] at this
        omega
      obtain rfl : d = .int (f done.length) := by
        have h1 : (cD w f)[done.length]? = some d := by rw [← e]; simp
        unfold cD at h1
        rw [List.getElem?_map, List.getElem?_range hlt] at h1
        exact (Option.some.inj h1).symm
      have hnn := (List.getElem?_eq_some_iff.mp hn).1
      walk_at "go1"
      rw [show atI (cD (done.length + 1) fun k => sm k f) (-1) = some (D.int (sm done.length f)) by rw [← cD_snoc]; exact atI_back _ _]
      walk_at "go1"
      rw [cD_len]
      refine ⟨by omega, ?_⟩
      walk_at "go1"
      refine ⟨by rw [← e]; simp, _, rfl, ?_⟩
      rw [show D.int (sm done.length f + f done.length) = D.int (sm (done.length + 1) f) from rfl, cD_snoc]
    · rintro done ρ M' ⟨e, x2, rfl, rfl⟩
      rw [List.append_nil] at e
      have hl := congrArg List.length e
      rw [cD_len] at hl
      walk_at "go1"
      rw [hl]
      exact See.keep k
def spBet : DSp := fun args M Q _ => ∃ (n w : Nat) (f : Nat → Int) (a b : Int), args = [.ref n, .int a, .int b] ∧ M[n]? = some (.lst (cD (w + 1) fun k => sm k f)) ∧ w ≤ 301 ∧ Q (.int (seg a b w f)) M
theorem c_sum_between (T : Tp K mg) : Cl P w K mg base "sum_between" (0 + 1) ["sums", "low", "high"] spBet := by
  obtain ⟨f, fd, F, hm⟩ := T.d_sum_between.ex
  have S := sc_sum_between
  have B := T.bn
  refine ⟨⟨f, fd, fnD F S (fun args M Q E h => by (repeat (obtain ⟨_, h⟩ := h)); subst_vars; rfl) (fun cdv A outer s H E hgd hr => ⟨_, (ds_cons (dsp2 3 4 S.nd (d_cons (d_callB (o_max2 rfl) (by rfl) B.max b_max (d_cons d_int (d_cons (dv 1) d_nil))) (d_cons (d_callB (o_min2 rfl) (by rfl) B.min b_min (d_cons (d_op o_sub (d_callB o_len (by rfl) B.len b_len (d_cons (dv 0) d_nil)) d_int) (d_cons (dv 2) d_nil))) d_nil)))
  (ds_one (ds_ret (d_if (dt_cmp o_lt (dv 3) (dv 4)) (d_op o_sub (d_ix (dv 0) (dv 4) (fun _ _ => rfl)) (d_ix (dv 0) (dv 3) (fun _ _ => rfl))) d_int)))), fun args M Q E' hM hA h => ?_⟩), hm, F.kp, (F.binds (ps := ["sums", "low", "high"]) fun _ _ _ _ _ _ us hl => match us, hl with | [_, _, _], _ => rfl)⟩, ?_⟩
  rotate_left
  · exact fun args M Q Q' E E' w _ ⟨x0, x1, x2, x3, x4, x5, x6, x7, k⟩ => ⟨x0, x1, x2, x3, x4, x5, x6, x7, w _ _ k⟩
  · obtain ⟨n, w, f, a, b, rfl, hn, hw, k⟩ := h
    walk_at "go1"
    rw [hn]
    dsimp only
    rw [cD_len]
    walk_at "go1"
    have hsg := seg_eq a b w f
    refine ite_dec (fun h => ?_) (fun h => ?_)
    · walk_at "go1"
      rw [hn]
      dsimp only
      obtain ⟨j2, h2, h2w⟩ : ∃ j2 : Nat, (if b < ((w + 1 : Nat) : Int) - 1 then b else ((w + 1 : Nat) : Int) - 1) = j2 ∧ j2 = min w b.toNat := ⟨min w b.toNat, by split at h <;> split at h <;> split <;> omega, rfl⟩
      obtain ⟨j1, h1, h1w⟩ : ∃ j1 : Nat, (if a > 0 then a else 0) = j1 ∧ j1 = a.toNat := ⟨a.toNat, by split <;> omega, rfl⟩
      rw [h1, h2] at h ⊢
      rw [cD_at _ (by omega)]
      walk_at "go1"
      rw [hn]
      dsimp only
      rw [cD_at _ (by omega)]
      walk_at "go1"
      rw [← h2w, ← h1w, show min j2 j1 = j1 by omega] at hsg
      rw [← hsg]
      exact See.keep k
    · walk_at "go1"
      have hz : seg a b w f = 0 := by
        rw [hsg, show min (min w b.toNat) a.toNat = min w b.toNat by split at h <;> split at h <;> omega]
        omega
      rw [hz] at k
      exact See.keep k
@[reducible] def lastO (o : Option Nat) : Option Int := o.map fun n => (n : Int)
@[reducible] def owD (o : Nat × Option Nat) : D := .tup [natD o.1, optD (lastO o.2)]
@[reducible] def clO (w : Nat × Nat) : Nat × Option Nat := (w.1, some w.2)
theorem fVs_opt : ∀ (os : List (Option Int)), fVs (os.map optD) = some (os.map optV)
  | [] => rfl
  | o :: os => by
    rw [List.map_cons, List.map_cons]
    unfold fVs
    rw [fVs_opt os]
    cases o <;> rfl
theorem inV_opt : ∀ (os : List (Option Int)), inV .non (os.map optV) = os.any fun o => o.isNone
  | [] => rfl
  | o :: os => by
    rw [List.map_cons, List.any_cons, ← inV_opt os]
    unfold inV
    rw [List.any_cons]
    cases o <;> rfl
theorem first_none : ∀ (os : List (Nat × Option Nat)), (os.any fun o => (lastO o.2).isNone) = true → ∃ (j l : Nat), os[j]? = some (l, none) ∧ ∀ m, m < j → ∀ q : Nat × Option Nat, os[m]? = some q → q.2 ≠ none
  | [], h => by simp at h
  | (l, none) :: os, _ => ⟨0, l, rfl, fun m hm => absurd hm (by omega)⟩
  | (a, some b) :: os, h => by
    rw [List.any_cons] at h
    obtain ⟨j, l, h1, h2⟩ := first_none os (by simpa using h)
    refine ⟨j + 1, l, h1, fun m hm q hq => ?_⟩
    cases m with
    | zero => cases hq; exact fun h => by cases h
    | succ m => exact h2 m (by omega) q hq
theorem all_some : ∀ (os : List (Nat × Option Nat)), (os.any fun o => (lastO o.2).isNone) = false → ∃ ws : CW, os = ws.map clO
  | [], _ => ⟨[], rfl⟩
  | (l, none) :: os, h => by rw [List.any_cons] at h; exact absurd h (by simp)
  | (a, some b) :: os, h => by
    rw [List.any_cons] at h
    obtain ⟨ws, rfl⟩ := all_some os (by simpa using h)
    exact ⟨(a, b) :: ws, rfl⟩
theorem lo_at {ws : CW} {m : Nat} {w : Nat × Nat} (h : ws[m]? = some w) : lo ws m = w.1 ∧ wd ws m = w.2 + 1 - w.1 := by
  unfold lo wd
  rw [List.getD_eq_getElem?_getD, h]
  exact ⟨rfl, rfl⟩
theorem wd_le {ws : CW} {k : Nat} (h : ∀ w ∈ ws, w.2 + 1 - w.1 ≤ k) (hk : 1 ≤ k) (m : Nat) : wd ws m ≤ k := by
  cases e : ws[m]? with
  | none =>
    unfold wd
    rw [List.getD_eq_getElem?_getD, e]
    exact hk
  | some w =>
    rw [(lo_at e).2]
    exact h w (List.mem_of_getElem? e)
theorem getFJ (M J : Sto) {n i : Nat} (f : Nat → Cell) (h : i < n) : (M ++ (cellsF n f ++ J))[M.length + i]? = some (f i) := by
  rw [← List.append_assoc, List.getElem?_append_left (by rw [List.length_append, cellsF_len]; omega)]
  exact getF M f h
theorem setFJ (M J : Sto) {n i : Nat} (f : Nat → Cell) (h : i < n) (c : Cell) : (M ++ (cellsF n f ++ J)).set (M.length + i) c = M ++ (cellsF n (fun j => if j = i then c else f j) ++ J) := by
  rw [← List.append_assoc, List.set_append_left _ _ (by rw [List.length_append, cellsF_len]; omega), setF M f h, List.append_assoc]
theorem getJF (M J : Sto) {n : Nat} (f : Nat → Cell) (c : Cell) : (M ++ (cellsF n f ++ (J ++ [c])))[M.length + (n + J.length)]? = some c := by
  rw [List.getElem?_append_right (by omega), Nat.add_sub_cancel_left, List.getElem?_append_right (by rw [cellsF_len]; omega), cellsF_len, Nat.add_sub_cancel_left, List.getElem?_append_right (Nat.le_refl _), Nat.sub_self]
  rfl
def cntCells (t : Tr) (ws : CW) (r : Nat) : Sto := cellsF (t.length + 1) fun m => Cell.lst (cD (wd ws m) (Cd t ws t.length r m))
def spCount (mg : Str → Option Value) : DSp := fun args M Q E => ∃ (t : Tr) (os : List (Nat × Option Nat)), args = [treeD t, .tup (os.map owD)] ∧ TreeOk t ∧ os.length = t.length + 1 ∧ (∀ a b, (a, some b) ∈ os → a ≤ b) ∧ (∀ j l, os[j]? = some (l, none) → (∀ m, m < j → ∀ q, os[m]? = some q → q.2 ≠ none) → E (.ref (cls mg "NoLast")) [("mark", natD j)] M) ∧ (∀ ws : CW, os = ws.map clO → (∃ w ∈ ws, 300 < w.2) → E (.ref (cls mg "TooLarge")) [("bound", .int 300)] M)
  ∧ (∀ ws : CW, os = ws.map clO → (∀ w ∈ ws, w.1 ≤ w.2 ∧ w.2 ≤ 300) → Q (.int (cnt t ws)) M)
theorem c_count_tables (T : Tp K mg) : Cl P w K mg base "count_tables" (2 + 1) ["tree", "windows"] (spCount mg) := by
  obtain ⟨f, fd, F, hm⟩ := T.d_count_tables.ex
  have S := sc_count_tables
  have B := T.bn
  have c_sum_between := @c_sum_between P w K mg base T
  have c_sums_of := @c_sums_of P w K mg base T
  obtain ⟨t_SMALL_TICK, m_SMALL_TICK⟩ := T.k_SMALL_TICK
  refine ⟨⟨f, fd, fnX F S (fun args M Q E h => by (repeat (obtain ⟨_, h⟩ := h)); subst_vars; rfl) (fun cdv A outer s H E hgd hr => ⟨_, (ds_cons (ds_setLcI (i := 2) (own := [("least", 11), ("last", 12)]) rfl S.nd rfl rfl (sw_true rfl rfl rfl (by decide +kernel)) (di_seq (dv 1)) (blkOk_by (N := ["tree", "windows", "lasts", "counts", "mark", "parent", "length", "sums", "offset", "index", "tick", "least", "last"]) (sc := defScope s_count_tables) (by decide +kernel)) (by decide) (fun _ _ _ _ _ => (dg_tup (n := 2) rfl (dgs_cons (dgn 11 S.nd) (dgs_cons (dgn 12 S.nd) dgs_nil)))) (fun _ _ _ _ _ => dts_nil) (fun _ _ _ _ _ => (dv 12)))
  (ds_cons (ds_if (dt_cmp (o_in hr.units) d_non (dv 2)) (ds_one (ds_raise T.f_NoLast (hr.mono (by first | decide | omega)) T.g_NoLast (d_cons (d_indexN (dv 2) (d_cons d_non d_nil)) d_nil))) ds_nil)
  (ds_cons (ds_if (dt_cmp o_gt (d_callB (o_maxA rfl) (by rfl) B.max b_max (d_cons (dv 2) d_nil)) (d_glob (by rfl) m_SMALL_TICK)) (ds_one (ds_raise T.f_TooLarge (hr.mono (by first | decide | omega)) T.g_TooLarge (d_cons (d_glob (by rfl) m_SMALL_TICK) d_nil))) ds_nil)
  (ds_cons (ds_setLcI (i := 3) (own := [("least", 11), ("last", 12)]) rfl S.nd rfl rfl (sw_true rfl rfl rfl (by decide +kernel)) (di_seq (dv 1)) (blkOk_by (N := ["tree", "windows", "lasts", "counts", "mark", "parent", "length", "sums", "offset", "index", "tick", "least", "last"]) (sc := defScope s_count_tables) (by decide +kernel)) (by decide) (fun _ _ _ _ _ => (dg_tup (n := 2) rfl (dgs_cons (dgn 11 S.nd) (dgs_cons (dgn 12 S.nd) dgs_nil)))) (fun _ _ _ _ _ => dts_nil) (fun _ _ _ _ _ => (d_op o_mulM (d_lst (d_cons d_int d_nil)) (d_op o_add (d_op o_sub (dv 12) (dv 11)) d_int))))
  (ds_cons (ds_forI (passes_of rfl) rfl (di_range3 (by rfl) B.range (d_cons (d_callB o_len (by rfl) B.len b_len (d_cons (dv 0) d_nil)) (d_cons d_int (d_cons (d_un o_neg d_int) d_nil)))) (dgn 4 S.nd) (ds_cons (ds_asg (d_ix (dv 0) (d_op o_sub (dv 4) d_int) (fun _ _ => rfl)) (dg_tupL (n := 2) rfl (dgs_cons (dgn 5 S.nd) (dgs_cons (dgn 6 S.nd) dgs_nil))))
  (ds_cons (dsp2 7 8 S.nd (d_cons (d_cl c_sums_of hgd (hr.mono (by first | decide | omega)) (d_cons (d_ix (dv 3) (dv 4) (fun _ _ => rfl)) d_nil)) (d_cons (d_op o_sub (d_ix (d_ix (dv 1) (dv 5) (fun _ _ => rfl)) d_int (fun _ _ => rfl)) (d_ix (d_ix (dv 1) (dv 4) (fun _ _ => rfl)) d_int (fun _ _ => rfl))) d_nil)))
  (ds_one (ds_forI (passes_of rfl) rfl (di_range1 (by rfl) B.range (d_cons (d_callB o_len (by rfl) B.len b_len (d_cons (d_ix (dv 3) (dv 5) (fun _ _ => rfl)) d_nil)) d_nil)) (dgn 9 S.nd) (ds_cons (dss 10 S.nd (d_op o_add (dv 9) (dv 8)))
  (ds_one (ds_augI ipd_mul (d_ix (dv 3) (dv 5) (fun _ _ => rfl)) (dv 9) (d_cl c_sum_between hgd (hr.mono (by first | decide | omega)) (d_cons (dv 7) (d_cons (d_op o_sub (dv 10) (dv 6)) (d_cons (d_op o_add (d_op o_add (dv 10) (dv 6)) d_int) d_nil))))))))))))
  (ds_one (ds_ret (d_callB (o_sum rfl) (by rfl) B.sum b_sum (d_cons (d_ix (dv 3) d_int (fun _ _ => rfl)) d_nil))))))))), fun args M Q E' hM hA h => ?_⟩), hm, F.kp, (F.binds (ps := ["tree", "windows"]) fun _ _ _ _ _ _ us hl => match us, hl with | [_, _], _ => rfl)⟩, ?_⟩
  rotate_left
  · exact fun args M Q Q' E E' w w' ⟨t, os, e, h1, h2, h6, h3, h4, h5⟩ => ⟨t, os, e, h1, h2, h6, fun j l a b => w' _ _ _ (h3 j l a b), fun ws a b => w' _ _ _ (h4 ws a b), fun ws a b => w _ _ (h5 ws a b)⟩
  · obtain ⟨t, os, rfl, ht, hl, hos, k1, k2, k3⟩ := h
    have ht1 := ht.1
    walk_at "go1"
    refine lc_mapL owD (fun o => optD (lastO o.2)) trivial (by omega) (fun o ho kk hk => ?_) ?_
    · walk_at "go1"
      exact hk
    rw [show (os.map fun o => optD (lastO o.2)) = (os.map fun o => lastO o.2).map optD by rw [List.map_map]; rfl]
    walk_at "go1"
    rw [fVs_opt]
    dsimp only [fV]
    rw [inV_opt, List.any_map]
    cases hany : os.any fun o => (lastO o.2).isNone with
    | true =>
      rw [show (os.any ((fun o => Option.isNone o) ∘ fun o => lastO o.snd)) = true from hany]
      obtain ⟨j, l, h1, h2⟩ := first_none os hany
      walk_at "go1"
      refine ⟨os.map fun o => lastO o.2, j, rfl, by rw [List.getElem?_map, h1]; rfl, fun m hm z hz => ?_, ?_⟩
      · rw [List.getElem?_map] at hz
        obtain ⟨q, hq, rfl⟩ := Option.map_eq_some_iff.mp hz
        have := h2 m hm q hq
        obtain ⟨a, b⟩ := q
        cases b
        · exact absurd rfl this
        · exact fun h => by cases h
      · walk_at "go1"
        exact SeeX.keep (k1 j l h1 h2)
    | false =>
      rw [show (os.any ((fun o => Option.isNone o) ∘ fun o => lastO o.snd)) = false from hany]
      obtain ⟨ws, rfl⟩ := all_some os hany
      rw [List.length_map] at hl
      have k2 := k2 ws rfl
      have k3 := k3 ws rfl
      have hlo : ∀ w ∈ ws, w.1 ≤ w.2 := fun w hw => hos _ _ (List.mem_map.mpr ⟨w, hw, rfl⟩)
      clear k1 hany hos
      rw [show ((ws.map clO).map fun o => lastO o.2).map optD = (ws.map fun w => (w.2 : Int)).map D.int by rw [List.map_map, List.map_map, List.map_map]; rfl, show (ws.map clO).map owD = ws.map rowD by rw [List.map_map]; rfl]
      walk_at "go1"
      rw [intsOf_ints]
      dsimp only
      have hne : (ws.map fun w => (w.2 : Int)) ≠ [] := fun e => by
        have := congrArg List.length e
        rw [List.length_map] at this
        simp at this
        rw [this] at hl
        simp at hl
      refine ⟨hne, ?_⟩
      walk_at "go1"
      refine ite_dec (fun h => ?_) (fun h => ?_)
      · obtain ⟨w, hw, e⟩ := List.mem_map.mp (maxI_mem hne)
        walk_at "go1"
        exact SeeX.keep (k2 ⟨w, hw, by omega⟩)
      · have hbd : ∀ w ∈ ws, w.1 ≤ w.2 ∧ w.2 ≤ 300 := fun w hw => ⟨hlo w hw, by
          have := le_maxI (List.mem_map.mpr ⟨w, hw, rfl⟩ : (w.2 : Int) ∈ ws.map fun w => (w.2 : Int))
          omega⟩
        have k3 := k3 hbd
        clear k2
        have hwd : ∀ m, wd ws m ≤ 301 := wd_le (fun w hw => by have := hbd w hw; omega) (by decide)
        walk_at "go1"
        refine ⟨fun done todo acc M' => done ++ todo = ws.map rowD ∧ acc = refsD M.length done.length ∧ M' = M ++ cellsF done.length fun m => Cell.lst (cD (wd ws m) fun _ => 1), ⟨rfl, rfl, by show M = M ++ []; rw [List.append_nil]⟩, fun _ _ _ _ _ => trivial, ?_, ?_⟩
        · rintro done d todo acc M' ⟨e, rfl, rfl⟩
          obtain ⟨w, hw, rfl⟩ : ∃ w, ws[done.length]? = some w ∧ d = rowD w := by
            have h1 : (ws.map rowD)[done.length]? = some d := by rw [← e]; simp
            rw [List.getElem?_map] at h1
            obtain ⟨w, h2, h3⟩ := Option.map_eq_some_iff.mp h1
            exact ⟨w, h2, h3.symm⟩
          have hb := hbd w (List.mem_of_getElem? hw)
          have hwid := (lo_at hw).2
          have hdl : done.length < ws.length := (List.getElem?_eq_some_iff.mp hw).1
          walk_at "go1"
          rw [refs_len, cellsF_len, rep_flat, refs_snoc, cellsF_snoc, show ((w.2 : Int) - (w.1 : Int) + 1).toNat = wd ws done.length by omega, cD_rep]
          exact ⟨by omega, by rw [← e]; simp, rfl, by rw [List.append_assoc]⟩
        rintro done acc M' ⟨e, rfl, rfl⟩
        have hd := congrArg List.length e
        rw [List.append_nil, List.length_map, hl] at hd
        rw [hd]
        walk_at "go1"
        refine ⟨fun done todo ρ M' => done ++ todo = rngD (t.length : Int) t.length ∧ ∃ (J : Sto) (x4 x5 x6 x7 x8 x9 x10 x11 x12 : Option D), ρ = ⟨[some (treeD t), some (.tup (ws.map rowD)), some (.lst ((ws.map fun w => (w.2 : Int)).map D.int)), some (.lst (refsD M.length (t.length + 1))), x4, x5, x6, x7, x8, x9, x10, x11, x12], fun c fs x M' => SeeX M.length E' c fs M'⟩ ∧ M' = M ++ (cntCells t ws done.length ++ J), ⟨?_, ?_⟩, fun _ _ _ _ _ => trivial, ?_, ?_⟩
        · rw [show ((t.length : Int) - 0).toNat = t.length by omega]
          rfl
        · exact ⟨[], _, _, _, _, _, _, _, _, _, rfl, by rw [List.append_nil]; rfl⟩
        · rintro done d todo ρ M' ⟨e, J, x4, x5, x6, x7, x8, x9, x10, x11, x12, rfl, rfl⟩
          clear k3 hA hne h
          obtain ⟨rfl, hlt⟩ := rngD_at e
          obtain ⟨k, hk, hkr⟩ : ∃ k : Nat, (t.length : Int) - (done.length : Int) = k ∧ k = t.length - done.length := ⟨t.length - done.length, by omega, rfl⟩
          obtain ⟨pr, htk, hpar, hln, hplt⟩ := tree_get ht (m := k) (by omega) (by omega)
          obtain ⟨wk, hwk⟩ : ∃ wk, ws[k]? = some wk := ⟨_, List.getElem?_eq_getElem (by omega)⟩
          obtain ⟨wp, hwp⟩ : ∃ wp, ws[pr.1]? = some wp := ⟨_, List.getElem?_eq_getElem (by omega)⟩
          rw [hk]
          walk_at "go1"
          rw [tree_at (k := k - 1) (by omega) htk]
          walk_at "go1"
          rw [atI_refs (by omega)]
          refine ⟨_, wd ws k, Cd t ws t.length done.length k, rfl, getFJ M J _ (by omega), hwd k, ?_⟩
          walk_at "go1"
          rw [map_at (k := pr.1) rfl hwp]
          walk_at "go1"
          rw [map_at (k := k) rfl hwk]
          walk_at "go1"
          rw [show List.length (cntCells t ws done.length) = t.length + 1 from cellsF_len _ _, atI_refs (by omega), show M ++ (cntCells t ws done.length ++ J) ++ [Cell.lst (cD (wd ws k + 1) fun i => sm i (Cd t ws t.length done.length k))] = M ++ (cntCells t ws done.length ++ (J ++ [Cell.lst (cD (wd ws k + 1) fun i => sm i (Cd t ws t.length done.length k))])) by simp only [List.append_assoc]]
          walk_at "go1"
          unfold cntCells
          rw [getFJ M _ _ (by omega)]
          walk_at "go1"
          rw [cD_len]
          have hwp1 := hwd pr.1
          refine ⟨by omega, ?_⟩
          rw [show ((wd ws pr.1 : Nat) : Int).toNat = wd ws pr.1 by omega]
          refine ⟨fun done2 todo2 ρ M' => done2 ++ todo2 = rng 0 (wd ws pr.1) ∧ ∃ (x9 x10 : Option D), ρ = ⟨[some (treeD t), some (.tup (ws.map rowD)), some (.lst ((ws.map fun w => (w.2 : Int)).map D.int)), some (.lst (refsD M.length (t.length + 1))), some (natD k), some (natD pr.1), some (natD pr.2), some (.ref (M.length + (t.length + 1 + J.length))), some (.int ((wp.1 : Int) - wk.1)), x9, x10, x11, x12], fun c fs x M' => SeeX M.length E' c fs M'⟩
            ∧ M' = M ++ (cellsF (t.length + 1) (fun m => if m = pr.1 then Cell.lst (cD (wd ws pr.1) fun i => if i < done2.length then Cd t ws t.length done.length pr.1 i * near1 t ws (Cd t ws t.length done.length k) k i else Cd t ws t.length done.length pr.1 i) else Cell.lst (cD (wd ws m) (Cd t ws t.length done.length m))) ++ (J ++ [Cell.lst (cD (wd ws k + 1) fun i => sm i (Cd t ws t.length done.length k))])), ⟨rfl, _, _, rfl, ?_⟩, fun _ _ _ _ _ => trivial, ?_, ?_⟩
          · congr 2
            refine cellsF_congr fun m hm => ?_
            split
            · next e => subst e; exact congrArg Cell.lst (cD_congr fun i _ => (if_neg (Nat.not_lt_zero i)).symm)
            · rfl
          · rintro done2 d todo2 ρ M' ⟨e2, x9, x10, rfl, rfl⟩
            obtain ⟨rfl, hlt2⟩ := rng_at e2
            generalize hC : Cd t ws t.length done.length = C at *
            walk_at "go1"
            rw [atI_refs (by omega)]
            walk_at "go1"
            rw [getFJ M _ _ (by omega), if_pos rfl]
            dsimp only
            rw [cD_at _ hlt2]
            walk_at "go1"
            refine ⟨_, wd ws k, C k, _, _, rfl, getJF M J _ _, hwd k, ?_⟩
            walk_at "go1"
            have hseg : seg ((done2.length : Int) + ((wp.1 : Int) - (wk.1 : Int)) - (pr.2 : Int)) ((done2.length : Int) + ((wp.1 : Int) - (wk.1 : Int)) + (pr.2 : Int) + 1) (wd ws k) (C k) = near1 t ws (C k) k done2.length := by
              unfold near1
              rw [hpar, hln, (lo_at hwp).1, (lo_at hwk).1]
            have hcb : ∀ m i, 0 ≤ C m i ∧ C m i < 2 ^ eb done.length := by rw [← hC]; exact Cd_bnd hwd t.length done.length
            have hsb := seg_bnd (a := (done2.length : Int) + ((wp.1 : Int) - (wk.1 : Int)) - (pr.2 : Int)) (b := (done2.length : Int) + ((wp.1 : Int) - (wk.1 : Int)) + (pr.2 : Int) + 1) (hwd k) fun i _ => hcb k i
            have hel := eb_le (r := done.length) (by omega)
            have he0 : 0 < eb done.length := Nat.lt_of_lt_of_le (show 0 < eb 0 by decide) (by have := eb_mono 0 done.length; rwa [Nat.zero_add] at this)
            rw [if_neg (Nat.lt_irrefl _)]
            refine ⟨wide_mul (abs_lt (hcb pr.1 done2.length)) (abs_lt hsb) he0 (by omega) (by omega), ?_⟩
            rw [hseg, getFJ M _ _ (by omega), if_pos rfl]
            dsimp only
            refine ⟨rfl, ?_⟩
            rw [show ((done2.length : Int)).toNat = done2.length by omega, cD_set, setFJ M _ _ (by omega)]
            refine ⟨by rw [← e2]; simp, _, _, rfl, ?_⟩
            congr 2
            refine cellsF_congr fun m hm => ?_
            by_cases e3 : m = pr.1
            · rw [if_pos e3, if_pos e3]
              refine congrArg Cell.lst (cD_congr fun i hi => ?_)
              by_cases e4 : i = done2.length
              · rw [if_pos e4, if_pos (by omega), e4]
              · rw [if_neg e4]
                by_cases e5 : i < done2.length
                · rw [if_pos e5, if_pos (by omega)]
                · rw [if_neg e5, if_neg (by omega)]
            · rw [if_neg e3, if_neg e3, if_neg e3]
          · rintro done2 ρ M' ⟨e2, x9, x10, rfl, rfl⟩
            have hd2 := rng_end e2
            walk_at "go1"
            refine ⟨by rw [← e, hk, List.append_assoc]; rfl, J ++ [Cell.lst (cD (wd ws k + 1) fun i => sm i (Cd t ws t.length done.length k))], _, _, _, _, _, _, _, _, _, rfl, ?_⟩
            congr 2
            refine cellsF_congr fun m hm => ?_
            show _ = Cell.lst (cD (wd ws m) (stepC t ws (t.length - done.length) (Cd t ws t.length done.length) m))
            rw [← hkr]
            split
            · next e3 =>
              subst e3
              refine congrArg Cell.lst (cD_congr fun i hi => ?_)
              unfold stepC
              rw [if_pos (by omega), if_pos hpar.symm]
            · next e3 =>
              refine congrArg Cell.lst (cD_congr fun i hi => ?_)
              unfold stepC
              rw [if_neg (by rw [hpar]; exact e3)]
        · rintro done ρ M' ⟨e, J, x4, x5, x6, x7, x8, x9, x10, x11, x12, rfl, rfl⟩
          have hd := congrArg List.length e
          rw [List.append_nil, rngD_length] at hd
          walk_at "go1"
          rw [show atI (refsD M.length (t.length + 1)) 0 = some (.ref (M.length + 0)) from atI_refs (i := 0) (Nat.succ_pos _)]
          walk_at "go1"
          unfold cntCells
          rw [getFJ M J (i := 0) _ (Nat.succ_pos _), show cD (wd ws 0) (Cd t ws t.length done.length 0) = ((List.range (wd ws 0)).map (Cd t ws t.length done.length 0)).map D.int by unfold cD; rw [List.map_map]; rfl]
          dsimp only
          rw [intsOf_ints]
          dsimp only
          unfold fSum
          rw [sm_list, hd]
          exact See.drop' _ rfl rfl hM k3
theorem cut_seg (w : Nat) (f : Nat → Int) {lo hi A B : Int} (hA : A = if lo > 0 then lo else 0) (hB : B = if hi > 0 then hi else 0) : (cut ((List.range w).map f) (some A) (some B)).sum = seg lo hi w f := by
  obtain ⟨a, rfl⟩ : ∃ a : Nat, A = a := ⟨A.toNat, by split at hA <;> omega⟩
  obtain ⟨b, rfl⟩ : ∃ b : Nat, B = b := ⟨B.toNat, by split at hB <;> omega⟩
  have ha : a = lo.toNat := by split at hA <;> omega
  have hb : b = hi.toNat := by split at hB <;> omega
  rw [seg_walk f rfl rfl, ← ha, ← hb]
  unfold cut
  rw [HT.sIx_nat, HT.sIx_nat, List.length_map, List.length_range, ← sm_list]
  congr 1
  refine List.ext_getElem (by simp; omega) fun j h1 h2 => ?_
  rw [List.length_map, List.length_range] at h2
  rw [List.getElem_take, List.getElem_drop, List.getElem_map, List.getElem_map, List.getElem_range, List.getElem_range]
  congr 1
  omega
def spBel (d : Nat) : DSp := fun args M Q _ => ∃ (t : Tr) (ws : CW) (m : Nat), args = [treeD t, .tup (ws.map rowD), natD m] ∧ TreeOk t ∧ ws.length = t.length + 1 ∧ (∀ w ∈ ws, w.1 ≤ w.2 ∧ w.2 ≤ 300) ∧ m ≤ t.length ∧ t.length - m ≤ d ∧ ∀ J : Sto, Q (.ref M.length) (M ++ Cell.lst (cD (wd ws m) (Cd t ws t.length (t.length - m) m)) :: J)
def spBelR : Nat → DSp
  | 0 => fun _ _ _ _ => False
  | k + 1 => spBel k
section
variable (kd : Nat)
theorem c__law_below_none (T : Tp K mg) : Cl P w K mg base "_law_below" 3 ["_law_tree_here", "_law_windows_here", "_law_mark"] (fun _ _ _ _ => False) := by
  obtain ⟨f, fd, F, hm⟩ := T.d__law_below.ex
  exact ⟨⟨f, fd, ⟨fun vs H Q E ⟨args, M, al, F, G, W, r, q⟩ => q.elim, fun A outer s H args us vs Q E hg hr e0 hb rv ⟨_, M, al, F, G, W, r, q⟩ => q.elim⟩, hm, F.kp, (F.binds (ps := ["_law_tree_here", "_law_windows_here", "_law_mark"]) fun _ _ _ _ _ _ us hl => match us, hl with | [_, _, _], _ => rfl)⟩, fun _ _ _ _ _ _ _ _ h => h⟩
theorem c__law_below_g (T : Tp K mg) (c__law_below : Cl P w K mg base "_law_below" (3+kd) ["_law_tree_here", "_law_windows_here", "_law_mark"] (spBelR kd)) : Cl P w K mg base "_law_below" ((3+kd) + 1) ["_law_tree_here", "_law_windows_here", "_law_mark"] (spBel kd) := by
  obtain ⟨f, fd, F, hm⟩ := T.d__law_below.ex
  have S := sc__law_below
  have B := T.bn
  refine ⟨⟨f, fd, fnD F S (fun args M Q E h => by (repeat (obtain ⟨_, h⟩ := h)); subst_vars; rfl) (fun cdv A outer s H E hgd hr => ⟨_, (ds_cons (ds_asg (d_ix (dv 1) (dv 2) (fun _ _ => rfl)) (dg_tupL (n := 2) rfl (dgs_cons (dgn 3 S.nd) (dgs_cons (dgn 4 S.nd) dgs_nil))))
  (ds_cons (dss 5 S.nd (d_op o_mulM (d_lst (d_cons d_int d_nil)) (d_op o_add (d_op o_sub (dv 4) (dv 3)) d_int)))
  (ds_cons (ds_forI (passes_of rfl) rfl (di_range1 (by rfl) B.range (d_cons (d_callB o_len (by rfl) B.len b_len (d_cons (dv 0) d_nil)) d_nil)) (dgn 6 S.nd) (ds_one (ds_if (dt_cmp (o_eq hr.units) (d_ix (d_ix (dv 0) (dv 6) (fun _ _ => rfl)) d_int (fun _ _ => rfl)) (dv 2)) (ds_cons (dss 7 S.nd (d_cl c__law_below hgd (hr.mono (by first | decide | omega)) (d_cons (dv 0) (d_cons (dv 1) (d_cons (d_op o_add (dv 6) d_int) d_nil)))))
  (ds_cons (dss 8 S.nd (d_ix (d_ix (dv 1) (d_op o_add (dv 6) d_int) (fun _ _ => rfl)) d_int (fun _ _ => rfl)))
  (ds_one (ds_forI (passes_of rfl) rfl (di_range1 (by rfl) B.range (d_cons (d_callB o_len (by rfl) B.len b_len (d_cons (dv 5) d_nil)) d_nil)) (dgn 9 S.nd) (ds_cons (dsp2 10 11 S.nd (d_cons (d_op o_sub (d_op o_add (dv 3) (dv 9)) (dv 8)) (d_cons (d_ix (d_ix (dv 0) (dv 6) (fun _ _ => rfl)) d_int (fun _ _ => rfl)) d_nil)))
  (ds_cons (dss 12 S.nd (d_slice (dv 7) (do_some (d_callB (o_max2 rfl) (by rfl) B.max b_max (d_cons d_int (d_cons (d_op o_sub (dv 10) (dv 11)) d_nil)))) (do_some (d_callB (o_max2 rfl) (by rfl) B.max b_max (d_cons d_int (d_cons (d_op o_add (d_op o_add (dv 10) (dv 11)) d_int) d_nil))))))
  (ds_one (ds_asg (d_op o_mulW (d_ix (dv 5) (dv 9) (fun _ _ => rfl)) (d_callB (o_sum rfl) (by rfl) B.sum b_sum (d_cons (dv 12) d_nil))) (dg_sub (dv 5) (dv 9)))))))))) ds_nil)))
  (ds_one (ds_ret (dv 5)))))), fun args M Q E' hM hA h => ?_⟩), hm, F.kp, (F.binds (ps := ["_law_tree_here", "_law_windows_here", "_law_mark"]) fun _ _ _ _ _ _ us hl => match us, hl with | [_, _, _], _ => rfl)⟩, ?_⟩
  rotate_left
  · exact fun args M Q Q' E E' w _ ⟨t, ws, m, e, h1, h2, h3, h4, h5, k⟩ => ⟨t, ws, m, e, h1, h2, h3, h4, h5, fun J => w _ _ (k J)⟩
  · obtain ⟨t, ws, m, rfl, ht, hl, hbd, hm, hkd, k⟩ := h
    have ht1 := ht.1
    have hwd : ∀ m, wd ws m ≤ 301 := wd_le (fun w hw => by have := hbd w hw; omega) (by decide)
    obtain ⟨wm, hwm⟩ : ∃ wm, ws[m]? = some wm := ⟨_, List.getElem?_eq_getElem (by omega)⟩
    have hbm := hbd wm (List.mem_of_getElem? hwm)
    have hlm := lo_at hwm
    walk_at "go1"
    rw [map_at (k := m) rfl hwm]
    walk_at "go1"
    rw [rep_flat, show ((wm.2 : Int) - (wm.1 : Int) + 1).toNat = wd ws m by omega, cD_rep]
    walk_at "go1"
    refine ⟨fun done todo ρ M' => done ++ todo = rng 0 t.length ∧ ∃ (J : Sto) (x6 x7 x8 x9 x10 x11 x12 : Option D), ρ = ⟨[some (treeD t), some (.tup (ws.map rowD)), some (natD m), some (natD wm.1), some (natD wm.2), some (.ref M.length), x6, x7, x8, x9, x10, x11, x12], noX⟩ ∧ M' = M ++ Cell.lst (cD (wd ws m) fun i => pm done.length (chF t ws t.length m i)) :: J, ⟨?_, [], _, _, _, _, _, _, _, rfl, rfl⟩, fun _ _ _ _ _ => trivial, ?_, ?_⟩
    · rw [show ((t.length : Int)).toNat = t.length by omega]
      rfl
    · rintro done d todo ρ M' ⟨e, J, x6, x7, x8, x9, x10, x11, x12, rfl, rfl⟩
      obtain ⟨rfl, hlt⟩ := rng_at e
      obtain ⟨pr, hpr⟩ : ∃ p, t[done.length]? = some p := ⟨_, List.getElem?_eq_getElem hlt⟩
      have htr := ht.2 _ _ hpr
      walk_at "go1"
      rw [tree_at (k := done.length) rfl hpr]
      walk_at "go1"
      have hpar : par t (done.length + 1) = pr.1 := by
        obtain ⟨p, h1, h2, _, _⟩ := tree_get ht (m := done.length + 1) (by omega) (by omega)
        rw [Nat.add_sub_cancel, hpr] at h1
        cases h1
        exact h2
      have hln : ln t (done.length + 1) = pr.2 := by
        obtain ⟨p, h1, _, h2, _⟩ := tree_get ht (m := done.length + 1) (by omega) (by omega)
        rw [Nat.add_sub_cancel, hpr] at h1
        cases h1
        exact h2
      refine ite_dec (fun hpm => ?_) (fun hpm => ?_)
      · have hpm : pr.1 = m := by omega
        obtain ⟨j, rfl⟩ : ∃ j, kd = j + 1 := ⟨kd - 1, by omega⟩
        obtain ⟨wk, hwk⟩ : ∃ wk, ws[done.length + 1]? = some wk := ⟨_, List.getElem?_eq_getElem (by omega)⟩
        rw [show spBelR (j + 1) = spBel j from rfl]
        walk_at "go1"
        refine ⟨t, ws, done.length + 1, rfl, ht, hl, hbd, by omega, by omega, fun J2 => ?_⟩
        rw [show ∀ c c2 : Cell, M ++ c :: J ++ c2 :: J2 = M ++ c :: (J ++ c2 :: J2) from fun c c2 => by rw [List.append_assoc, List.cons_append]]
        have hlen : (M ++ Cell.lst (cD (wd ws m) fun i => pm done.length (chF t ws t.length m i)) :: J).length = M.length + (J.length + 1) := by rw [List.length_append, List.length_cons]
        walk_at "go1"
        rw [map_at (k := done.length + 1) (by omega) hwk]
        walk_at "go1"
        rw [get_mid]
        dsimp only
        rw [cD_len]
        walk_at "go1"
        have hwm1 := hwd m
        have hmid : ∀ c c2 : Cell, (M ++ c :: (J ++ c2 :: J2))[M.length + (J.length + 1)]? = some c2 := fun c c2 => by
          rw [show M ++ c :: (J ++ c2 :: J2) = (M ++ c :: J) ++ c2 :: J2 by simp, show M.length + (J.length + 1) = (M ++ c :: J).length by rw [List.length_append, List.length_cons]]
          exact get_mid _ _ _
        rw [show ((wd ws m : Nat) : Int).toNat = wd ws m by omega]
        generalize hC : Cd t ws t.length (t.length - (done.length + 1)) (done.length + 1) = C at *
        refine ⟨fun done2 todo2 ρ M' => done2 ++ todo2 = rng 0 (wd ws m) ∧ ∃ (x9 x10 x11 x12 : Option D), ρ = ⟨[some (treeD t), some (.tup (ws.map rowD)), some (natD m), some (natD wm.1), some (natD wm.2), some (.ref M.length), some (natD done.length), some (.ref (M.length + (J.length + 1))), some (natD wk.1), x9, x10, x11, x12], noX⟩ ∧ M' = M ++ Cell.lst (cD (wd ws m) fun i => if i < done2.length then pm done.length (chF t ws t.length m i) * chF t ws t.length m i done.length else pm done.length (chF t ws t.length m i)) :: (J ++ Cell.lst (cD (wd ws (done.length + 1)) C) :: J2), ⟨rfl, _, _, _, _, rfl, ?_⟩, fun _ _ _ _ _ => trivial, ?_, ?_⟩
        · rw [show (fun i => if i < ([] : List D).length then pm done.length (chF t ws t.length m i) * chF t ws t.length m i done.length else pm done.length (chF t ws t.length m i)) = fun i => pm done.length (chF t ws t.length m i) from funext fun i => if_neg (Nat.not_lt_zero i)]
        · rintro done2 d todo2 ρ M' ⟨e2, x9, x10, x11, x12, rfl, rfl⟩
          obtain ⟨rfl, hlt2⟩ := rng_at e2
          have hch : chF t ws t.length m done2.length done.length = near1 t ws C (done.length + 1) done2.length := by
            unfold chF
            rw [if_pos (by rw [hpar]; exact hpm), hC]
          have hcut : (cut ((List.range (wd ws (done.length + 1))).map C) (some (if (wm.1 : Int) + (done2.length : Int) - (wk.1 : Int) - (pr.2 : Int) > 0 then (wm.1 : Int) + (done2.length : Int) - (wk.1 : Int) - (pr.2 : Int) else 0)) (some (if (wm.1 : Int) + (done2.length : Int) - (wk.1 : Int) + (pr.2 : Int) + 1 > 0 then (wm.1 : Int) + (done2.length : Int) - (wk.1 : Int) + (pr.2 : Int) + 1 else 0))).sum = chF t ws t.length m done2.length done.length := by
            rw [cut_seg _ _ rfl rfl, hch]
            unfold near1
            rw [hpar, hln, hpm, hlm.1, (lo_at hwk).1]
            congr 1 <;> omega
          obtain ⟨E, hE, hb0⟩ : ∃ E : Nat, E = 36864 ∧ ∀ j, 0 ≤ chF t ws t.length m done2.length j ∧ chF t ws t.length m done2.length j < 2 ^ E := ⟨36864, rfl, fun j => chF_bnd hwd ht1 m done2.length j⟩
          have hb1 := pm_bnd (n := done.length) fun j _ => hb0 j
          have hb2 := hb0 done.length
          have hcm : CMulW (pm done.length (chF t ws t.length m done2.length)) (chF t ws t.length m done2.length done.length) := wide_mul (abs_lt hb1) (abs_lt hb2) (by omega) (by omega) (by rw [hE]; omega)
          clear hb0 hb1 hb2 hE hch
          generalize chF t ws t.length = F at *
          obtain ⟨M1, hM1⟩ : ∃ M1, M1 = M ++ Cell.lst (cD (wd ws m) fun i => if i < done2.length then pm done.length (F m i) * F m i done.length else pm done.length (F m i)) :: (J ++ Cell.lst (cD (wd ws (done.length + 1)) C) :: J2) := ⟨_, rfl⟩
          rw [← hM1]
          refine seq_mid (fun ρ M' => ρ = ⟨[some (treeD t), some (.tup (ws.map rowD)), some (natD m), some (natD wm.1), some (natD wm.2), some (.ref M.length), some (natD done.length), some (.ref (M.length + (J.length + 1))), some (natD wk.1), some (natD done2.length), some (.int ((wm.1 : Int) + (done2.length : Int) - (wk.1 : Int))), some (natD pr.2), x12], noX⟩ ∧ M1 = M') (fun nx hnx => ?_) ?_
          · walk_at "go1"
            rw [tree_at (k := done.length) rfl hpr]
            walk_at "go1"
            exact hnx _ _ ⟨rfl, rfl⟩
          rintro ρ M' ⟨rfl, rfl⟩
          refine seq_mid (fun ρ M' => ∃ zs : List Int, zs.sum = F m done2.length done.length ∧ ρ = ⟨[some (treeD t), some (.tup (ws.map rowD)), some (natD m), some (natD wm.1), some (natD wm.2), some (.ref M.length), some (natD done.length), some (.ref (M.length + (J.length + 1))), some (natD wk.1), some (natD done2.length), some (.int ((wm.1 : Int) + (done2.length : Int) - (wk.1 : Int))), some (natD pr.2), some (.lst (zs.map D.int))], noX⟩ ∧ M1 = M') (fun nx hnx => ?_) ?_
          · walk_at "go1"
            rw [show M1[M.length + (J.length + 1)]? = some (Cell.lst (cD (wd ws (done.length + 1)) C)) by rw [hM1]; exact hmid _ _]
            dsimp only
            rw [show cD (wd ws (done.length + 1)) C = ((List.range (wd ws (done.length + 1))).map C).map D.int by unfold cD; rw [List.map_map]; rfl, cut_map]
            walk_at "go1"
            exact hnx _ _ ⟨_, hcut, rfl, rfl⟩
          rintro ρ M' ⟨zs, hzs, rfl, rfl⟩
          have hg : M1[M.length]? = some (Cell.lst (cD (wd ws m) fun i => if i < done2.length then pm done.length (F m i) * F m i done.length else pm done.length (F m i))) := by rw [hM1]; exact get_mid _ _ _
          walk_at "go1"
          rw [hg]
          dsimp only
          rw [cD_at _ hlt2, if_neg (Nat.lt_irrefl _)]
          walk_at "go1"
          rw [intsOf_ints]
          dsimp only
          unfold fSum
          rw [hzs]
          walk_at "go1"
          rw [hg]
          dsimp only
          rw [cD_len, ixN_of (by omega) (by omega), show ((done2.length : Int)).toNat = done2.length by omega]
          dsimp only
          rw [hM1, set_mid, cD_set]
          refine ⟨by rw [← e2]; simp, _, _, _, _, rfl, ?_⟩
          congr 3
          refine cD_congr fun i hi => ?_
          by_cases e4 : i = done2.length
          · rw [if_pos e4, if_pos (by omega), e4]
          · rw [if_neg e4]
            by_cases e5 : i < done2.length
            · rw [if_pos e5, if_pos (by omega)]
            · rw [if_neg e5, if_neg (by omega)]
        · rintro done2 ρ M' ⟨e2, x9, x10, x11, x12, rfl, rfl⟩
          have hd2 := rng_end e2
          walk_at "go1"
          refine ⟨by rw [← e]; simp, J ++ Cell.lst (cD (wd ws (done.length + 1)) C) :: J2, _, _, _, _, _, _, _, rfl, ?_⟩
          congr 3
          refine cD_congr fun i hi => ?_
          rw [if_pos (by omega)]
          rfl
      · walk_at "go1"
        refine ⟨by rw [← e]; simp, J, _, _, _, _, _, _, _, rfl, ?_⟩
        congr 3
        refine congrArg (cD _) (funext fun i => ?_)
        show _ = pm done.length _ * chF t ws t.length m i done.length
        have : chF t ws t.length m i done.length = 1 := if_neg (by rw [hpar]; omega)
        rw [this, Int.mul_one]
    · rintro done ρ M' ⟨e, J, x6, x7, x8, x9, x10, x11, x12, rfl, rfl⟩
      have hd := rng_end e
      walk_at "go1"
      rw [hd, show (fun i => pm t.length (chF t ws t.length m i)) = Cd t ws t.length (t.length - m) m from funext fun i => (pm_fin ht rfl hm i).symm]
      exact See.keep (k J)
end
theorem below_all (T : Tp K mg) : ∀ k : Nat, Cl P w K mg base "_law_below" (3 + k + 1) ["_law_tree_here", "_law_windows_here", "_law_mark"] (spBel k)
  | 0 => c__law_below_g 0 T (c__law_below_none T)
  | k + 1 => c__law_below_g (k + 1) T (below_all T k)
theorem c__law_below (T : Tp K mg) : Cl P w K mg base "_law_below" (3 + 11 + 1) ["_law_tree_here", "_law_windows_here", "_law_mark"] (spBel 11) := below_all T 11
def spWins : DSp := fun args M Q _ => ∃ (cs : CR) (n : Int) (R : Sto) (t : Tr) (ticks wide b : Nat) (H : Int), args = [.ref 1, treeD t, natD ticks, natD wide] ∧ M = dkd cs n ++ R ∧ Gd (b + 90) cs n ∧ TreeOk t ∧ 0 < ticks ∧ ticks ≤ 30 ∧ 0 < wide ∧ wide ≤ 30 ∧ (∀ i j, i ≤ t.length → j ≤ t.length → dist t i j + ticks + wide ≤ H) ∧ ∀ (ws : CW) (cs' : CR) (n' : Int), ws.length = t.length + 1 → (∀ w ∈ ws, w.1 ≤ w.2 ∧ w.2 + 1 - w.1 ≤ wide ∧ (w.2 : Int) ≤ H) → Gd b cs' n' → Q (.tup (ws.map rowD)) (dkd cs' n' ++ R)
def WinB (H : Int) (wide : Nat) (w : Nat × Nat) : Prop := w.1 ≤ w.2 ∧ w.2 + 1 - w.1 ≤ wide ∧ (w.2 : Int) ≤ H
def invWins (t : Tr) (ticks wide way : Nat) (H : Int) (xs : List Int) (b : Nat) (R : Sto) : List D → List D → Dn → Sto → Prop := fun done todo ρ M => done ++ todo = xs.map D.int ∧ ∃ (ws : CW) (cs : CR) (n : Int) (x7 x8 : Option D), ρ = ⟨[some (.ref 1), some (treeD t), some (natD ticks), some (natD wide), some (tabD xs), some (.ref (R.length + 2)), some (natD way), x7, x8], noX⟩ ∧ M = dkd cs n ++ (R ++ [.lst (ws.map rowD)]) ∧ ws.length = done.length ∧ (∀ w ∈ ws, WinB H wide w) ∧ Gd (b + 3 * todo.length) cs n
theorem c__law_windows (T : Tp K mg) : Cl P w K mg base "_law_windows" (3 + 1) ["_law_state", "_law_tree_here", "_law_ticks", "_law_wide"] spWins := by
  obtain ⟨f, fd, F, hm⟩ := T.d__law_windows.ex
  have S := sc__law_windows
  have B := T.bn
  have c__law_falls := @c__law_falls P w K mg base T
  have c__law_next := @c__law_next P w K mg base T
  have c__law_pushes := @c__law_pushes P w K mg base T
  refine ⟨⟨f, fd, fnD F S (fun args M Q E h => by (repeat (obtain ⟨_, h⟩ := h)); subst_vars; rfl) (fun cdv A outer s H E hgd hr => ⟨_, (ds_cons (dsp2 4 5 S.nd (d_cons (d_cl c__law_falls hgd (hr.mono (by first | decide | omega)) (d_cons (dv 1) (d_cons (d_cl c__law_pushes hgd (hr.mono (by first | decide | omega)) (d_cons (dv 0) (d_cons (dv 1) (d_cons d_int (d_cons (dv 2) d_nil))))) d_nil))) (d_cons (d_lstM d_nil) d_nil)))
  (ds_cons (dss 6 S.nd (d_cl c__law_next hgd (hr.mono (by first | decide | omega)) (d_cons (dv 0) (d_cons d_int d_nil))))
  (ds_cons (ds_forI (passes_of rfl) rfl (di_seq (dv 4)) (dgn 7 S.nd) (ds_cons (dss 8 S.nd (d_callB (o_max2 rfl) (by rfl) B.max b_max (d_cons d_int (d_cons (d_op o_sub (dv 7) (d_cl c__law_next hgd (hr.mono (by first | decide | omega)) (d_cons (dv 0) (d_cons (dv 3) d_nil)))) d_nil))))
  (ds_cons (ds_if (dt_cmp (o_eq hr.units) (dv 6) d_int) (ds_one (dsp2 8 7 S.nd (d_cons (d_cl c__law_next hgd (hr.mono (by first | decide | omega)) (d_cons (dv 0) (d_cons (dv 2) d_nil))) (d_cons d_int d_nil)))) ds_nil)
  (ds_one (ds_expr (d_append (dv 5) (d_cons (d_tup (d_cons (dv 8) (d_cons (d_callB (o_max2 rfl) (by rfl) B.max b_max (d_cons (d_op o_add (dv 8) (d_cl c__law_next hgd (hr.mono (by first | decide | omega)) (d_cons (dv 0) (d_cons (dv 3) d_nil)))) (d_cons (dv 7) d_nil))) d_nil))) d_nil)))))))
  (ds_one (ds_ret (d_callTy o_tuple (by rfl) B.tuple b_tuple (d_cons (dv 5) d_nil))))))), fun args M Q E' hM hA h => ?_⟩), hm, F.kp, (F.binds (ps := ["_law_state", "_law_tree_here", "_law_ticks", "_law_wide"]) fun _ _ _ _ _ _ us hl => match us, hl with | [_, _, _, _], _ => rfl)⟩, ?_⟩
  rotate_left
  · exact fun args M Q Q' E E' w _ ⟨x0, x1, x2, x3, x4, x5, x6, x7, x8, x9, x10, x11, x12, x13, x14, x15, x16, k⟩ => ⟨x0, x1, x2, x3, x4, x5, x6, x7, x8, x9, x10, x11, x12, x13, x14, x15, x16, fun y0 y1 y2 y3 y4 y5 => w _ _ (k y0 y1 y2 y3 y4 y5)⟩
  · obtain ⟨cs, n, R, t, ticks, wide, b, H, rfl, rfl, g, ht, t1, t2, w1, w2, hH, k⟩ := h
    have ht1 := ht.1
    walk_at "go1"
    refine ⟨cs, n, R, t, 3, b + 49, (ticks : Int), rfl, rfl, g.le (by omega), by omega, by omega, by omega, by omega, by omega, fun ps cs n hne hl hp g => ?_⟩
    walk_at "go1"
    refine ⟨t, ps, rfl, ht, hne, by omega, fun p hp1 => (hp p hp1).1, ?_⟩
    walk_at "go1"
    rw [List.append_assoc]
    obtain ⟨xs, hxs⟩ : ∃ xs, xs = fallsT t ps := ⟨_, rfl⟩
    have hxl : xs.length = t.length + 1 := by rw [hxs]; exact fallsT_len t ps
    have hxb : ∀ x ∈ xs, 0 ≤ x ∧ x + (wide : Int) ≤ H := fun x hx => by
      rw [hxs] at hx
      unfold fallsT at hx
      obtain ⟨m, hm, rfl⟩ := List.mem_map.mp hx
      have hm := List.mem_range.mp hm
      obtain ⟨p, hp1, e⟩ := fallT_mem (t := t) hne m
      obtain ⟨p1, p2, p3⟩ := hp p hp1
      have := hH p.1 m p1 (by omega)
      have := dist_nonneg t p.1 m
      omega
    rw [← hxs]
    refine drd (b := b + 48) (g.le (by omega)) (by decide) (by decide) fun way cs n hway g => ?_
    walk_at "go1"
    refine ⟨invWins t ticks wide way H xs b R, ⟨rfl, [], cs, n, none, none, ?_, rfl, rfl, by simp, g.le ?_⟩, fun _ _ _ _ _ => trivial, ?_, ?_⟩
    · rw [dkd_two]
    · rw [List.length_map]; omega
    · rintro done d todo ρ M ⟨e, ws, cs, n, x7, x8, rfl, rfl, hl, hws, g⟩
      obtain ⟨x, hx, rfl⟩ : ∃ x ∈ xs, d = .int x := by
        have : d ∈ xs.map D.int := by rw [← e]; simp
        obtain ⟨x, hx, rfl⟩ := List.mem_map.mp this
        exact ⟨x, hx, rfl⟩
      have hx1 := hxb x hx
      have hdl : done.length < xs.length := by
        have := congrArg List.length e
        rw [List.length_append, List.length_cons, List.length_map] at this
        omega
      have h00 := hH 0 0 (Nat.zero_le _) (Nat.zero_le _)
      rw [dist_self] at h00
      rw [List.length_cons, Nat.mul_add] at g
      have fin : ∀ (a c : Nat) (cs : CR) (n : Int), WinB H wide (a, c) → Gd (b + 3 * todo.length) cs n → ∀ x7 x8, invWins t ticks wide way H xs b R (done ++ [D.int x]) todo ⟨[some (.ref 1), some (treeD t), some (natD ticks), some (natD wide), some (tabD xs), some (.ref (R.length + 2)), some (natD way), x7, x8], noX⟩ (dkd cs n ++ (R ++ [.lst (ws.map rowD ++ [rowD (a, c)])])) := fun a c cs n hac g x7 x8 => ⟨by rw [← e]; simp, ws ++ [(a, c)], cs, n, x7, x8, rfl, by rw [List.map_append]; rfl, by simp [hl], fun w hw => by
        rcases List.mem_append.mp hw with z | z
        · exact hws w z
        · rw [List.mem_singleton.mp z]; exact hac, g⟩
      walk_at "go1"
      refine drd (b := b + 3 * todo.length + 2) g (by omega) (by omega) fun r1 cs n h1 g => ?_
      walk_at "go1"
      refine ite_dec (fun hw0 => ?_) (fun hw0 => ?_)
      · walk_at "go1"
        refine drd (b := b + 3 * todo.length + 1) g (by omega) (by omega) fun r2 cs n h2 g => ?_
        walk_at "go1"
        refine drd (b := b + 3 * todo.length) g (by omega) (by omega) fun r3 cs n h3 g => ?_
        walk_at "go1"
        rw [get_dkd]
        walk_at "go1"
        rw [set_dkd]
        obtain ⟨c, hc⟩ : ∃ c : Nat, c = r2 + r3 := ⟨_, rfl⟩
        rw [show (if (0 : Int) > (r2 : Int) + (r3 : Int) then (0 : Int) else (r2 : Int) + (r3 : Int)) = (c : Int) by rw [if_neg (by omega)]; omega]
        exact fin r2 c cs n ⟨by show r2 ≤ c; omega, by show c + 1 - r2 ≤ wide; omega, by show (c : Int) ≤ H; omega⟩ g _ _
      · obtain ⟨a, ha⟩ : ∃ a : Nat, (if x - (r1 : Int) > 0 then x - (r1 : Int) else 0) = a := ⟨(x - (r1 : Int)).toNat, by split <;> omega⟩
        rw [ha]
        walk_at "go1"
        refine drd (b := b + 3 * todo.length) (g.le (by omega)) (by omega) (by omega) fun r3 cs n h3 g => ?_
        walk_at "go1"
        rw [get_dkd]
        walk_at "go1"
        rw [set_dkd]
        obtain ⟨c, hc⟩ : ∃ c : Nat, (if x > (a : Int) + (r3 : Int) then x else (a : Int) + (r3 : Int)) = c := ⟨(if x > (a : Int) + (r3 : Int) then x else (a : Int) + (r3 : Int)).toNat, by split <;> omega⟩
        rw [hc]
        exact fin a c cs n ⟨by show a ≤ c; split at hc <;> split at ha <;> omega, by show c + 1 - a ≤ wide; split at hc <;> split at ha <;> omega, by show (c : Int) ≤ H; split at hc <;> split at ha <;> omega⟩ g _ _
    · rintro done ρ M ⟨e, ws, cs, n, x7, x8, rfl, rfl, hl, hws, g⟩
      have hd : done.length = xs.length := by
        have := congrArg List.length e
        rw [List.append_nil, List.length_map] at this
        exact this
      walk_at "go1"
      rw [get_dkd]
      walk_at "go1"
      exact see_dkd hM (rows_bel _ _) (k ws cs n (by omega) hws g)
def tabsD (L : List (List Int)) : List D := L.map fun tb => tabD tb
theorem ex_bnd {t : Tr} (ht : TreeOk t) {ws : CW} (hl : ws.length = t.length + 1) (hws : ∀ w ∈ ws, w.1 ≤ w.2 ∧ w.2 ≤ 1000000) {m : Nat} (hm : m ≤ t.length) {tb : List Int} (h : tb ∈ tabsL t ws m) : 0 ≤ exL t ws m tb ∧ exL t ws m tb ≤ 1000000 ∧ -1000000 ≤ exH t ws m tb ∧ exH t ws m tb ≤ 1000000 := by
  have hg : ∀ j, j < ws.length → lo ws j ≤ (ws.getD j (0, 0)).2 ∧ (ws.getD j (0, 0)).2 ≤ 1000000 := fun j hj => by
    have e : ws[j]? = some ws[j] := List.getElem?_eq_getElem hj
    have := hws ws[j] (List.getElem_mem hj)
    unfold lo
    rw [List.getD_eq_getElem?_getD, e]
    exact this
  have h1 := hg m (by omega)
  by_cases h0 : m = 0
  · unfold exL exH
    rw [if_pos h0, if_pos h0]
    omega
  · obtain ⟨pr, htk, hpar, hln, hplt⟩ := tree_get ht (m := m) (by omega) hm
    obtain ⟨_, h2⟩ := tabs_mem h
    have h3 := h2 (par t m) (by omega)
    have h4 := hg (par t m) (by omega)
    unfold exL exH
    rw [if_neg h0, if_neg h0]
    refine ⟨?_, ?_, ?_, ?_⟩ <;> split <;> omega
def spTabs : DSp := fun args M Q _ => ∃ (t : Tr) (ws : CW), args = [treeD t, .tup (ws.map rowD)] ∧ TreeOk t ∧ ws.length = t.length + 1 ∧ (∀ w ∈ ws, w.1 ≤ w.2 ∧ w.2 ≤ 1000000) ∧ (∀ m, m ≤ t.length + 1 → (tabsL t ws m).length ≤ 5000) ∧ (∀ w ∈ ws, w.2 + 1 - w.1 ≤ 1000) ∧ ∀ (J : Sto) (k : Nat), (M ++ J)[k]? = some (.lst (tabsD (tabsL t ws (t.length + 1)))) → Q (.ref k) (M ++ J)
theorem c__law_tables (T : Tp K mg) : Cl P w K mg base "_law_tables" (0 + 1) ["_law_tree_here", "_law_windows_here"] spTabs := by
  obtain ⟨f, fd, F, hm⟩ := T.d__law_tables.ex
  have S := sc__law_tables
  have B := T.bn
  refine ⟨⟨f, fd, fnD F S (fun args M Q E h => by (repeat (obtain ⟨_, h⟩ := h)); subst_vars; rfl) (fun cdv A outer s H E hgd hr => ⟨_, (ds_cons (dss 2 S.nd (d_lstM (d_cons (d_tup d_nil) d_nil)))
  (ds_cons (ds_forI (passes_of rfl) rfl (di_range1 (by rfl) B.range (d_cons (d_callB o_len (by rfl) B.len b_len (d_cons (dv 1) d_nil)) d_nil)) (dgn 3 S.nd) (ds_cons (ds_asg (d_ix (dv 1) (dv 3) (fun _ _ => rfl)) (dg_tupL (n := 2) rfl (dgs_cons (dgn 4 S.nd) (dgs_cons (dgn 5 S.nd) dgs_nil))))
  (ds_cons (dss 6 S.nd (d_lstM d_nil))
  (ds_cons (ds_forI (passes_of rfl) rfl (di_seq (dv 2)) (dgn 7 S.nd) (ds_cons (dsp2 8 9 S.nd (d_cons (dv 4) (d_cons (dv 5) d_nil)))
  (ds_cons (ds_if (dt_cmp o_gt (dv 3) d_int) (ds_cons (ds_asg (d_ix (dv 0) (d_op o_sub (dv 3) d_int) (fun _ _ => rfl)) (dg_tupL (n := 2) rfl (dgs_cons (dgn 10 S.nd) (dgs_cons (dgn 11 S.nd) dgs_nil))))
  (ds_cons (dss 12 S.nd (d_ix (dv 7) (dv 10) (fun _ _ => rfl)))
  (ds_one (dsp2 8 9 S.nd (d_cons (d_callB (o_max2 rfl) (by rfl) B.max b_max (d_cons (dv 4) (d_cons (d_op o_sub (dv 12) (dv 11)) d_nil))) (d_cons (d_callB (o_min2 rfl) (by rfl) B.min b_min (d_cons (dv 5) (d_cons (d_op o_add (dv 12) (dv 11)) d_nil))) d_nil)))))) ds_nil)
  (ds_one (ds_expr (d_extend (dv 6) (d_cons (d_lcI (own := [("_law_one", 13)]) rfl S.nd (di_range2 (by rfl) B.range (d_cons (dv 8) (d_cons (d_op o_add (dv 9) d_int) d_nil))) (blkOk_by (N := ["_law_tree_here", "_law_windows_here", "_law_found", "_law_mark", "_law_least", "_law_last", "_law_longer", "_law_table", "_law_low", "_law_high", "_law_parent", "_law_length", "_law_number", "_law_one"]) (sc := defScope s__law_tables) (by decide +kernel)) (by decide) (fun _ _ _ _ _ => (dgn 13 S.nd)) (fun _ _ _ _ _ => dts_nil) (fun _ _ _ _ _ => (d_op o_add (dv 7) (d_tup (d_cons (dv 13) d_nil))))) d_nil)))))))
  (ds_one (dss 2 S.nd (dv 6)))))))
  (ds_one (ds_ret (dv 2))))), fun args M Q E' hM hA h => ?_⟩), hm, F.kp, (F.binds (ps := ["_law_tree_here", "_law_windows_here"]) fun _ _ _ _ _ _ us hl => match us, hl with | [_, _], _ => rfl)⟩, ?_⟩
  rotate_left
  · exact fun args M Q Q' E E' w _ ⟨t, ws, e, h1, h2, h3, h4, h5, k⟩ => ⟨t, ws, e, h1, h2, h3, h4, h5, fun J k' h => w _ _ (k J k' h)⟩
  · obtain ⟨t, ws, rfl, ht, hl, hws, hmany, hwide, k⟩ := h
    have ht1 := ht.1
    walk_at "go1"
    refine ⟨fun done todo ρ M' => done ++ todo = rng 0 (t.length + 1) ∧ ∃ (J : Sto) (k : Nat) (x3 x4 x5 x6 x7 x8 x9 x10 x11 x12 x13 : Option D), ρ = ⟨[some (treeD t), some (.tup (ws.map rowD)), some (.ref k), x3, x4, x5, x6, x7, x8, x9, x10, x11, x12, x13], noX⟩ ∧ M' = M ++ J ∧ M'[k]? = some (.lst (tabsD (tabsL t ws done.length))), ⟨?_, ?_⟩, fun _ _ _ _ _ => trivial, ?_, ?_⟩
    · rw [show ((ws.length : Int)).toNat = t.length + 1 by omega]
      rfl
    · exact ⟨[.lst [.tup []]], M.length, _, _, _, _, _, _, _, _, _, _, _, rfl, rfl, get_new _ _⟩
    · rintro done d todo ρ M' ⟨e, J, kf, x3, x4, x5, x6, x7, x8, x9, x10, x11, x12, x13, rfl, rfl, hk⟩
      obtain ⟨rfl, hlt⟩ := rng_at e
      obtain ⟨wm, hwm⟩ : ∃ wm, ws[done.length]? = some wm := ⟨_, List.getElem?_eq_getElem (by omega)⟩
      have hlm := lo_at hwm
      have hkl := (List.getElem?_eq_some_iff.mp hk).1
      have hbm := hws wm (List.mem_of_getElem? hwm)
      have hww := hwide wm (List.mem_of_getElem? hwm)
      have hh : ((ws.getD done.length (0, 0)).2 : Int) = wm.2 := by rw [List.getD_eq_getElem?_getD, hwm]; rfl
      walk_at "go1"
      rw [map_at (k := done.length) rfl hwm]
      walk_at "go1"
      rw [List.getElem?_append_left hkl, hk]
      dsimp only
      have hB : (M ++ J).length = M.length + J.length := List.length_append
      obtain ⟨B, hBB⟩ : ∃ B, B = M ++ J := ⟨_, rfl⟩
      rw [← hBB] at hk hkl hB ⊢
      have hmn := hmany done.length (by omega)
      have hmn2 := hmany (done.length + 1) (by omega)
      obtain ⟨L, hL⟩ : ∃ L, L = tabsL t ws done.length := ⟨_, rfl⟩
      obtain ⟨Ex, hEx⟩ : ∃ Ex : List Int → List (List Int), Ex = fun tb => (ext t ws done.length tb).map fun v => tb ++ [v] := ⟨_, rfl⟩
      have hLE : tabsL t ws (done.length + 1) = L.flatMap Ex := by rw [hL, hEx]; rfl
      rw [← hL] at hk hmn ⊢
      rw [hLE] at hmn2 ⊢
      refine ⟨fun done2 todo2 ρ M' => done2 ++ todo2 = tabsD L ∧ ∃ (x7 x8 x9 x10 x11 x12 x13 : Option D), ρ = ⟨[some (treeD t), some (.tup (ws.map rowD)), some (.ref kf), some (natD done.length), some (natD wm.1), some (natD wm.2), some (.ref (M.length + J.length)), x7, x8, x9, x10, x11, x12, x13], noX⟩ ∧ B ++ [.lst (tabsD ((L.take done2.length).flatMap Ex))] = M', ⟨rfl, _, _, _, _, _, _, _, rfl, rfl⟩, ?_, ?_, ?_⟩
      · rintro done2 todo2 ρ M' ⟨e2, x7, x8, x9, x10, x11, x12, x13, rfl, rfl⟩
        rw [List.getElem?_append_left hkl, hk]
      · rintro done2 d todo2 ρ M' ⟨e2, x7, x8, x9, x10, x11, x12, x13, rfl, rfl⟩
        obtain ⟨tb, htb, rfl⟩ : ∃ tb, L[done2.length]? = some tb ∧ d = tabD tb := by
          have h1 : (tabsD L)[done2.length]? = some d := by rw [← e2]; simp
          unfold tabsD at h1
          rw [List.getElem?_map] at h1
          obtain ⟨w, h2, h3⟩ := Option.map_eq_some_iff.mp h1
          exact ⟨w, h2, h3.symm⟩
        obtain ⟨htl, htw⟩ := tabs_mem (hL ▸ List.mem_of_getElem? htb : tb ∈ tabsL t ws done.length)
        have hdl2 := (List.getElem?_eq_some_iff.mp htb).1
        have hsub : ((L.take done2.length).flatMap Ex).length ≤ 5000 := by
          refine Nat.le_trans ?_ hmn2
          conv => rhs; rw [← List.take_append_drop done2.length L, List.flatMap_append, List.length_append]
          omega
        refine seq_mid (fun ρ M' => ρ = ⟨[some (treeD t), some (.tup (ws.map rowD)), some (.ref kf), some (natD done.length), some (natD wm.1), some (natD wm.2), some (.ref (M.length + J.length)), some (tabD tb), some (natD wm.1), some (natD wm.2), x10, x11, x12, x13], noX⟩ ∧ B ++ [.lst (tabsD ((L.take done2.length).flatMap Ex))] = M') (fun nx hnx => ?_) ?_
        · walk_at "go1"
          exact hnx _ _ ⟨rfl, rfl⟩
        rintro ρ M' ⟨rfl, rfl⟩
        refine seq_mid (fun ρ M' => ∃ (x10 x11 x12 : Option D), ρ = ⟨[some (treeD t), some (.tup (ws.map rowD)), some (.ref kf), some (natD done.length), some (natD wm.1), some (natD wm.2), some (.ref (M.length + J.length)), some (tabD tb), some (.int (exL t ws done.length tb)), some (.int (exH t ws done.length tb)), x10, x11, x12, x13], noX⟩ ∧ B ++ [.lst (tabsD ((L.take done2.length).flatMap Ex))] = M') (fun nx hnx => ?_) ?_
        · walk_at "go1"
          refine ite_dec (fun h0 => ?_) (fun h0 => ?_)
          · obtain ⟨pr, htk, hpar, hln, hplt⟩ := tree_get ht (m := done.length) (by omega) (by omega)
            walk_at "go1"
            rw [tree_at (k := done.length - 1) (by omega) htk]
            walk_at "go1"
            rw [ints_at' (i := pr.1) rfl (by omega)]
            walk_at "go1"
            have q1 : (if tb.getD pr.1 0 - (pr.2 : Int) > (wm.1 : Int) then tb.getD pr.1 0 - (pr.2 : Int) else (wm.1 : Int)) = exL t ws done.length tb := by
              unfold exL
              rw [if_neg (show ¬ done.length = 0 by omega), hpar, hln, hlm.1]
            have q2 : (if tb.getD pr.1 0 + (pr.2 : Int) < (wm.2 : Int) then tb.getD pr.1 0 + (pr.2 : Int) else (wm.2 : Int)) = exH t ws done.length tb := by
              unfold exH
              rw [if_neg (show ¬ done.length = 0 by omega), hpar, hln, hh]
            rw [q1, q2]
            exact hnx _ _ ⟨_, _, _, rfl, rfl⟩
          · have h1 : done.length = 0 := by omega
            walk_at "go1"
            have q1 : (wm.1 : Int) = exL t ws done.length tb := by
              unfold exL
              rw [if_pos h1, hlm.1]
            have q2 : (wm.2 : Int) = exH t ws done.length tb := by
              unfold exH
              rw [if_pos h1, hh]
            refine hnx _ _ ⟨x10, x11, x12, ?_, rfl⟩
            rw [← q1, ← q2]
        rintro ρ M' ⟨x10, x11, x12, rfl, rfl⟩
        have eL := exL_ge t ws done.length tb
        have eH := exH_le t ws done.length tb
        rw [hlm.1] at eL
        rw [hh] at eH
        have hEt : Ex tb = (rgI (exL t ws done.length tb) (exH t ws done.length tb + 1)).map fun v => tb ++ [v] := by rw [hEx]; rfl
        have hEl : (Ex tb).length ≤ 1000 := by
          rw [hEt, List.length_map, rgI_len]
          omega
        have hrl : (rgI (exL t ws done.length tb) (exH t ws done.length tb + 1)).length ≤ 1000 := by rw [rgI_len]; omega
        have hfin : B ++ [Cell.lst (tabsD ((L.take done2.length).flatMap Ex) ++ tabsD (Ex tb))] = B ++ [Cell.lst (tabsD ((L.take (done2.length + 1)).flatMap Ex))] := by
          rw [List.take_succ, htb, List.flatMap_append]
          unfold tabsD
          rw [List.map_append]
          congr 4
          simp
        have hex := ex_bnd ht hl hws (by omega) (hL ▸ List.mem_of_getElem? htb : tb ∈ tabsL t ws done.length)
        generalize exL t ws done.length tb = lo1 at *
        generalize exH t ws done.length tb = hi1 at *
        clear htw
        walk_at "go1"
        refine ⟨⟨_, by rw [← hB]; exact get_new _ _⟩, ?_⟩
        walk_at "go1"
        rw [show rng lo1 (hi1 + 1 - lo1).toNat = (rgI lo1 (hi1 + 1)).map D.int by unfold rng rgI; rw [List.map_map]; rfl]
        refine lc_mapL D.int (fun v => tabD (tb ++ [v])) (L := rgI lo1 (hi1 + 1)) (st := stYes) (M := B ++ [Cell.lst (tabsD ((L.take done2.length).flatMap Ex))]) trivial (by omega) (fun v hv kk hk => ?_) ?_
        · walk_at "go1"
          rw [show tb.map D.int ++ [D.int v] = (tb ++ [v]).map D.int by rw [List.map_append]; rfl]
          exact hk
        rw [show (rgI lo1 (hi1 + 1)).map (fun v => tabD (tb ++ [v])) = tabsD (Ex tb) by rw [hEt]; unfold tabsD; rw [List.map_map]; rfl]
        walk_at "go1"
        rw [← hB, get_new]
        dsimp only
        refine ⟨?_, by rw [← e2]; simp, _, _, _, _, _, _, _, rfl, ?_⟩
        · unfold tabsD
          rw [List.length_map, List.length_map]
          omega
        · rw [set_new, hfin]
      · rintro done2 ρ M' ⟨e2, x7, x8, x9, x10, x11, x12, x13, rfl, rfl⟩
        have hd2 : done2.length = L.length := by
          have := congrArg List.length e2
          unfold tabsD at this
          rw [List.append_nil, List.length_map] at this
          exact this
        rw [hd2, List.take_length]
        walk_at "go1"
        refine ⟨by rw [← e]; simp, J ++ [.lst (tabsD (L.flatMap Ex))], M.length + J.length, _, _, _, _, _, _, _, _, _, _, _, rfl, by rw [hBB, List.append_assoc], ?_⟩
        rw [← hB]
        exact get_new _ _
    · rintro done ρ M' ⟨e, J, kf, x3, x4, x5, x6, x7, x8, x9, x10, x11, x12, x13, rfl, rfl, hk⟩
      have hd := rng_end e
      walk_at "go1"
      rw [hd] at hk
      exact See.keep (k J kf hk)
def OsOk (t : Tr) (os : List (Nat × Option Nat)) (d : D) : Prop := (∃ j l, os[j]? = some (l, none) ∧ (∀ m, m < j → ∀ q : Nat × Option Nat, os[m]? = some q → q.2 ≠ none) ∧ d = .lst [.str "last", natD j]) ∨ (∃ ws : CW, os = ws.map clO ∧ (∃ w ∈ ws, 300 < w.2) ∧ d = .lst [.str "large", .int 300]) ∨ (∃ ws : CW, os = ws.map clO ∧ (∀ w ∈ ws, w.1 ≤ w.2 ∧ w.2 ≤ 300) ∧ d = .int (cnt t ws))
theorem clO_inj : ∀ {a b : CW}, a.map clO = b.map clO → a = b := fun {a b} h => by
  have := congrArg (List.map fun o : Nat × Option Nat => (o.1, o.2.getD 0)) h
  rw [List.map_map, List.map_map] at this
  have e : (fun o : Nat × Option Nat => (o.1, o.2.getD 0)) ∘ clO = id := rfl
  rw [e, List.map_id, List.map_id] at this
  exact this
theorem no_none {ws : CW} {j l : Nat} (h : (ws.map clO)[j]? = some (l, none)) : False := by
  rw [List.getElem?_map] at h
  obtain ⟨w, _, e⟩ := Option.map_eq_some_iff.mp h
  cases e
theorem os_last {t : Tr} {os : List (Nat × Option Nat)} {d : D} (h : OsOk t os d) {j l : Nat} (h1 : os[j]? = some (l, none)) (h2 : ∀ m, m < j → ∀ q : Nat × Option Nat, os[m]? = some q → q.2 ≠ none) : d = .lst [.str "last", natD j] := by
  rcases h with ⟨j', l', a1, a2, rfl⟩ | ⟨ws, rfl, _⟩ | ⟨ws, rfl, _⟩
  · have : j = j' := by
      rcases Nat.lt_trichotomy j j' with h | h | h
      · exact absurd rfl (a2 j h _ h1)
      · exact h
      · exact absurd rfl (h2 j' h _ a1)
    rw [this]
  · exact (no_none h1).elim
  · exact (no_none h1).elim
theorem os_large {t : Tr} {ws : CW} {d : D} (h : OsOk t (ws.map clO) d) (h1 : ∃ w ∈ ws, 300 < w.2) : d = .lst [.str "large", .int 300] := by
  rcases h with ⟨j', l', a1, a2, rfl⟩ | ⟨ws', e, _, rfl⟩ | ⟨ws', e, a, rfl⟩
  · exact (no_none a1).elim
  · rfl
  · obtain ⟨w, hw, h2⟩ := h1
    have := a w (clO_inj e ▸ hw)
    omega
theorem os_cnt {t : Tr} {ws : CW} {d : D} (h : OsOk t (ws.map clO) d) (h1 : ∀ w ∈ ws, w.1 ≤ w.2 ∧ w.2 ≤ 300) : d = .int (cnt t ws) := by
  rcases h with ⟨j', l', a1, a2, rfl⟩ | ⟨ws', e, ⟨w, hw, h2⟩, rfl⟩ | ⟨ws', e, a, rfl⟩
  · exact (no_none a1).elim
  · have := h1 w (clO_inj e ▸ hw)
    omega
  · rw [clO_inj e]
def spTold : DSp := fun args M Q _ => ∃ (t : Tr) (os : List (Nat × Option Nat)) (d : D), args = [treeD t, .tup (os.map owD)] ∧ TreeOk t ∧ os.length = t.length + 1 ∧ (∀ a b, (a, some b) ∈ os → a ≤ b) ∧ OsOk t os d ∧ Q d M
theorem c__law_told (T : Tp K mg) : Cl P w K mg base "_law_told" (5 + 1) ["_law_tree_here", "_law_windows_here"] spTold := by
  obtain ⟨f, fd, F, hm⟩ := T.d__law_told.ex
  have S := sc__law_told
  have B := T.bn
  have c_count_tables := @c_count_tables P w K mg base T
  refine ⟨⟨f, fd, fnD F S (fun args M Q E h => by (repeat (obtain ⟨_, h⟩ := h)); subst_vars; rfl) (fun cdv A outer s H E hgd hr => ⟨_, (ds_one (ds_tryAs 3 S.nd T.g_FallError (fun pn xe po => (ds_one (ds_ret (d_cl c_count_tables hgd (hr.mono (by first | decide | omega)) (d_cons (dv 0) (d_cons (dv 1) d_nil))))))
  (fun a oe cls d pn hz hf => (ds_cons (dss 2 S.nd (d_lst (d_cons (d_isX1s hz hf B.isinstance (dv 3) (nm_own T.g_TooLarge)) (d_cons (d_isX1s hz hf B.isinstance (dv 3) (nm_own T.g_NoLast)) d_nil))))
  (ds_cons (ds_if (DW.dt (dw_or (dt_cmp (o_ne hr.units) (d_countB (dv 2) (d_cons d_bl d_nil)) d_int) (dw_or1 (dt_val (d_isXs hz hf B.isinstance (dv 3) (nms_cons (nm_own T.g_BadPushes) (nms_cons (nm_own T.g_Conflict) (nms_cons (nm_own T.g_NoTable) (nms_cons (nm_blt B.LookupError b_LookupError) NmCs.nil)))) (Nat.le_of_ble_eq_true rfl)))))) (ds_one (ds_ret (d_lst (d_cons d_str d_nil)))) ds_nil)
  (ds_one (ds_ret (d_if (dt_val (d_isX1s hz hf B.isinstance (dv 3) (nm_own T.g_TooLarge))) (d_lst (d_cons d_str (d_cons (d_fldXs hz hf (dv 3)) d_nil))) (d_lst (d_cons d_str (d_cons (d_fldXs hz hf (dv 3)) d_nil))))))))))), fun args M Q E' hM hA h => ?_⟩), hm, F.kp, (F.binds (ps := ["_law_tree_here", "_law_windows_here"]) fun _ _ _ _ _ _ us hl => match us, hl with | [_, _], _ => rfl)⟩, ?_⟩
  rotate_left
  · exact fun args M Q Q' E E' w _ ⟨x0, x1, x2, x3, x4, x5, x6, x7, k⟩ => ⟨x0, x1, x2, x3, x4, x5, x6, x7, w _ _ k⟩
  · obtain ⟨t, os, d, rfl, ht, hl, hos, hd, k⟩ := h
    walk_at "go1"
    refine ⟨_, fun _ _ _ _ h => h, ?_⟩
    walk_at "go1"
    refine ⟨t, os, rfl, ht, hl, hos, fun j l h1 h2 => ?_, fun ws e h1 => ?_, fun ws e h1 => ?_⟩
    · obtain rfl := os_last hd h1 h2
      refine ⟨true, T.m_NoLast_FallError, fun _ a o => ?_, fun h => by cases h⟩
      walk_at "go1"
      refine ⟨_, _, rfl, T.i_NoLast, T.y_NoLast_1, ?_⟩
      walk_at "go1"
      refine ⟨_, _, rfl, T.i_NoLast, T.y_NoLast_0, ?_⟩
      walk_at "go1"
      rw [show blsOf [D.bl false, D.bl true] = some [false, true] from rfl]
      dsimp only
      rw [show cntB [false, true] true = some 1 from rfl]
      walk_at "go1"
      refine ⟨_, _, rfl, T.i_NoLast, T.y_NoLast_2, ?_⟩
      walk_at "go1"
      refine ⟨_, _, rfl, T.i_NoLast, T.y_NoLast_1, ?_⟩
      walk_at "go1"
      refine ⟨_, _, rfl, T.i_NoLast, T.f_NoLast.no, rfl, ?_⟩
      walk_at "go1"
      exact See.keep k
    · subst e
      obtain rfl := os_large hd h1
      refine ⟨true, T.m_TooLarge_FallError, fun _ a o => ?_, fun h => by cases h⟩
      walk_at "go1"
      refine ⟨_, _, rfl, T.i_TooLarge, T.y_TooLarge_1, ?_⟩
      walk_at "go1"
      refine ⟨_, _, rfl, T.i_TooLarge, T.y_TooLarge_0, ?_⟩
      walk_at "go1"
      rw [show blsOf [D.bl true, D.bl false] = some [true, false] from rfl]
      dsimp only
      rw [show cntB [true, false] true = some 1 from rfl]
      walk_at "go1"
      refine ⟨_, _, rfl, T.i_TooLarge, T.y_TooLarge_2, ?_⟩
      walk_at "go1"
      refine ⟨_, _, rfl, T.i_TooLarge, T.y_TooLarge_1, ?_⟩
      walk_at "go1"
      refine ⟨_, _, rfl, T.i_TooLarge, T.f_TooLarge.no, rfl, ?_⟩
      walk_at "go1"
      exact See.keep k
    · subst e
      obtain rfl := os_cnt hd h1
      exact See.keep k
theorem os_wins (os : List (Nat × Option Nat)) : os.map owD = (os.map fun o => (((o.1 : Int), lastO o.2) : Int × Option Int)).map winD := by rw [List.map_map]; rfl
theorem sh_os {t : Tr} (ht : TreeOk t) {os : List (Nat × Option Nat)} (hl : os.length = t.length + 1) (hos : ∀ a b, (a, some b) ∈ os → a ≤ b) (hob : ∀ q ∈ os, q.1 ≤ 1000000 ∧ ∀ b, q.2 = some b → b ≤ 1000000) : Sh 500 2 (.tup (os.map owD)) := by
  rw [os_wins]
  refine sh_wins ht ⟨by rw [List.length_map]; exact hl, fun w hw => ?_⟩
  obtain ⟨⟨a, o⟩, hq, rfl⟩ := List.mem_map.mp hw
  have h1 := hob _ hq
  dsimp only at h1
  refine ⟨by show (0 : Int) ≤ (a : Int); omega, by show (a : Int) ≤ _; omega, fun l hl => ?_⟩
  cases o with
  | none => cases hl
  | some b =>
    cases hl
    have := hos a b hq
    have := h1.2 b rfl
    show (a : Int) ≤ (b : Int) ∧ (b : Int) ≤ _
    omega
def spRight : DSp := fun args M Q _ => ∃ (t : Tr) (os : List (Nat × Option Nat)) (d : D), args = [treeD t, .tup (os.map owD), d] ∧ TreeOk t ∧ os.length = t.length + 1 ∧ (∀ a b, (a, some b) ∈ os → a ≤ b) ∧ (∀ q ∈ os, q.1 ≤ 1000000 ∧ ∀ b, q.2 = some b → b ≤ 1000000) ∧ Sh 200 1 d ∧ OsOk t os d ∧ Q (.bl true) M
theorem c__law_right (T : Tp K mg) : Cl P w K mg base "_law_right" (6 + 1) ["_law_tree_here", "_law_windows_here", "_law_due"] spRight := by
  obtain ⟨f, fd, F, hm⟩ := T.d__law_right.ex
  have S := sc__law_right
  have B := T.bn
  have c__law_told := @c__law_told P w K mg base T
  refine ⟨⟨f, fd, fnD F S (fun args M Q E h => by (repeat (obtain ⟨_, h⟩ := h)); subst_vars; rfl) (fun cdv A outer s H E hgd hr => ⟨_, (ds_cons (dss 3 S.nd (d_callB (o_repr hgd hr.units) (by rfl) B.repr b_repr (d_cons (d_lst (d_cons (dv 0) (d_cons (dv 1) d_nil))) d_nil)))
  (ds_cons (ds_setLcI (i := 4) (own := [("_law_again", 5)]) rfl S.nd rfl rfl (sw_true rfl rfl rfl (by decide +kernel)) (di_range1 (by rfl) B.range (d_cons d_int d_nil)) (blkOk_by (N := ["_law_tree_here", "_law_windows_here", "_law_due", "_law_shown", "_law_found", "_law_again"]) (sc := defScope s__law_right) (by decide +kernel)) (by decide) (fun _ _ _ _ _ => (dgn 5 S.nd)) (fun _ _ _ _ _ => dts_nil) (fun _ _ _ _ _ => (d_cl c__law_told hgd (hr.mono (by first | decide | omega)) (d_cons (dv 0) (d_cons (dv 1) d_nil)))))
  (ds_one (ds_ret (d_and (d_cmp (o_eq hr.units) (d_callB (o_repr hgd hr.units) (by rfl) B.repr b_repr (d_cons (dv 4) d_nil)) (d_callB (o_repr hgd hr.units) (by rfl) B.repr b_repr (d_cons (d_lst (d_cons (dv 2) (d_cons (dv 2) d_nil))) d_nil))) (d_one (d_cmp (o_eq hr.units) (d_callB (o_repr hgd hr.units) (by rfl) B.repr b_repr (d_cons (d_lst (d_cons (dv 0) (d_cons (dv 1) d_nil))) d_nil)) (dv 3)))))))), fun args M Q E' hM hA h => ?_⟩), hm, F.kp, (F.binds (ps := ["_law_tree_here", "_law_windows_here", "_law_due"]) fun _ _ _ _ _ _ us hl => match us, hl with | [_, _, _], _ => rfl)⟩, ?_⟩
  rotate_left
  · exact fun args M Q Q' E E' w _ ⟨x0, x1, x2, x3, x4, x5, x6, x7, x8, x9, k⟩ => ⟨x0, x1, x2, x3, x4, x5, x6, x7, x8, x9, w _ _ k⟩
  · obtain ⟨t, os, d, rfl, ht, hl, hos, hob, hcn, hd, k⟩ := h
    have ht1 := ht.1
    have hsh := (sh_two ((sh_tree ht).up (n' := 500) (h' := 2) (by decide) (by decide)) (sh_os ht hl hos hob)).ok (by decide) (by decide)
    have hsc := (sh_pair hcn).ok (by decide) (by decide)
    walk_at "go1"
    refine ⟨hsh _, ?_⟩
    walk_at "go1"
    refine lc_map (fun _ => d) trivial (by decide) (fun x hx kk hk => ?_) ?_
    · walk_at "go1"
      refine ⟨t, os, d, rfl, ht, hl, hos, hd, ?_⟩
      walk_at "go1"
      exact hk
    walk_at "go1"
    refine ⟨hsc _, ?_⟩
    walk_at "go1"
    refine ⟨hsc _, ?_⟩
    walk_at "go1"
    refine ⟨hsh _, ?_⟩
    walk_at "go1"
    exact See.keep k
theorem dist_leB {t : Tr} {L : Nat} (h : ∀ p ∈ t, p.2 ≤ L) (i j : Nat) : dist t i j ≤ (i + j : Nat) * (L : Int) := by
  have hln : ∀ m, ln t m ≤ L := fun m => by
    unfold ln
    rw [List.getD_eq_getElem?_getD]
    cases e : t[m - 1]? with
    | none => exact Nat.zero_le _
    | some p => exact h p (List.mem_of_getElem? e)
  have hi := hln i
  have hj := hln j
  rcases Nat.lt_trichotomy i j with h1 | h1 | h1
  · have h2 := par_lt t (show 0 < j by omega)
    have h3 := dist_leB h i (par t j)
    rw [dist_lt t h1]
    have h4 : ((i + par t j : Nat) : Int) * L ≤ ((i + j - 1 : Nat) : Int) * L := Int.mul_le_mul_of_nonneg_right (by omega) (by omega)
    have h5 : ((i + j : Nat) : Int) * L = ((i + j - 1 : Nat) : Int) * L + L := by
      rw [show ((i + j : Nat) : Int) = ((i + j - 1 : Nat) : Int) + 1 by omega, Int.add_mul, Int.one_mul]
    omega
  · subst h1
    rw [dist_self]
    exact Int.mul_nonneg (by omega) (by omega)
  · have h2 := par_lt t (show 0 < i by omega)
    have h3 := dist_leB h (par t i) j
    rw [dist_gt t h1]
    have h4 : ((par t i + j : Nat) : Int) * L ≤ ((i + j - 1 : Nat) : Int) * L := Int.mul_le_mul_of_nonneg_right (by omega) (by omega)
    have h5 : ((i + j : Nat) : Int) * L = ((i + j - 1 : Nat) : Int) * L + L := by
      rw [show ((i + j : Nat) : Int) = ((i + j - 1 : Nat) : Int) + 1 by omega, Int.add_mul, Int.one_mul]
    omega
termination_by i + j
theorem cl_owD (ws : CW) : (ws.map clO).map owD = ws.map rowD := by rw [List.map_map]; rfl
theorem cl_hos {ws : CW} (h : ∀ w ∈ ws, w.1 ≤ w.2) (a b : Nat) (hm : (a, some b) ∈ ws.map clO) : a ≤ b := by
  obtain ⟨w, hw, e⟩ := List.mem_map.mp hm
  cases e
  exact h w hw
theorem cl_hob {ws : CW} (h : ∀ w ∈ ws, w.1 ≤ w.2 ∧ w.2 ≤ 1000000) (q : Nat × Option Nat) (hm : q ∈ ws.map clO) : q.1 ≤ 1000000 ∧ ∀ b, q.2 = some b → b ≤ 1000000 := by
  obtain ⟨w, hw, rfl⟩ := List.mem_map.mp hm
  have := h w hw
  refine ⟨by show w.1 ≤ _; omega, fun b e => ?_⟩
  cases e
  exact this.2
theorem right_good {t : Tr} {ws : CW} (ht : TreeOk t) (hl : ws.length = t.length + 1) (h : ∀ w ∈ ws, w.1 ≤ w.2 ∧ w.2 ≤ 300) {k : Nat} (hk : ∀ w ∈ ws, w.2 + 1 - w.1 ≤ k) (hk1 : 1 ≤ k) (hk2 : k ^ (t.length + 1) < 1000000000000) {M : Sto} {Q : DK} {E : DXK} (q : Q (.bl true) M) : spRight [treeD t, .tup (ws.map rowD), .int (cnt t ws)] M Q E := by
  have hlo : ∀ m, m ≤ t.length → lo ws m ≤ (ws.getD m (0, 0)).2 := fun m hm => by
    have e : ws[m]? = some ws[m] := List.getElem?_eq_getElem (by omega)
    have := h ws[m] (List.getElem_mem _)
    unfold lo
    rw [List.getD_eq_getElem?_getD, e]
    exact this.1
  obtain ⟨c0, c1⟩ := cnt_le ht hlo (wd_le hk hk1)
  refine ⟨t, ws.map clO, .int (cnt t ws), by rw [cl_owD], ht, by rw [List.length_map]; exact hl, cl_hos fun w hw => (h w hw).1, cl_hob fun w hw => ⟨(h w hw).1, by have := h w hw; omega⟩, (Sh.int (by omega)).up (by decide) (by decide), .inr (.inr ⟨ws, rfl, h, rfl⟩), q⟩
def R28 (ns : List Int) (k : Nat) (a b c d e f g h i : Option D) : Dn := ⟨[some (.scr ns), some (.ref 1), some (natD k), a, b, c, d, e, f, g, h, i], noX⟩
def inv28 (ns : List Int) : List D → List D → Dn → Sto → Prop := fun done todo ρ M => done ++ todo = rng 0 4 ∧ ∃ (cs : CR) (n : Int) (R : Sto) (x2 x3 x4 x5 x6 x7 x8 x9 x10 x11 : Option D), ρ = ⟨[some (.scr ns), some (.ref 1), x2, x3, x4, x5, x6, x7, x8, x9, x10, x11], noX⟩ ∧ M = dkd cs n ++ R ∧ Gd (400 * todo.length) cs n
abbrev LEVEL : Nat := 30 + 1
set_option maxHeartbeats 4000000 in
theorem law_fn (T : Tp K mg) {f : Addr} {fd : FuncData} (F : Fun K "law" "law" s_law f fd) (base : Heap) : FnG P w K mg base (CXd P w) LEVEL f fd ["_law_script"] (spOf K spLaw) := by
  have S := sc_law
  have B := T.bn
  have c__law_below := @c__law_below P w K mg base T
  have c__law_draws := @c__law_draws P w K mg base T
  have c__law_next := @c__law_next P w K mg base T
  have c__law_right := @c__law_right P w K mg base T
  have c__law_tables := @c__law_tables P w K mg base T
  have c__law_told := @c__law_told P w K mg base T
  have c__law_tree := @c__law_tree P w K mg base T
  have c__law_windows := @c__law_windows P w K mg base T
  obtain ⟨t_SMALL_TICK, m_SMALL_TICK⟩ := T.k_SMALL_TICK
  refine fnD F S (fun args M Q E h => by (repeat (obtain ⟨_, h⟩ := h)); subst_vars; rfl) (fun cdv A outer s H E hgd hr => ⟨_, (ds_cons (dss 1 S.nd (d_cl c__law_draws hgd (hr.mono (by first | decide | omega)) (d_cons (dv 0) d_nil)))
  (ds_cons (ds_forI (passes_of rfl) rfl (di_range1 (by rfl) B.range (d_cons d_int d_nil)) (dgn 2 S.nd) (ds_cons (dss 3 S.nd (d_cl c__law_tree hgd (hr.mono (by first | decide | omega)) (d_cons (dv 1) (d_cons d_int (d_cons d_int d_nil)))))
  (ds_cons (dss 4 S.nd (d_cl c__law_windows hgd (hr.mono (by first | decide | omega)) (d_cons (dv 1) (d_cons (dv 3) (d_cons d_int (d_cons d_int d_nil))))))
  (ds_cons (ds_if (dt_not (dt_val (d_cl c__law_right hgd (hr.mono (by first | decide | omega)) (d_cons (dv 3) (d_cons (dv 4) (d_cons (d_callB o_len (by rfl) B.len b_len (d_cons (d_cl c__law_tables hgd (hr.mono (by first | decide | omega)) (d_cons (dv 3) (d_cons (dv 4) d_nil))) d_nil)) d_nil)))))) (ds_one (ds_ret d_bl)) ds_nil)
  (ds_cons (dss 3 S.nd (d_cl c__law_tree hgd (hr.mono (by first | decide | omega)) (d_cons (dv 1) (d_cons d_int (d_cons (d_ix (d_lst (d_cons d_int (d_cons d_int d_nil))) (d_op o_mod (dv 2) d_int) (fun _ _ => rfl)) d_nil)))))
  (ds_cons (dss 4 S.nd (d_cl c__law_windows hgd (hr.mono (by first | decide | omega)) (d_cons (dv 1) (d_cons (dv 3) (d_cons d_int (d_cons d_int d_nil))))))
  (ds_cons (ds_if (dt_cmp o_lt (d_callB (o_maxA rfl) (by rfl) B.max b_max (d_cons (d_lcI (own := [("_law_least", 5), ("_law_last", 11)]) rfl S.nd (di_seq (dv 4)) (blkOk_by (N := ["_law_script", "_law_state", "_law_turn", "_law_tree_here", "_law_windows_here", "_law_least", "_law_spot", "_law_mark", "_law_late", "_law_wide", "_law_found", "_law_last"]) (sc := defScope s_law) (by decide +kernel)) (by decide) (fun _ _ _ _ _ => (dg_tup (n := 2) rfl (dgs_cons (dgn 5 S.nd) (dgs_cons (dgn 11 S.nd) dgs_nil)))) (fun _ _ _ _ _ => dts_nil) (fun _ _ _ _ _ => (dv 11))) d_nil)) d_int) (ds_one (ds_if (dt_not (dt_val (d_cl c__law_right hgd (hr.mono (by first | decide | omega)) (d_cons (dv 3) (d_cons (dv 4) (d_cons (d_callB (o_sum rfl) (by rfl) B.sum b_sum (d_cons (d_cl c__law_below hgd (hr.mono (by first | decide | omega)) (d_cons (dv 3) (d_cons (dv 4) (d_cons d_int d_nil)))) d_nil)) d_nil)))))) (ds_one (ds_ret d_bl)) ds_nil)) ds_nil)
  (ds_cons (dsp2 6 7 S.nd (d_cons (d_cl c__law_next hgd (hr.mono (by first | decide | omega)) (d_cons (dv 1) (d_cons (d_callB o_len (by rfl) B.len b_len (d_cons (dv 4) d_nil)) d_nil))) (d_cons (d_cl c__law_next hgd (hr.mono (by first | decide | omega)) (d_cons (dv 1) (d_cons (d_callB o_len (by rfl) B.len b_len (d_cons (dv 4) d_nil)) d_nil))) d_nil)))
  (ds_cons (dss 5 S.nd (d_ix (d_ix (dv 4) (dv 7) (fun _ _ => rfl)) d_int (fun _ _ => rfl)))
  (ds_cons (dss 8 S.nd (d_op o_add (d_op o_add (d_slice (dv 4) do_none (do_some (dv 7))) (d_tup (d_cons (d_tup (d_cons (dv 5) (d_cons (d_op o_add (d_callB (o_max2 rfl) (by rfl) B.max b_max (d_cons (dv 5) (d_cons d_int d_nil))) (d_cl c__law_next hgd (hr.mono (by first | decide | omega)) (d_cons (dv 1) (d_cons d_int d_nil)))) d_nil))) d_nil))) (d_slice (dv 4) (do_some (d_op o_add (dv 7) d_int)) do_none)))
  (ds_cons (ds_if (dt_not (dt_val (d_cl c__law_right hgd (hr.mono (by first | decide | omega)) (d_cons (dv 3) (d_cons (dv 8) (d_cons (d_lst (d_cons d_str (d_cons d_int d_nil))) d_nil)))))) (ds_one (ds_ret d_bl)) ds_nil)
  (ds_cons (dss 8 S.nd (d_op o_add (d_op o_add (d_slice (dv 8) do_none (do_some (dv 6))) (d_tup (d_cons (d_tup (d_cons (d_ix (d_ix (dv 8) (dv 6) (fun _ _ => rfl)) d_int (fun _ _ => rfl)) (d_cons d_non d_nil))) d_nil))) (d_slice (dv 8) (do_some (d_op o_add (dv 6) d_int)) do_none)))
  (ds_one (ds_if (dt_not (dt_val (d_cl c__law_right hgd (hr.mono (by first | decide | omega)) (d_cons (dv 3) (d_cons (dv 8) (d_cons (d_lst (d_cons d_str (d_cons (dv 6) d_nil))) d_nil)))))) (ds_one (ds_ret d_bl)) ds_nil))))))))))))))
  (ds_cons (dss 9 S.nd (d_tup (d_cons (d_tup (d_cons d_int (d_cons d_int d_nil))) (d_cons (d_tup (d_cons d_int (d_cons d_int d_nil))) (d_cons (d_tup (d_cons d_int (d_cons d_int d_nil))) d_nil)))))
  (ds_cons (dss 10 S.nd (d_lst (d_cons (d_cl c__law_told hgd (hr.mono (by first | decide | omega)) (d_cons (d_tup (d_cons (d_tup (d_cons d_int (d_cons d_int d_nil))) (d_cons (d_tup (d_cons d_int (d_cons (d_op o_pow d_int d_int) d_nil))) d_nil))) (d_cons (dv 9) d_nil))) (d_cons (d_cl c__law_told hgd (hr.mono (by first | decide | omega)) (d_cons (d_tup d_nil) (d_cons (d_tup (d_cons (d_tup (d_cons d_int (d_cons d_int d_nil))) d_nil)) d_nil))) (d_cons (d_cl c__law_told hgd (hr.mono (by first | decide | omega)) (d_cons (d_tup (d_cons (d_tup (d_cons d_int (d_cons d_int d_nil))) d_nil)) (d_cons (d_slice (dv 9) do_none (do_some d_int)) d_nil))) d_nil)))))
  (ds_one (ds_ret (d_and (d_cmp (o_eq hr.units) (d_callB (o_repr hgd hr.units) (by rfl) B.repr b_repr (d_cons (dv 10) d_nil)) (d_callB (o_repr hgd hr.units) (by rfl) B.repr b_repr (d_cons (d_lst (d_cons (d_op o_mulA d_int d_int) (d_cons d_int (d_cons d_int d_nil)))) d_nil))) (d_one (d_cmp (o_eq hr.units) (d_glob (by rfl) m_SMALL_TICK) d_int))))))))), fun args M Q E' hM hA h => ?_⟩)
  obtain ⟨ns, rfl, rfl, hl, k⟩ := h
  walk_at "go1"
  refine ⟨ns, rfl, rfl, hl, fun cs g => ?_⟩
  walk_at "go1"
  refine ⟨inv28 ns, ⟨rfl, cs, 0, [], _, _, _, _, _, _, _, _, _, _, rfl, (List.append_nil _).symm, g.le (by decide)⟩, fun _ _ _ _ _ => trivial, ?_, ?_⟩
  rotate_left
  · rintro done ρ M ⟨e, cs, n, R, x2, x3, x4, x5, x6, x7, x8, x9, x10, x11, rfl, rfl, g⟩
    have c1 : cnt [(0, 7), (0, 1000000)] [(0, 300), (300, 300), (0, 299)] = 2400 := by decide +kernel
    have c2 : cnt [] [(0, 300)] = 301 := by decide +kernel
    have c3 : cnt [(0, 1)] [(0, 300), (300, 300)] = 2 := by decide +kernel
    have t1 : TreeOk [(0, 7), (0, 1000000)] := tree_snoc (t := [(0, 7)]) (tree_snoc (t := []) ⟨by simp, fun k p e => by simp at e⟩ (by decide) (by decide) (by decide) (by decide)) (by decide) (by decide) (by decide) (by decide)
    have t2 : TreeOk [] := ⟨by simp, fun k p e => by simp at e⟩
    have t3 : TreeOk [(0, 1)] := tree_snoc (t := []) t2 (by decide) (by decide) (by decide) (by decide)
    have hsr : Sh 200 1 (D.lst [.int 2400, .int 301, .int 2]) := (Sh.lst (n := 13) (h := 0) (m := 3) (fun d hd => by
      simp only [List.mem_cons, List.not_mem_nil, or_false] at hd
      rcases hd with rfl | rfl | rfl <;> exact Sh.int (by decide)) (by decide)).up (by decide) (by decide)
    have hsw := hsr.ok (by decide) (by decide)
    walk_at "go1"
    refine ⟨_, ([(0, 300), (300, 300), (0, 299)] : CW).map clO, .int 2400, rfl, t1, rfl, fun a b h => ?_, .inr (.inr ⟨_, rfl, fun w hw => ?_, by rw [c1]⟩), ?_⟩
    · simp [clO] at h
      omega
    · simp only [List.mem_cons, List.not_mem_nil, or_false] at hw
      rcases hw with rfl | rfl | rfl <;> exact ⟨by decide, by decide⟩
    walk_at "go1"
    refine ⟨_, ([(0, 300)] : CW).map clO, .int 301, rfl, t2, rfl, fun a b h => ?_, .inr (.inr ⟨_, rfl, fun w hw => ?_, by rw [c2]⟩), ?_⟩
    · simp [clO] at h
      omega
    · simp only [List.mem_cons, List.not_mem_nil, or_false] at hw
      subst hw
      exact ⟨by decide, by decide⟩
    walk_at "go1"
    rw [show cut [D.tup [D.int 0, D.int 300], D.tup [D.int 300, D.int 300], D.tup [D.int 0, D.int 299]] none (some 2) = [D.tup [D.int 0, D.int 300], D.tup [D.int 300, D.int 300]] from rfl]
    refine ⟨_, ([(0, 300), (300, 300)] : CW).map clO, .int 2, rfl, t3, rfl, fun a b h => ?_, .inr (.inr ⟨_, rfl, fun w hw => ?_, by rw [c3]⟩), ?_⟩
    · simp [clO] at h
      omega
    · simp only [List.mem_cons, List.not_mem_nil, or_false] at hw
      rcases hw with rfl | rfl <;> exact ⟨by decide, by decide⟩
    walk_at "go1"
    refine ⟨hsw _, ?_⟩
    walk_at "go1"
    refine ⟨hsw _, ?_⟩
    walk_at "go1"
    exact See.keep (k _)
  rintro done d todo ρ M ⟨e, cs, n, R, x2, x3, x4, x5, x6, x7, x8, x9, x10, x11, rfl, rfl, g⟩
  obtain ⟨rfl, hlt⟩ := rng_at e
  rw [List.length_cons, Nat.mul_add] at g
  refine seq_mid (fun ρ M' => ∃ (t : Tr) (cs : CR) (n : Int), TreeOk t ∧ (∀ p ∈ t, p.2 ≤ 3) ∧ t.length < 5 ∧ ρ = R28 ns done.length (some (treeD t)) x4 x5 x6 x7 x8 x9 x10 x11 ∧ M' = dkd cs n ++ R ∧ Gd (400 * todo.length + 364) cs n) (fun nx hnx => ?_) ?_
  · walk_at "go1"
    exact ⟨cs, n, R, 5, 3, 400 * todo.length + 364, rfl, rfl, g.le (by omega), by decide, by decide, by decide, by decide, fun t cs n ht hp hl g => hnx _ _ ⟨t, cs, n, ht, hp, hl, rfl, rfl, g⟩⟩
  rintro ρ M ⟨t, cs, n, ht, hp, htl, rfl, rfl, g⟩
  refine seq_mid (fun ρ M' => ∃ (ws : CW) (cs : CR) (n : Int), ws.length = t.length + 1 ∧ (∀ w ∈ ws, WinB 34 4 w) ∧ ρ = R28 ns done.length (some (treeD t)) (some (.tup (ws.map rowD))) x5 x6 x7 x8 x9 x10 x11 ∧ M' = dkd cs n ++ R ∧ Gd (400 * todo.length + 274) cs n) (fun nx hnx => ?_) ?_
  · unfold R28
    walk_at "go1"
    exact ⟨cs, n, R, t, 6, 4, 400 * todo.length + 274, 34, rfl, rfl, g, ht, by decide, by decide, by decide, by decide, fun i j hi hj => by
      have := dist_leB hp i j
      omega, fun ws cs n hl hw g => hnx _ _ ⟨ws, cs, n, hl, hw, rfl, rfl, g⟩⟩
  rintro ρ M ⟨ws, cs, n, hwl, hws, rfl, rfl, g⟩
  refine seq_mid (fun ρ M' => ∃ R, ρ = R28 ns done.length (some (treeD t)) (some (.tup (ws.map rowD))) x5 x6 x7 x8 x9 x10 x11 ∧ M' = dkd cs n ++ R) (fun nx hnx => ?_) ?_
  · unfold R28
    have hlo : ∀ m, m ≤ t.length → lo ws m ≤ (ws.getD m (0, 0)).2 := fun m hm => by
      have e : ws[m]? = some ws[m] := List.getElem?_eq_getElem (by omega)
      have := hws ws[m] (List.getElem_mem _)
      unfold lo
      rw [List.getD_eq_getElem?_getD, e]
      exact this.1
    have hmany : ∀ m, m ≤ t.length + 1 → (tabsL t ws m).length ≤ 5000 := fun m hm => Nat.le_trans (tabs_len (k := 4) (wd_le (fun w hw => (hws w hw).2.1) (by decide)) m) (Nat.le_trans (Nat.pow_le_pow_right (n := 4) (by decide) (show m ≤ 5 by omega)) (by decide))
    walk_at "go1"
    refine ⟨t, ws, rfl, ht, hwl, fun w hw => ⟨(hws w hw).1, by have := (hws w hw).2.2; omega⟩, hmany, fun w hw => by have := (hws w hw).2.1; omega, fun J kf hk => ?_⟩
    have hkl := (List.getElem?_eq_some_iff.mp hk).1
    walk_at "go1"
    rw [hk]
    dsimp only
    rw [show (tabsD (tabsL t ws (t.length + 1))).length = (tabsL t ws (t.length + 1)).length from List.length_map ..]
    rw [← tabs_cnt ht hlo]
    walk_at "go1"
    refine right_good ht hwl (fun w hw => ⟨(hws w hw).1, by have := (hws w hw).2.2; omega⟩) (k := 4) (fun w hw => (hws w hw).2.1) (by decide) (Nat.lt_of_le_of_lt (Nat.pow_le_pow_right (n := 4) (by decide) (show t.length + 1 ≤ 5 by omega)) (by decide)) ?_
    walk_at "go1"
    exact hnx _ _ ⟨R ++ J, rfl, by rw [List.append_assoc]⟩
  rintro ρ M ⟨R, rfl, rfl⟩
  refine seq_mid (fun ρ M' => ∃ (t : Tr) (cs : CR) (n : Int), TreeOk t ∧ (∀ p ∈ t, p.2 ≤ 40) ∧ ρ = R28 ns done.length (some (treeD t)) (some (.tup (ws.map rowD))) x5 x6 x7 x8 x9 x10 x11 ∧ M' = dkd cs n ++ R ∧ Gd (400 * todo.length + 238) cs n) (fun nx hnx => ?_) ?_
  · unfold R28
    have hm : ∃ m : Nat, 1 ≤ m ∧ m ≤ 40 ∧ atI [D.int 4, D.int 40] ((done.length : Int) % 2) = some (.int m) := by
      have : (done.length : Int) % 2 = 0 ∨ (done.length : Int) % 2 = 1 := by omega
      rcases this with h | h <;> rw [h]
      · exact ⟨4, by omega, by omega, atI_0 _ _⟩
      · exact ⟨40, by omega, by omega, atI_1 _ _ _⟩
    obtain ⟨m, m1, m2, em⟩ := hm
    walk_at "go1"
    rw [em]
    walk_at "go1"
    exact ⟨cs, n, R, 12, m, 400 * todo.length + 238, rfl, rfl, g.le (by omega), by decide, by decide, by omega, by omega, fun t cs n ht hp hl g => hnx _ _ ⟨t, cs, n, ht, fun p hq => Nat.le_trans (hp p hq) m2, rfl, rfl, g⟩⟩
  clear hp htl ht hwl hws
  rintro ρ M ⟨t, cs, n, ht, hp, rfl, rfl, g⟩
  have ht1 := ht.1
  refine seq_mid (fun ρ M' => ∃ (ws : CW) (cs : CR) (n : Int), ws.length = t.length + 1 ∧ (∀ w ∈ ws, WinB 909 9 w) ∧ ρ = R28 ns done.length (some (treeD t)) (some (.tup (ws.map rowD))) x5 x6 x7 x8 x9 x10 x11 ∧ M' = dkd cs n ++ R ∧ Gd (400 * todo.length + 148) cs n) (fun nx hnx => ?_) ?_
  · unfold R28
    walk_at "go1"
    exact ⟨cs, n, R, t, 20, 9, 400 * todo.length + 148, 909, rfl, rfl, g, ht, by decide, by decide, by decide, by decide, fun i j hi hj => by
      have := dist_leB hp i j
      omega, fun ws cs n hl hw g => hnx _ _ ⟨ws, cs, n, hl, hw, rfl, rfl, g⟩⟩
  rintro ρ M ⟨ws, cs, n, hwl, hws, rfl, rfl, g⟩
  refine seq_mid (fun ρ M' => ∃ R, ρ = R28 ns done.length (some (treeD t)) (some (.tup (ws.map rowD))) x5 x6 x7 x8 x9 x10 x11 ∧ M' = dkd cs n ++ R) (fun nx hnx => ?_) ?_
  · unfold R28
    have hne : (ws.map fun w => (w.2 : Int)) ≠ [] := fun e => by
      have := congrArg List.length e
      rw [List.length_map, hwl] at this
      simp at this
    walk_at "go1"
    refine lc_mapL rowD (fun w => D.int w.2) trivial (by omega) (fun w hw kk hk => ?_) ?_
    · walk_at "go1"
      exact hk
    rw [show (ws.map fun w => D.int w.2) = (ws.map fun w => (w.2 : Int)).map D.int by rw [List.map_map]; rfl]
    walk_at "go1"
    rw [intsOf_ints]
    dsimp only
    refine ⟨hne, ?_⟩
    walk_at "go1"
    refine ite_dec (fun hlt3 => ?_) (fun hlt3 => ?_)
    · have hbd : ∀ w ∈ ws, w.1 ≤ w.2 ∧ w.2 ≤ 300 := fun w hw => ⟨(hws w hw).1, by
        have := le_maxI (List.mem_map.mpr ⟨w, hw, rfl⟩ : (w.2 : Int) ∈ ws.map fun w => (w.2 : Int))
        omega⟩
      walk_at "go1"
      refine ⟨t, ws, 0, rfl, ht, hwl, hbd, by omega, by omega, fun J => ?_⟩
      walk_at "go1"
      rw [show (dkd cs n).length + R.length = (dkd cs n ++ R).length from List.length_append.symm, get_mid]
      dsimp only
      rw [show cD (wd ws 0) (Cd t ws t.length (t.length - 0) 0) = ((List.range (wd ws 0)).map (Cd t ws t.length (t.length - 0) 0)).map D.int by unfold cD; rw [List.map_map]; rfl, intsOf_ints]
      dsimp only
      unfold fSum
      rw [sm_list, show sm (wd ws 0) (Cd t ws t.length (t.length - 0) 0) = cnt t ws from rfl]
      walk_at "go1"
      refine right_good ht hwl hbd (k := 9) (fun w hw => (hws w hw).2.1) (by decide) (Nat.lt_of_le_of_lt (Nat.pow_le_pow_right (n := 9) (by decide) (show t.length + 1 ≤ 12 by omega)) (by decide)) ?_
      walk_at "go1"
      exact hnx _ _ ⟨_, rfl, by rw [List.append_assoc]⟩
    · walk_at "go1"
      exact hnx _ _ ⟨R, rfl, rfl⟩
  rintro ρ M ⟨R, rfl, rfl⟩
  refine seq_mid (fun ρ M' => ∃ (s m : Nat) (cs : CR) (n : Int), s ≤ t.length ∧ m ≤ t.length ∧ ρ = R28 ns done.length (some (treeD t)) (some (.tup (ws.map rowD))) x5 (some (natD s)) (some (natD m)) x8 x9 x10 x11 ∧ M' = dkd cs n ++ R ∧ Gd (400 * todo.length + 146) cs n) (fun nx hnx => ?_) ?_
  · unfold R28
    walk_at "go1"
    refine drd (b := 400 * todo.length + 147) g (by omega) (by omega) fun s cs n hs g => ?_
    walk_at "go1"
    refine drd (b := 400 * todo.length + 146) g (by omega) (by omega) fun m cs n hm g => ?_
    walk_at "go1"
    exact hnx _ _ ⟨s, m, cs, n, by omega, by omega, rfl, rfl, g⟩
  rintro ρ M ⟨s, m, cs, n, hs, hm, rfl, rfl, g⟩
  obtain ⟨wm, hwm⟩ : ∃ wm, ws[m]? = some wm := ⟨_, List.getElem?_eq_getElem (by omega)⟩
  have hwmb := hws wm (List.mem_of_getElem? hwm)
  refine seq_mid (fun ρ M' => ρ = R28 ns done.length (some (treeD t)) (some (.tup (ws.map rowD))) (some (natD wm.1)) (some (natD s)) (some (natD m)) x8 x9 x10 x11 ∧ M' = dkd cs n ++ R) (fun nx hnx => ?_) ?_
  · unfold R28
    walk_at "go1"
    rw [map_at (k := m) rfl hwm]
    walk_at "go1"
    exact hnx _ _ ⟨rfl, rfl⟩
  rintro ρ M ⟨rfl, rfl⟩
  refine seq_mid (fun ρ M' => ∃ (c : Nat) (cs : CR) (n : Int), wm.1 ≤ c ∧ 301 ≤ c ∧ c ≤ 10000 ∧ ρ = R28 ns done.length (some (treeD t)) (some (.tup (ws.map rowD))) (some (natD wm.1)) (some (natD s)) (some (natD m)) (some (.tup ((ws.take m ++ [(wm.1, c)] ++ ws.drop (m + 1)).map rowD))) x9 x10 x11 ∧ M' = dkd cs n ++ R ∧ Gd (400 * todo.length + 145) cs n) (fun nx hnx => ?_) ?_
  · unfold R28
    walk_at "go1"
    rw [show cut (ws.map rowD) none (some (m : Int)) = (ws.take m).map rowD by rw [cut_map, cut_to]]
    walk_at "go1"
    refine drd (b := 400 * todo.length + 145) g (by omega) (by omega) fun r cs n hr g => ?_
    have htk : (ws.take m).length ≤ ws.length := by rw [List.length_take]; omega
    have hdk : (ws.drop (m + 1)).length ≤ ws.length := by rw [List.length_drop]; omega
    walk_at "go1"
    rw [show cut (ws.map rowD) (some ((m : Int) + 1)) none = (ws.drop (m + 1)).map rowD by rw [cut_map, show ((m : Int) + 1) = ((m + 1 : Nat) : Int) from rfl, cut_from]]
    walk_at "go1"
    obtain ⟨c, hc⟩ : ∃ c : Nat, (if (301 : Int) > (wm.1 : Int) then (301 : Int) else (wm.1 : Int)) + (r : Int) = c := ⟨((if (301 : Int) > (wm.1 : Int) then (301 : Int) else (wm.1 : Int)) + (r : Int)).toNat, by split <;> omega⟩
    have hwm1 : (wm.1 : Int) ≤ 909 := by have := hwmb.1; have := hwmb.2.2; omega
    rw [hc]
    rw [show (ws.take m).map rowD ++ [D.tup [natD wm.1, D.int (c : Int)]] ++ (ws.drop (m + 1)).map rowD = (ws.take m ++ [(wm.1, c)] ++ ws.drop (m + 1)).map rowD by rw [List.map_append, List.map_append]; rfl]
    exact hnx _ _ ⟨c, cs, n, by split at hc <;> omega, by split at hc <;> omega, by split at hc <;> omega, rfl, rfl, g⟩
  rintro ρ M ⟨c, cs, n, hc1, hc2, hc3, rfl, rfl, g⟩
  obtain ⟨lt, hltd⟩ : ∃ lt, lt = ws.take m ++ [(wm.1, c)] ++ ws.drop (m + 1) := ⟨_, rfl⟩
  have hltl : lt.length = t.length + 1 := by
    rw [hltd, List.length_append, List.length_append, List.length_take, List.length_drop, List.length_singleton]
    omega
  have hltb : ∀ w ∈ lt, w.1 ≤ w.2 ∧ w.2 ≤ 1000000 := fun w hw => by
    have hB : ∀ w ∈ ws, w.1 ≤ w.2 ∧ w.2 ≤ 1000000 := fun w hw => ⟨(hws w hw).1, by have := (hws w hw).2.2; omega⟩
    rw [hltd] at hw
    rcases List.mem_append.mp hw with z | z
    · rcases List.mem_append.mp z with z | z
      · exact hB w (List.mem_of_mem_take z)
      · rw [List.mem_singleton.mp z]
        exact ⟨hc1, by show c ≤ _; omega⟩
    · exact hB w (List.mem_of_mem_drop z)
  have hltm : (wm.1, c) ∈ lt := by rw [hltd]; simp
  rw [← hltd]
  refine seq_mid (fun ρ M' => ρ = R28 ns done.length (some (treeD t)) (some (.tup (ws.map rowD))) (some (natD wm.1)) (some (natD s)) (some (natD m)) (some (.tup (lt.map rowD))) x9 x10 x11 ∧ M' = dkd cs n ++ R) (fun nx hnx => ?_) ?_
  · unfold R28
    walk_at "go1"
    refine ⟨t, lt.map clO, .lst [.str "large", .int 300], by rw [cl_owD], ht, by rw [List.length_map]; exact hltl, cl_hos fun w hw => (hltb w hw).1, cl_hob hltb, (sh_two (n := 30) ((Sh.str (n := 30) (by decide +kernel))) ((Sh.int (i := 300) (by decide)).up (by decide) (by decide))).up (by decide) (by decide), .inr (.inl ⟨lt, rfl, ⟨_, hltm, by show 300 < c; omega⟩, rfl⟩), ?_⟩
    walk_at "go1"
    exact hnx _ _ ⟨rfl, rfl⟩
  rintro ρ M ⟨rfl, rfl⟩
  obtain ⟨ls, hls⟩ : ∃ ls, lt[s]? = some ls := ⟨_, List.getElem?_eq_getElem (by omega)⟩
  refine seq_mid (fun ρ M' => ρ = R28 ns done.length (some (treeD t)) (some (.tup (ws.map rowD))) (some (natD wm.1)) (some (natD s)) (some (natD m)) (some (.tup (((lt.take s).map clO ++ [(ls.1, none)] ++ (lt.drop (s + 1)).map clO).map owD))) x9 x10 x11 ∧ M' = dkd cs n ++ R) (fun nx hnx => ?_) ?_
  · unfold R28
    have htk : (lt.take s).length ≤ lt.length := by rw [List.length_take]; omega
    have hdk : (lt.drop (s + 1)).length ≤ lt.length := by rw [List.length_drop]; omega
    walk_at "go1"
    rw [show cut (lt.map rowD) none (some (s : Int)) = (lt.take s).map rowD by rw [cut_map, cut_to]]
    walk_at "go1"
    rw [map_at (k := s) rfl hls]
    walk_at "go1"
    rw [show cut (lt.map rowD) (some ((s : Int) + 1)) none = (lt.drop (s + 1)).map rowD by rw [cut_map, show ((s : Int) + 1) = ((s + 1 : Nat) : Int) from rfl, cut_from]]
    rw [show (lt.take s).map rowD ++ [D.tup [D.int (ls.1 : Int), D.non]] ++ (lt.drop (s + 1)).map rowD = ((lt.take s).map clO ++ [(ls.1, none)] ++ (lt.drop (s + 1)).map clO).map owD by rw [List.map_append, List.map_append, cl_owD, cl_owD]; rfl]
    refine ⟨by rw [List.length_map]; omega, ?_⟩
    exact hnx _ _ ⟨rfl, rfl⟩
  rintro ρ M ⟨rfl, rfl⟩
  obtain ⟨os, hos⟩ : ∃ os, os = (lt.take s).map clO ++ [(ls.1, none)] ++ (lt.drop (s + 1)).map clO := ⟨_, rfl⟩
  have hosm : ∀ q ∈ os, q = (ls.1, none) ∨ q ∈ lt.map clO := fun q hq => by
    rw [hos] at hq
    rcases List.mem_append.mp hq with z | z
    · rcases List.mem_append.mp z with z | z
      · exact .inr (List.map_subset _ (List.take_subset _ _) z)
      · exact .inl (List.mem_singleton.mp z)
    · exact .inr (List.map_subset _ (List.drop_subset _ _) z)
  have hosl : os.length = t.length + 1 := by
    rw [hos, List.length_append, List.length_append, List.length_map, List.length_map, List.length_take, List.length_drop, List.length_singleton]
    omega
  have hs1 : ((lt.take s).map clO).length = s := by rw [List.length_map, List.length_take]; omega
  have hosn : os[s]? = some (ls.1, none) := by
    rw [hos, List.append_assoc, List.getElem?_append_right (by omega), hs1, Nat.sub_self]
    rfl
  have hosf : ∀ j, j < s → ∀ q : Nat × Option Nat, os[j]? = some q → q.2 ≠ none := fun j hj q hq => by
    rw [hos, List.append_assoc, List.getElem?_append_left (by omega)] at hq
    obtain ⟨w, hw, rfl⟩ := List.mem_map.mp (List.mem_of_getElem? hq)
    exact fun h => by cases h
  rw [← hos]
  unfold R28
  walk_at "go1"
  refine ⟨t, os, .lst [.str "last", natD s], rfl, ht, hosl, fun a b hm => ?_, fun q hq => ?_, ?_, .inl ⟨s, ls.1, hosn, hosf, rfl⟩, ?_⟩
  · rcases hosm _ hm with z | z
    · cases z
    · exact cl_hos (fun w hw => (hltb w hw).1) a b z
  · rcases hosm _ hq with z | z
    · rw [z]
      have := hltb ls (List.mem_of_getElem? hls)
      exact ⟨by show ls.1 ≤ _; omega, fun b e => by cases e⟩
    · exact cl_hob hltb q z
  · exact (sh_two (n := 30) ((Sh.str (n := 30) (by decide +kernel))) ((sh_nat (n := s) (by omega)).up (by decide) (by decide))).up (by decide) (by decide)
  walk_at "go1"
  exact ⟨by rw [← e]; simp, cs, n, R, _, _, _, _, _, _, _, _, _, _, rfl, rfl, g.le (by omega)⟩
theorem sp_start : ∀ (K : PySem.W.Frag) (H : Hp) (a : Addr) (ns : List Int), ns.length ≤ 63 → (∀ p ∈ Tk K, H p.1 = some (.tbl #[])) → SqL K H a (ns.map V.int) → spOf K spLaw [.ref a] H (fun v _ => v = .bl true) fun _ _ _ => False := fun K H a ns hl hT hS => scr_start hT hS fun Q hQ E' => ⟨ns, rfl, rfl, hl, hQ⟩
theorem law_binds {K : PySem.W.Frag} {f : Addr} {fd : FuncData} (F : Fun K "law" "law" s_law f fd) (s : Shared) (v : Value) : BindsTo s fd ⟨[v], []⟩ [("_law_script", v)] := by
  obtain ⟨oc, od, kV, doc, pm, an, cdv, ct, osl, rfl, _⟩ := F.ex
  exact .of_eq rfl
end
theorem all_mk {P : Program} {w : World} {K : PySem.W.Frag} {h : Heap} {mg : Str → Option Value} {fa : Addr} (X : K.In h) (G : h.Ns mainGlobals mg) (hfa : mg "law" = some (.ref fa)) (c : SaysH hCk hFn hTs w K)
    : ∃ fd : FuncData, (∀ (s : Shared) (v : Value), BindsTo s fd ⟨[v], []⟩ [("_law_script", v)]) ∧ ∀ base : Heap, K.In base → base.Ns mainGlobals mg → FnG P w K mg base (CXd P w) LEVEL fa fd ["_law_script"] (spOf K spLaw) := by
  have gs_ : gsB K = true := (c.fact 37 (f := gsB) (by kernel_rfl))
  have h_NoLast : mg "NoLast" = some (.ref (He.ga K "NoLast")) := He.glo_ok X G (c.fact 39 (f := fun K => (He.Fa.glo "NoLast").ok K) (by kernel_rfl))
  have e_NoLast : cls mg "NoLast" = He.ga K "NoLast" := cls_of h_NoLast
  have h_FallError : mg "FallError" = some (.ref (He.ga K "FallError")) := He.glo_ok X G (c.fact 40 (f := fun K => (He.Fa.glo "FallError").ok K) (by kernel_rfl))
  have e_FallError : cls mg "FallError" = He.ga K "FallError" := cls_of h_FallError
  have h_TooLarge : mg "TooLarge" = some (.ref (He.ga K "TooLarge")) := He.glo_ok X G (c.fact 41 (f := fun K => (He.Fa.glo "TooLarge").ok K) (by kernel_rfl))
  have e_TooLarge : cls mg "TooLarge" = He.ga K "TooLarge" := cls_of h_TooLarge
  have h_BadPushes : mg "BadPushes" = some (.ref (He.ga K "BadPushes")) := He.glo_ok X G (c.fact 42 (f := fun K => (He.Fa.glo "BadPushes").ok K) (by kernel_rfl))
  have e_BadPushes : cls mg "BadPushes" = He.ga K "BadPushes" := cls_of h_BadPushes
  have h_Conflict : mg "Conflict" = some (.ref (He.ga K "Conflict")) := He.glo_ok X G (c.fact 43 (f := fun K => (He.Fa.glo "Conflict").ok K) (by kernel_rfl))
  have e_Conflict : cls mg "Conflict" = He.ga K "Conflict" := cls_of h_Conflict
  have h_NoTable : mg "NoTable" = some (.ref (He.ga K "NoTable")) := He.glo_ok X G (c.fact 44 (f := fun K => (He.Fa.glo "NoTable").ok K) (by kernel_rfl))
  have e_NoTable : cls mg "NoTable" = He.ga K "NoTable" := cls_of h_NoTable
  have x_NoLast := c.exc gs_ 45 46 15 (eb := .value) (C := "NoLast") (f := "mark") (q := "NoLast.__init__") (st := si_NoLast) (by kernel_rfl) (by kernel_rfl) (by kernel_rfl) sci_NoLast ⟨_, _, _, _, rfl⟩ (.inl rfl) (.inl rfl) (fun _ _ _ _ _ _ us hl => match us, hl with | [_, _], _ => rfl) (by decide) (by decide)
  have x_TooLarge := c.exc gs_ 51 52 16 (eb := .value) (C := "TooLarge") (f := "bound") (q := "TooLarge.__init__") (st := si_TooLarge) (by kernel_rfl) (by kernel_rfl) (by kernel_rfl) sci_TooLarge ⟨_, _, _, _, rfl⟩ (.inl rfl) (.inl rfl) (fun _ _ _ _ _ _ us hl => match us, hl with | [_, _], _ => rfl) (by decide) (by decide)
  have T : Tp K mg := ⟨⟨He.free_ok X G (c.fact 0 (f := fun K => (He.Fa.free "abs").ok K) (by kernel_rfl)), He.free_ok X G (c.fact 1 (f := fun K => (He.Fa.free "all").ok K) (by kernel_rfl)), He.free_ok X G (c.fact 2 (f := fun K => (He.Fa.free "any").ok K) (by kernel_rfl)), He.free_ok X G (c.fact 3 (f := fun K => (He.Fa.free "bool").ok K) (by kernel_rfl)), He.free_ok X G (c.fact 4 (f := fun K => (He.Fa.free "dict").ok K) (by kernel_rfl)), He.free_ok X G (c.fact 5 (f := fun K => (He.Fa.free "enumerate").ok K) (by kernel_rfl)), He.free_ok X G (c.fact 6 (f := fun K => (He.Fa.free "int").ok K) (by kernel_rfl)), He.free_ok X G (c.fact 7 (f := fun K => (He.Fa.free "isinstance").ok K) (by kernel_rfl)), He.free_ok X G (c.fact 8 (f := fun K => (He.Fa.free "len").ok K) (by kernel_rfl)), He.free_ok X G (c.fact 9 (f := fun K => (He.Fa.free "list").ok K) (by kernel_rfl)), He.free_ok X G (c.fact 10 (f := fun K => (He.Fa.free "max").ok K) (by kernel_rfl)), He.free_ok X G (c.fact 11 (f := fun K => (He.Fa.free "min").ok K) (by kernel_rfl)), He.free_ok X G (c.fact 12 (f := fun K => (He.Fa.free "range").ok K) (by kernel_rfl)), He.free_ok X G (c.fact 13 (f := fun K => (He.Fa.free "repr").ok K) (by kernel_rfl)), He.free_ok X G (c.fact 14 (f := fun K => (He.Fa.free "set").ok K) (by kernel_rfl)), He.free_ok X G (c.fact 15 (f := fun K => (He.Fa.free "sorted").ok K) (by kernel_rfl)), He.free_ok X G (c.fact 16 (f := fun K => (He.Fa.free "str").ok K) (by kernel_rfl)), He.free_ok X G (c.fact 17 (f := fun K => (He.Fa.free "sum").ok K) (by kernel_rfl)), He.free_ok X G (c.fact 18 (f := fun K => (He.Fa.free "tuple").ok K) (by kernel_rfl)), He.free_ok X G (c.fact 19 (f := fun K => (He.Fa.free "zip").ok K) (by kernel_rfl)), He.free_ok X G (c.fact 20 (f := fun K => (He.Fa.free "LookupError").ok K) (by kernel_rfl)), He.free_ok X G (c.fact 21 (f := fun K => (He.Fa.free "ValueError").ok K) (by kernel_rfl))⟩,
    c.df X G 22 0 (by kernel_rfl) (by kernel_rfl),
    c.df X G 23 1 (by kernel_rfl) (by kernel_rfl),
    c.df X G 24 2 (by kernel_rfl) (by kernel_rfl),
    c.df X G 25 3 (by kernel_rfl) (by kernel_rfl),
    c.df X G 26 4 (by kernel_rfl) (by kernel_rfl),
    c.df X G 27 5 (by kernel_rfl) (by kernel_rfl),
    c.df X G 28 6 (by kernel_rfl) (by kernel_rfl),
    c.df X G 29 7 (by kernel_rfl) (by kernel_rfl),
    c.df X G 30 8 (by kernel_rfl) (by kernel_rfl),
    c.df X G 31 9 (by kernel_rfl) (by kernel_rfl),
    c.df X G 32 10 (by kernel_rfl) (by kernel_rfl),
    c.df X G 33 11 (by kernel_rfl) (by kernel_rfl),
    c.df X G 34 12 (by kernel_rfl) (by kernel_rfl),
    c.df X G 35 13 (by kernel_rfl) (by kernel_rfl),
    c.df X G 36 14 (by kernel_rfl) (by kernel_rfl),
    He.int_ok X G (c.fact 38 (f := fun K => (He.Fa.int "SMALL_TICK" 300).ok K) (by kernel_rfl)),
    by rw [e_NoLast]; exact h_NoLast,
    by rw [e_FallError]; exact h_FallError,
    by rw [e_TooLarge]; exact h_TooLarge,
    by rw [e_BadPushes]; exact h_BadPushes,
    by rw [e_Conflict]; exact h_Conflict,
    by rw [e_NoTable]; exact h_NoTable,
    by rw [e_NoLast]; exact x_NoLast.1,
    by rw [e_NoLast]; exact x_NoLast.2,
    by rw [e_NoLast, e_FallError]; exact exmB_ok (x := .own "FallError") (c.fact 47 (f := exmB "NoLast" (.own "FallError") true) (by kernel_rfl)),
    by rw [e_NoLast]; exact kitHB_ok (xs := [.own "NoLast"]) (c.fact 48 (f := kitHB "NoLast" [.own "NoLast"] true) (by kernel_rfl)),
    by rw [e_NoLast, e_TooLarge]; exact kitHB_ok (xs := [.own "TooLarge"]) (c.fact 49 (f := kitHB "NoLast" [.own "TooLarge"] false) (by kernel_rfl)),
    by rw [e_NoLast, e_BadPushes, e_Conflict, e_NoTable]; exact kitHB_ok (xs := [.own "BadPushes", .own "Conflict", .own "NoTable", .blt "LookupError"]) (c.fact 50 (f := kitHB "NoLast" [.own "BadPushes", .own "Conflict", .own "NoTable", .blt "LookupError"] false) (by kernel_rfl)),
    by rw [e_TooLarge]; exact x_TooLarge.1,
    by rw [e_TooLarge]; exact x_TooLarge.2,
    by rw [e_TooLarge, e_FallError]; exact exmB_ok (x := .own "FallError") (c.fact 53 (f := exmB "TooLarge" (.own "FallError") true) (by kernel_rfl)),
    by rw [e_TooLarge, e_NoLast]; exact kitHB_ok (xs := [.own "NoLast"]) (c.fact 54 (f := kitHB "TooLarge" [.own "NoLast"] false) (by kernel_rfl)),
    by rw [e_TooLarge]; exact kitHB_ok (xs := [.own "TooLarge"]) (c.fact 55 (f := kitHB "TooLarge" [.own "TooLarge"] true) (by kernel_rfl)),
    by rw [e_TooLarge, e_BadPushes, e_Conflict, e_NoTable]; exact kitHB_ok (xs := [.own "BadPushes", .own "Conflict", .own "NoTable", .blt "LookupError"]) (c.fact 56 (f := kitHB "TooLarge" [.own "BadPushes", .own "Conflict", .own "NoTable", .blt "LookupError"] false) (by kernel_rfl))⟩
  obtain ⟨f, fd, F, hm⟩ := T.d_law.ex
  rw [hfa] at hm
  cases hm
  exact ⟨fd, fun s v => law_binds F s v, fun base _ _ => law_fn T F base⟩
end Law
open PySem PySem.W PySem.Calls PyProof.Rows in
set_option maxRecDepth 100000 in
set_option maxHeartbeats 0 in
theorem PySem.Challenge.cw_marktopples_k28_tables_counted_holds : PySem.Challenge.rw_marktopples_k28_tables_counted.Holds := by
  w_on; o_law
  refine HandSHeadRun.head_any (r := (OpenLaw.row PySem.Challenge.rw_marktopples_k28_tables_counted)) (q := view (OpenLaw.row PySem.Challenge.rw_marktopples_k28_tables_counted).prog [24]) (H := Law.hHook) (ob := Law.hOb) (M := 12000) (loose := Law.hLoose) (d := HandSHeadRun.topDef (OpenLaw.row PySem.Challenge.rw_marktopples_k28_tables_counted).prog 24) (kwd := []) Law.hOb_eq (by kernel_rfl) (fun s => by kernel_rfl) Law.hRun (by kernel_rfl) (by kernel_rfl) (by kernel_rfl) (by rfl) (by first | assumption | decide +kernel) (by decide +kernel) ⟨rfl, rfl, rfl, rfl, rfl, by decide +kernel⟩ ?hw ?hc
  case hw => w_witness2
  case hc =>
    refine DL.walkGE (l := PySem.Challenge.rw_marktopples_k28_tables_counted) (n := 63) (k := Law.LEVEL) (x := "_law_script") (sp := fun K => DL.spOf K DL.spLaw) rfl (by decide) (by kernel_rfl) ⟨rfl, by decide, by decide⟩ ?F Law.sp_start
    intro w mg fa h Y G hmg0
    obtain ⟨K, KX, c, TH⟩ := Y
    have e : (HandSHeadRun.topDef (OpenLaw.row PySem.Challenge.rw_marktopples_k28_tables_counted).prog 24).name = ("law" : PySem.Str) := by kernel_rfl
    rw [e] at hmg0
    obtain ⟨fd, hb, hF⟩ := Law.all_mk KX G hmg0 c
    exact ⟨K, fd, KX, TH, hb, hF⟩
