import PyProof.Rows.All
import Wide.All
import OpenK.AllK
import Wide.FinOn
import HandS.ForMost
import HandS.ForExc
import HandS.HotCalls
import HandS.ExcInit
import HandS.ExcInitHot
import HandS.ExcField
import KE.KExcIs
import HandS.TupAny
import HandS.Star
import HandS.IsInst
import HandS.TupMul
import HandS.Zip
import HandS.Style
import KE.GoesEnum
import HandS.Conv
import HandS.IsInst
import HandS.TupLe
import KE.GoesMore
import KE.KDictZip
import HandS.GenCall
import HandS.GenYield
import HandS.GenList
import PyProof.ZipIter
import PyProof.MeetsSeq2
import HandS.Zip
import KE.KStar
import HandS.Star
import HandS.Deep
import HandS.MakeKwOnly
import PyProof.RowDictHeap
import HandS.Property
import PyProof.StrLawsRepr
import KE.KUnpackStar
import PyProof.RulesMatch
import KE.KCallOwn
import HandS.FStr
import KE.KStateDown
import HandS.Head0
import HandS.Head1
import HandS.Head2
import HandS.HeadHook1
import HandS.HeadHook2
import HandS.HeadHook3
import KE.KExcInit
import PyProof.ExcBaseAll.LookupError
import HandS.SetFor
import HandS.Text
import HandS.Iter
import HandS.Flow
import HandS.Codes
import HandS.HeadNt
import HandS.MethStar
import KE.KSuper
import PyProof.Rows.RegReprOcc
import KE.KIntText
import KE.DataMinMax
import KE.DataFind
import KE.KOpsOwn
import PyProof.InstNe
import HandS.RaiseFrom
import HandS.Finally
import HandS.Lambda
import HandS.Nested
import KE.KNestM
import KE.KWithOwn
import HandS.Wide
import KE.SortData
import HandS.Strs
import HandS.TupSets
import PyProof.AutoSeq1
import PyProof.EqKinds
import PyProof.FString3
import PyProof.Rows.StrIntSpec
import HandS.Replace
import HandS.ReplaceLit
import HandS.JoinGen
import KE.KDictDisplayH
import PyProof.Rows.TupDisplay
import PySem.Challenge.RW_marktopples_k61_unknown_commands
set_option Elab.async false
set_option linter.all false
set_option maxRecDepth 100000
namespace DL
open PySem PySem.Spec PyProof.Rows L2
def markObj (P : Addr) (q : Str) : Obj := { cls := .none, data := .fields #[.ref P, .str q 0] }
def markOf : Obj → Option (Addr × Str)
  | ⟨.none, none, .fields ⟨[.ref P, .str q _]⟩, _⟩ => some (P, q)
  | _ => none
def Tk (K : PySem.W.Frag) : List (Addr × Str) := K.filterMap fun q => markOf q.2
/-- a list of addresses, each written out -/
def frL {α : Type} : List Addr → (List Addr → α) → α
  | [], k => k []
  | a :: r, k => HandSHeadRun.frNat a fun a => frL r fun r => k (a :: r)
/-- a list, its cells written out -/
def frC {α β : Type} : List α → (List α → β) → β
  | [], k => k []
  | a :: r, k => frC r fun r => k (a :: r)
theorem frC_eq {α β : Type} : ∀ (l : List α) (k : List α → β), frC l k = k l
  | [], _ => rfl
  | a :: r, k => by
    show frC r (fun r => k (a :: r)) = _
    rw [frC_eq r]
def frObj {β : Type} (o : Obj) (k : Obj → β) : β := match o with
  | ⟨c, d, .dict es n, sl⟩ => frC es.toList fun l => k ⟨c, d, .dict ⟨l⟩ n, sl⟩
  | o => k o
theorem frObj_eq {β : Type} (o : Obj) (k : Obj → β) : frObj o k = k o := by
  obtain ⟨c, d, dt, sl⟩ := o
  cases dt <;> first | rfl | exact frC_eq _ _
/-- the objects at these addresses -/
def frK {β : Type} (g : Addr → Option Obj) : List Addr → (PySem.W.Frag → β) → β
  | [], k => k []
  | a :: r, k => match g a with
    | some o => frObj o fun o => frK g r fun K => k ((a, o) :: K)
    | none => frK g r k
theorem frK_eq {β : Type} (g : Addr → Option Obj) : ∀ (as : List Addr) (k : PySem.W.Frag → β), frK g as k = k (He.frG g as)
  | [], _ => rfl
  | a :: r, k => by
    show (match g a with
      | some o => frObj o fun o => frK g r fun K => k ((a, o) :: K)
      | none => frK g r k) = _
    unfold He.frG
    rw [List.filterMap_cons]
    cases e : g a with
    | some o =>
      show frObj o (fun o => frK g r fun K => k ((a, o) :: K)) = _
      rw [frObj_eq, frK_eq g r] <;> rfl
    | none =>
      show frK g r k = _
      rw [frK_eq g r] <;> rfl
/-- what an object names: a dict's entries of these names alone, a property's getter -/
def refsM (ms : List Str) (o : Obj) : List Addr := match o.data with
  | .func fd => He.refV fd.code ++ He.refV fd.kwdefaults ++ fd.closure.map (·.2)
  | .cls cd => cd.ns :: cd.mro.flatMap He.refV
  | .dict es _ => es.toList.flatMap fun e => match ms.any fun m => e.key.isStr m with
    | true => He.refV e.val
    | false => []
  | .fields vs => (match o.cls with
    | .type t => (match (decide (t = "property") || decide (t = "classmethod")) with
      | true => vs.toList.flatMap He.refV
      | false => [])
    | _ => [])
  | _ => []
def memA (a : Addr) : List Addr → Bool
  | [] => false
  | b :: r => Nat.beq a b || memA a r
def addA : List Addr → List Addr → List Addr
  | [], acc => acc
  | a :: r, acc => match memA a acc with
    | true => addA r acc
    | false => addA r (acc ++ [a])
/-- n steps on from these addresses -/
def walkA (g : Addr → Option Obj) (ms : List Str) : Nat → List Addr → List Addr
  | 0, as => as
  | n + 1, as => frL (addA (as.flatMap fun a => match g a with
    | some o => refsM ms o
    | none => []) as) fun as => walkA g ms n as
/-- the module's names xs, and what is reached from them -/
def asH (g : Addr → Option Obj) (xs ms : List Str) : List Addr := frK g [mainGlobals] fun K0 => frL (xs.map fun x => He.ga K0 x) fun as => sysModules :: cStatics :: mainGlobals :: walkA g ms 4 (addA as [])
structure HDef where
  at_ : PySem.W.Frag → Addr
  name : Str
  qual : Str
  st : Stmt
  kwd : List (Str × He.Dv) := []
  clo : List Str := []
def HDef.kws (K : PySem.W.Frag) (d : HDef) : List (Str × V) := d.kwd.map fun q => (q.1, q.2.v K)
def fnH (K : PySem.W.Frag) (a : Addr) : He.FnW := match K.lookup a with
  | some ⟨_, _, .func fd, _⟩ => some (fd.name, fd.qualname, fd.params, fd.body, fd.scope, fd.globals, fd.closure.map fun q => (q.1, 0), fd.builtins)
  | _ => none
def HDef.val (d : HDef) : He.FnW := some (d.name, d.qual, defArgs d.st, .stmts (defBody d.st), defScope d.st, mainGlobals, d.clo.map fun x => (x, 0), builtinsNs)
def HDef.ok (K : PySem.W.Frag) (d : HDef) : Bool := PySem.W.keepIn K (.ref (d.at_ K)) && (match K.lookup (d.at_ K) with
  | some ⟨_, _, .func fd, _⟩ => PySem.W.codeIn K fd.code d.qual && (He.dflB K fd.defaults [] && He.kwdB K fd.kwdefaults (d.kws K))
  | _ => false)
theorem HDef.funD {K : PySem.W.Frag} {d : HDef} (hcl : d.clo = []) (e : fnH K (d.at_ K) = d.val) (c : d.ok K = true) : ∃ fd, FunD K d.name d.qual (defArgs d.st) (defBody d.st) (defScope d.st) [] (d.kws K) (d.at_ K) fd := by
  obtain ⟨kp, c2⟩ := He.ba c
  unfold fnH at e
  cases q : K.lookup (d.at_ K) with
  | none =>
    rw [q] at c2
    cases c2
  | some o =>
    obtain ⟨oc, od, dt, osl⟩ := o
    rw [q] at c2 e
    cases dt with
    | func fd =>
      obtain ⟨n1, n2, n3, n4, n5, n6, n7, n8, n9, n10, n11, n12, n13, n14, n15⟩ := fd
      have e2 : (some (n1, n2, n3, n4, n5, n6, n7.map fun q => (q.1, 0), n15) : He.FnW) = some (d.name, d.qual, defArgs d.st, .stmts (defBody d.st), defScope d.st, mainGlobals, d.clo.map fun x => (x, 0), builtinsNs) := e
      simp only [Option.some.injEq, Prod.mk.injEq] at e2
      obtain ⟨h1, h2, h3, h4, h5, h6, h7', h8⟩ := e2
      have h7 : n7 = [] := by
        rw [hcl, List.map_nil] at h7'
        exact List.map_eq_nil_iff.mp h7'
      subst h1 h2 h3 h4 h5 h6 h7 h8
      have c3 : (PySem.W.codeIn K n13 d.qual && (He.dflB K n8 [] && He.kwdB K n9 (d.kws K))) = true := c2
      obtain ⟨k1, k2⟩ := He.ba c3
      obtain ⟨k3, k4⟩ := He.ba k2
      exact ⟨_, ⟨oc, od, n8, n9, n10, n11, n12, n13, n14, osl, rfl, q, k1, He.dflB_ok k3, He.kwdB_ok k4⟩, kp⟩
    | _ => cases c2
theorem fun_ofD {K : PySem.W.Frag} {x qual : Str} {st : Stmt} {kws : List (Str × V)} {f : Addr} {fd : FuncData} (F : FunD K x qual (defArgs st) (defBody st) (defScope st) [] kws f fd) : Fun K x qual st f fd := by
  obtain ⟨oc, od, dV, kV, doc, pm, an, cdv, ct, osl, e, lk, hc, hd, _⟩ := F.ex
  obtain rfl : dV = .none := by
    rcases hd with ⟨_, h⟩ | ⟨h, _⟩
    · exact h
    · exact absurd rfl h
  exact ⟨⟨oc, od, kV, doc, pm, an, cdv, ct, osl, e, lk, hc⟩, F.kp⟩
/-- objects that look like marks are left out -/
def noMk {β : Type} : PySem.W.Frag → (PySem.W.Frag → β) → β
  | [], k => k []
  | q :: r, k => match markOf q.2 with
    | none => noMk r fun K => k (q :: K)
    | some _ => noMk r k
def cutMk : PySem.W.Frag → PySem.W.Frag
  | [] => []
  | q :: r => match markOf q.2 with
    | none => q :: cutMk r
    | some _ => cutMk r
theorem noMk_eq {β : Type} : ∀ (K : PySem.W.Frag) (k : PySem.W.Frag → β), noMk K k = k (cutMk K)
  | [], _ => rfl
  | q :: r, k => by
    unfold noMk cutMk
    cases markOf q.2 with
    | none => exact noMk_eq r _
    | some _ => exact noMk_eq r _
def appMk {β : Type} : PySem.W.Frag → PySem.W.Frag → (PySem.W.Frag → β) → β
  | [], m, k => k m
  | q :: r, m, k => appMk r m fun K => k (q :: K)
theorem appMk_eq {β : Type} : ∀ (K m : PySem.W.Frag) (k : PySem.W.Frag → β), appMk K m k = k (K ++ m)
  | [], _, _ => rfl
  | q :: r, m, k => by
    unfold appMk
    rw [appMk_eq r] <;> rfl
/-- a def's code object, its table, the name of its lambdas -/
def tabAt (K : PySem.W.Frag) (f : Addr) : Option (Addr × Addr × Str) := match K.lookup f with
  | some ⟨_, _, .func fd, _⟩ => (match fd.code with
    | .ref c => (match K.lookup c with
      | some ⟨_, _, .fields vs, _⟩ => (match (vs[11]? : Option Value) with
        | some (.ref P) => some (c, P, fd.qualname ++ ".<locals>." ++ "<lambda>")
        | _ => none)
      | _ => none)
    | _ => none)
  | _ => none
theorem tabAt_in {K : PySem.W.Frag} {f c P : Addr} {q : Str} (h : tabAt K f = some (c, P, q)) : ∃ o, K.lookup c = some o := by
  unfold tabAt at h
  split at h
  · split at h
    · split at h
      · next e2 =>
        split at h
        · cases h
          exact ⟨_, e2⟩
        · cases h
      · cases h
    · cases h
  · cases h
def frMk {β : Type} (K : PySem.W.Frag) : List (PySem.W.Frag → Addr) → (PySem.W.Frag → β) → β
  | [], k => k []
  | a :: r, k => match tabAt K (a K) with
    | some (c, P, q) => HandSHeadRun.frNat c fun c => HandSHeadRun.frNat P fun P => frMk K r fun ms => k ((c, markObj P q) :: ms)
    | none => frMk K r k
def mksOf (K : PySem.W.Frag) : List (PySem.W.Frag → Addr) → PySem.W.Frag
  | [] => []
  | a :: r => match tabAt K (a K) with
    | some (c, P, q) => (c, markObj P q) :: mksOf K r
    | none => mksOf K r
theorem frMk_eq {β : Type} (K : PySem.W.Frag) : ∀ (l : List (PySem.W.Frag → Addr)) (k : PySem.W.Frag → β), frMk K l k = k (mksOf K l)
  | [], _ => rfl
  | a :: r, k => by
    unfold frMk mksOf
    split
    · rw [HandSHeadRun.frNat_eq, HandSHeadRun.frNat_eq, frMk_eq K r]
    · exact frMk_eq K r _
def mkK (lm : List (PySem.W.Frag → Addr)) (K : PySem.W.Frag) : PySem.W.Frag := cutMk K ++ mksOf (cutMk K) lm
def frAll {β : Type} (lm : List (PySem.W.Frag → Addr)) (K : PySem.W.Frag) (k : PySem.W.Frag → β) : β := noMk K fun K1 => frMk K1 lm fun ms => appMk K1 ms k
theorem frAll_eq {β : Type} (lm : List (PySem.W.Frag → Addr)) (K : PySem.W.Frag) (k : PySem.W.Frag → β) : frAll lm K k = k (mkK lm K) := by
  unfold frAll mkK
  rw [noMk_eq, frMk_eq, appMk_eq]
theorem cutMk_mem {q : Addr × Obj} : ∀ {K : PySem.W.Frag}, q ∈ cutMk K → q ∈ K
  | [], h => h
  | p :: r, h => by
    unfold cutMk at h
    split at h
    · rcases List.mem_cons.mp h with z | z
      · rw [z]; exact List.mem_cons_self
      · exact List.mem_cons_of_mem _ (cutMk_mem z)
    · exact List.mem_cons_of_mem _ (cutMk_mem h)
theorem mksOf_mem {K : PySem.W.Frag} {a : Addr} {o : Obj} : ∀ {l : List (PySem.W.Frag → Addr)}, (a, o) ∈ mksOf K l → ∃ u, K.lookup a = some u
  | [], h => by cases h
  | x :: r, h => by
    unfold mksOf at h
    split at h
    · next c P q e =>
      rcases List.mem_cons.mp h with z | z
      · cases z
        exact tabAt_in e
      · exact mksOf_mem z
    · exact mksOf_mem h
theorem look_mem {a : Addr} {o : Obj} : ∀ {l : List (Addr × Obj)}, l.lookup a = some o → (a, o) ∈ l
  | [], h => by cases h
  | (b, u) :: r, h => by
    rw [List.lookup_cons] at h
    split at h
    · next e =>
      cases h
      have e2 : a = b := by simpa using e
      rw [e2]
      exact List.mem_cons_self
    · exact List.mem_cons_of_mem _ (look_mem h)
theorem look_app {a : Addr} {o : Obj} : ∀ {l m : List (Addr × Obj)}, (l ++ m).lookup a = some o → l.lookup a = some o ∨ (l.lookup a = none ∧ m.lookup a = some o)
  | [], _, h => .inr ⟨rfl, h⟩
  | (b, u) :: r, m, h => by
    rw [List.cons_append, List.lookup_cons] at h
    rw [List.lookup_cons]
    split at h
    · exact .inl h
    · exact look_app h
theorem mkK_in {lm : List (PySem.W.Frag → Addr)} {K : PySem.W.Frag} {h : Heap} (X : ∀ a o, (a, o) ∈ K → h.get? a = some o) : (mkK lm K).In h := fun a o e => by
  rcases look_app (show (cutMk K ++ mksOf (cutMk K) lm).lookup a = some o from e) with e | ⟨e1, e2⟩
  · exact X a o (cutMk_mem (look_mem e))
  · obtain ⟨u, e3⟩ := mksOf_mem (look_mem e2)
    rw [e1] at e3
    cases e3
theorem frG_memb {g : Addr → Option Obj} {as : List Addr} {a : Addr} {o : Obj} (h : (a, o) ∈ He.frG g as) : g a = some o := by
  unfold He.frG at h
  obtain ⟨b, _, e⟩ := List.mem_filterMap.mp h
  cases hb : g b with
  | none => rw [hb] at e; cases e
  | some u => rw [hb] at e; cases e; exact hb
def isTab : Obj → Bool
  | ⟨.none, none, .fields ⟨[]⟩, ⟨[]⟩⟩ => true
  | _ => false
theorem isTab_eq {o : Obj} (h : isTab o = true) : o = { cls := .none, data := .fields #[] } := by
  unfold isTab at h
  split at h
  · rfl
  · cases h
def tbGood (g : Addr → Option Obj) (K : PySem.W.Frag) (p : Addr × Str) : Bool := (match g p.1 with
  | some o => isTab o
  | none => false) && ((K.lookup p.1).isNone && K.any fun e => PySem.W.codeHdIn K e.1 p.1)
def tbsGood (g : Addr → Option Obj) (K : PySem.W.Frag) : Bool := (Tk K).all (tbGood g K)
/-- the tables of the marks: empty, not known, each of a code object -/
def TabsH (K : PySem.W.Frag) (h : Heap) : Prop := ∀ p ∈ Tk K, h.get? p.1 = some { cls := .none, data := .fields #[] } ∧ K.lookup p.1 = none ∧ ∃ c, PySem.W.codeHdIn K c p.1 = true
theorem tbsGood_ok {K : PySem.W.Frag} {h : Heap} (e : tbsGood h.get? K = true) : TabsH K h := fun p hp => by
  obtain ⟨e1, e2⟩ := He.ba (List.all_eq_true.mp e p hp)
  obtain ⟨e3, e4⟩ := He.ba e2
  refine ⟨?_, Option.isNone_iff_eq_none.mp e3, ?_⟩
  · cases q : h.get? p.1 with
    | none => rw [q] at e1; cases e1
    | some o => rw [q] at e1; rw [isTab_eq e1]
  · obtain ⟨x, _, hx⟩ := List.any_eq_true.mp e4
    exact ⟨x.1, hx⟩
abbrev AlH : Type := Bool × List He.FnW × List (Option (List (Option (Str × Int))))
def obsH (ck : List (PySem.W.Frag → Bool)) (fn : List HDef) (ts : List He.Tab) (K : PySem.W.Frag) : AlH := ((ck.all fun f => f K) && fn.all fun d => d.ok K, fn.map fun d => fnH K (d.at_ K), ts.map fun t => He.dicW K (t.1 K))
def valH (fn : List HDef) (ts : List He.Tab) (w : World) : AlH := (true, fn.map HDef.val, ts.map fun t => some (He.keysIn w.params t.2))
def SaysH (ck : List (PySem.W.Frag → Bool)) (fn : List HDef) (ts : List He.Tab) (w : World) (K : PySem.W.Frag) : Prop := obsH ck fn ts K = valH fn ts w
def obsHG (xs ms : List Str) (lm : List (PySem.W.Frag → Addr)) (ck : List (PySem.W.Frag → Bool)) (fn : List HDef) (ts : List He.Tab) (g : Addr → Option Obj) : AlH × Bool := frK g (asH g xs ms) fun K0 => frAll lm K0 fun K => (obsH ck fn ts K, tbsGood g K)
def hookH (xs ms : List Str) (lm : List (PySem.W.Frag → Addr)) (ck : List (PySem.W.Frag → Bool)) (fn : List HDef) (ts : List He.Tab) : PySem.W.Hook where
  α := AlH × Bool
  obs := fun s => obsHG xs ms lm ck fn ts s.heap.get?
  val := fun w => (valH fn ts w, true)
  says := fun w h => ∃ K : PySem.W.Frag, K.In h ∧ SaysH ck fn ts w K ∧ TabsH K h
  of := fun w s e => by
    have e2 : (obsH ck fn ts (mkK lm (He.frG s.heap.get? (asH s.heap.get? xs ms))), tbsGood s.heap.get? (mkK lm (He.frG s.heap.get? (asH s.heap.get? xs ms)))) = (valH fn ts w, true) := by
      refine Eq.trans ?_ e
      show _ = frK s.heap.get? (asH s.heap.get? xs ms) fun K0 => frAll lm K0 fun K => (obsH ck fn ts K, tbsGood s.heap.get? K)
      rw [frK_eq, frAll_eq]
    exact ⟨_, mkK_in fun a o h => frG_memb h, congrArg (fun z : AlH × Bool => z.1) e2, tbsGood_ok (congrArg (fun z : AlH × Bool => z.2) e2)⟩
  keeps := fun _ _ _ ⟨K, hK, c, t⟩ k => ⟨K, PySem.W.Frag.In.keeps hK k, c, fun p hp => ⟨k _ _ (t p hp).1, (t p hp).2⟩⟩
theorem obsHG_eq {xs ms : List Str} {lm : List (PySem.W.Frag → Addr)} {ck : List (PySem.W.Frag → Bool)} {fn : List HDef} {ts : List He.Tab} {g : Addr → Option Obj} {s : Shared} (h : ∀ a, g a = s.heap.get? a) : obsHG xs ms lm ck fn ts g = (hookH xs ms lm ck fn ts).obs s := by
  have e : g = s.heap.get? := funext h
  rw [e] <;> rfl
/-- the statements of a class -/
def cdBody (s : Stmt) : List Stmt := match s with
  | .ClassDef _ _ _ b _ _ _ _ _ _ _ => b
  | _ => []
/-- a property: where its object is, its getter -/
def pgA (K : PySem.W.Frag) (C m : Str) : Addr := match PySem.W.recIn K (He.ma K (He.ga K C) m) "property" with
  | some (.ref g :: _) => g
  | _ => 0
def propB (C m : Str) (K : PySem.W.Frag) : Bool := He.eqO (PySem.W.findIn K (.ref (He.ga K C)) m) (some (some (.ref (He.ma K (He.ga K C) m)))) && (He.eqO (PySem.W.specialIn K (.ref (He.ma K (He.ga K C) m)) "__get__") (some (some (.builtin "property.__get__"))) &&
  (decide (PySem.W.takesIn K (.ref (He.ma K (He.ga K C) m)) = some true) && match PySem.W.recIn K (He.ma K (He.ga K C) m) "property" with
    | some (.ref _ :: _) => true
    | _ => false))
def gsB (K : PySem.W.Frag) : Bool := He.eqO (PySem.W.specialIn K (.builtin "object.__class__") "__get__") (some (some (.builtin "getset_descriptor.__get__"))) && decide (PySem.W.takesIn K (.builtin "object.__class__") = some true)
def incB (C : Str) (K : PySem.W.Frag) : Bool := (He.Fa.cls C).ok K && (He.eqO (PySem.W.findIn K (.ref (He.ga K C)) "__class__") (some (some (.builtin "object.__class__"))) && (decide (PySem.W.mroIn K (He.ga K C) (.type "object") = some true) && decide (PySem.W.subIn K (.ref (He.ga K C)) (.type "list") = some false)))
/-- the built-in class above it -/
inductive Eb where
  | value | lookup
def Eb.new : Eb → String
  | .value => "ValueError.__new__"
  | .lookup => "LookupError.__new__"
def Eb.bm : Eb → List Value
  | .value => [.type "ValueError", .type "Exception", .type "BaseException", .type "object"]
  | .lookup => [.type "LookupError", .type "Exception", .type "BaseException", .type "object"]
/-- a class of a name: own or built in -/
inductive Cn where
  | own (x : Str) | blt (t : String)
def Cn.v (K : PySem.W.Frag) : Cn → Value
  | .own x => .ref (He.ga K x)
  | .blt t => .type t
/-- looked at by a Bool (DLHH) -/
def kcB (C C' : Str) (b : Bool) (K : PySem.W.Frag) : Bool := decide (PySem.W.kitOne K (.ref (He.ga K C)) (.ref (He.ga K C')) = some b)
def ntB (C : Str) (K : PySem.W.Frag) : Bool := decide (PySem.W.subIn K (.ref (He.ga K C)) (.type "tuple") = some false)
end DL
namespace Law
open PySem PySem.Spec PyProof.Rows L2 DL
def topS (i : Nat) : Stmt := PySem.Challenge.pw_marktopples_k61_unknown_commands.main.body.getD i (.Pass ⟨0, 0, 0, 0⟩)
abbrev s__wall : Stmt := topS 0
abbrev s_error_name : Stmt := topS 20
abbrev s_is_number : Stmt := topS 28
abbrev s_is_row : Stmt := topS 29
abbrev s_tree_error : Stmt := topS 30
abbrev s_is_mark : Stmt := topS 31
abbrev s_marks_above : Stmt := topS 32
abbrev s_way_between : Stmt := topS 33
abbrev s_distance_between : Stmt := topS 34
abbrev s_is_tick : Stmt := topS 36
abbrev s_is_push : Stmt := topS 37
abbrev s_check_pushes : Stmt := topS 38
abbrev s_fall_at : Stmt := topS 39
abbrev s_falls_by : Stmt := topS 40
abbrev s_falls_of : Stmt := topS 41
abbrev s_neighbours_of : Stmt := topS 42
abbrev s_is_needed : Stmt := topS 43
abbrev s_needed_pushes : Stmt := topS 44
abbrev s_parse_number : Stmt := topS 49
abbrev s_parse_two : Stmt := topS 50
abbrev s_push_text : Stmt := topS 51
abbrev s_field_text : Stmt := topS 52
abbrev s_parse_rows : Stmt := topS 53
abbrev s_parse_field : Stmt := topS 54
abbrev s_is_within : Stmt := topS 61
abbrev s_is_edit : Stmt := topS 62
abbrev s_with_push : Stmt := topS 63
abbrev s_without_push : Stmt := topS 64
abbrev s_stretched : Stmt := topS 65
abbrev s_table_of : Stmt := topS 66
abbrev s__law_deck : Stmt := topS 70
abbrev s__law_draw : Stmt := topS 71
abbrev s__law_tree : Stmt := topS 72
abbrev s__law_pushes : Stmt := topS 73
abbrev s__law_state : Stmt := topS 74
abbrev s__law_odd : Stmt := topS 75
abbrev s__law_lines : Stmt := topS 76
abbrev s_law : Stmt := topS 77
abbrev s_Field___init__ : Stmt := (cdBody (topS 68)).getD 1 (.Pass ⟨0, 0, 0, 0⟩)
abbrev s_Field_tree : Stmt := (cdBody (topS 68)).getD 4 (.Pass ⟨0, 0, 0, 0⟩)
abbrev s_Field_pushes : Stmt := (cdBody (topS 68)).getD 5 (.Pass ⟨0, 0, 0, 0⟩)
abbrev s_Field_falls : Stmt := (cdBody (topS 68)).getD 6 (.Pass ⟨0, 0, 0, 0⟩)
abbrev s_Field___len__ : Stmt := (cdBody (topS 68)).getD 8 (.Pass ⟨0, 0, 0, 0⟩)
abbrev s_Field___eq__ : Stmt := (cdBody (topS 68)).getD 9 (.Pass ⟨0, 0, 0, 0⟩)
abbrev s_Field_note_of : Stmt := (cdBody (topS 68)).getD 11 (.Pass ⟨0, 0, 0, 0⟩)
abbrev s_Field_require_idle : Stmt := (cdBody (topS 68)).getD 12 (.Pass ⟨0, 0, 0, 0⟩)
abbrev s_Field_state_after : Stmt := (cdBody (topS 68)).getD 13 (.Pass ⟨0, 0, 0, 0⟩)
abbrev s_Field_perform : Stmt := (cdBody (topS 68)).getD 14 (.Pass ⟨0, 0, 0, 0⟩)
abbrev s_Field_push : Stmt := (cdBody (topS 68)).getD 15 (.Pass ⟨0, 0, 0, 0⟩)
abbrev s_Shell___init__ : Stmt := (cdBody (topS 58)).getD 0 (.Pass ⟨0, 0, 0, 0⟩)
abbrev s_Shell_answer : Stmt := (cdBody (topS 58)).getD 1 (.Pass ⟨0, 0, 0, 0⟩)
abbrev s_Shell_answer_two : Stmt := (cdBody (topS 58)).getD 2 (.Pass ⟨0, 0, 0, 0⟩)
abbrev s_Shell_run : Stmt := (cdBody (topS 58)).getD 3 (.Pass ⟨0, 0, 0, 0⟩)
abbrev s_Shell_execute : Stmt := (cdBody (topS 58)).getD 4 (.Pass ⟨0, 0, 0, 0⟩)
set_option pp.maxSteps 300
set_option pp.deepTerms false
def hXs_0 : List (Str) := ["_wall", "error_name", "is_number", "is_row", "tree_error", "is_mark", "marks_above", "way_between", "distance_between", "is_tick", "is_push", "check_pushes", "fall_at", "falls_by", "falls_of", "neighbours_of", "is_needed", "needed_pushes", "parse_number", "parse_two", "push_text", "field_text", "parse_rows", "parse_field", "is_within", "is_edit", "with_push", "without_push", "stretched", "table_of"]
def hXs_1 : List (Str) := ["_law_deck", "_law_draw", "_law_tree", "_law_pushes", "_law_state", "_law_odd", "_law_lines", "law", "Busy", "BadTick", "BadLength", "NoRow", "NoPush", "NoMark", "TooManyEdits", "NothingToUndo", "TooManyPushes", "Field", "Shell"]
def hXs : List (Str) := hXs_0 ++ hXs_1
def hMs_0 : List (Str) := ["__init__", "tree", "pushes", "falls", "__len__", "__eq__", "note_of", "require_idle", "state_after", "perform", "push", "answer", "answer_two", "run", "execute"]
def hMs : List (Str) := hMs_0
def hCk_0 : List (PySem.W.Frag → Bool) := [fun K => (He.Fa.free "abs").ok K, fun K => (He.Fa.free "all").ok K, fun K => (He.Fa.free "any").ok K, fun K => (He.Fa.free "bool").ok K, fun K => (He.Fa.free "dict").ok K, fun K => (He.Fa.free "enumerate").ok K, fun K => (He.Fa.free "int").ok K, fun K => (He.Fa.free "isinstance").ok K, fun K => (He.Fa.free "len").ok K, fun K => (He.Fa.free "list").ok K, fun K => (He.Fa.free "max").ok K, fun K => (He.Fa.free "min").ok K, fun K => (He.Fa.free "range").ok K, fun K => (He.Fa.free "repr").ok K, fun K => (He.Fa.free "set").ok K, fun K => (He.Fa.free "sorted").ok K, fun K => (He.Fa.free "str").ok K, fun K => (He.Fa.free "sum").ok K, fun K => (He.Fa.free "tuple").ok K, fun K => (He.Fa.free "zip").ok K, fun K => (He.Fa.free "LookupError").ok K, fun K => (He.Fa.free "ValueError").ok K, fun K => (He.Fa.glo "_wall").ok K, fun K => (He.Fa.glo "error_name").ok K, fun K => (He.Fa.glo "is_number").ok K, fun K => (He.Fa.glo "is_row").ok K, fun K => (He.Fa.glo "tree_error").ok K, fun K => (He.Fa.glo "is_mark").ok K, fun K => (He.Fa.glo "marks_above").ok K, fun K => (He.Fa.glo "way_between").ok K]
def hCk_1 : List (PySem.W.Frag → Bool) := [fun K => (He.Fa.glo "distance_between").ok K, fun K => (He.Fa.glo "is_tick").ok K, fun K => (He.Fa.glo "is_push").ok K, fun K => (He.Fa.glo "check_pushes").ok K, fun K => (He.Fa.glo "fall_at").ok K, fun K => (He.Fa.glo "falls_by").ok K, fun K => (He.Fa.glo "falls_of").ok K, fun K => (He.Fa.glo "neighbours_of").ok K, fun K => (He.Fa.glo "is_needed").ok K, fun K => (He.Fa.glo "needed_pushes").ok K, fun K => (He.Fa.glo "parse_number").ok K, fun K => (He.Fa.glo "parse_two").ok K, fun K => (He.Fa.glo "push_text").ok K, fun K => (He.Fa.glo "field_text").ok K, fun K => (He.Fa.glo "parse_rows").ok K, fun K => (He.Fa.glo "parse_field").ok K, fun K => (He.Fa.glo "is_within").ok K, fun K => (He.Fa.glo "is_edit").ok K, fun K => (He.Fa.glo "with_push").ok K, fun K => (He.Fa.glo "without_push").ok K, fun K => (He.Fa.glo "stretched").ok K, fun K => (He.Fa.glo "table_of").ok K, fun K => (He.Fa.glo "_law_deck").ok K, fun K => (He.Fa.glo "_law_draw").ok K, fun K => (He.Fa.glo "_law_tree").ok K, fun K => (He.Fa.glo "_law_pushes").ok K, fun K => (He.Fa.glo "_law_state").ok K, fun K => (He.Fa.glo "_law_odd").ok K, fun K => (He.Fa.glo "_law_lines").ok K, fun K => (He.Fa.glo "law").ok K]
def hCk_2 : List (PySem.W.Frag → Bool) := [gsB, fun K => (He.Fa.glo "Busy").ok K, fun K => (He.Fa.glo "BadTick").ok K, fun K => (He.Fa.glo "BadLength").ok K, fun K => (He.Fa.glo "NoRow").ok K, fun K => (He.Fa.glo "NoPush").ok K, fun K => (He.Fa.glo "NoMark").ok K, fun K => (He.Fa.glo "TooManyEdits").ok K, fun K => (He.Fa.glo "NothingToUndo").ok K, fun K => (He.Fa.glo "TooManyPushes").ok K, fun K => (He.Fa.glo "Field").ok K, fun K => (He.Fa.cls "Field").ok K, kcB "Field" "Busy" false, kcB "Field" "BadTick" false, kcB "Field" "BadLength" false, kcB "Field" "NoRow" false, kcB "Field" "NoPush" false, kcB "Field" "NoMark" false, kcB "Field" "TooManyEdits" false, kcB "Field" "NothingToUndo" false, kcB "Field" "TooManyPushes" false, kcB "Field" "Field" true, incB "Field", ntB "Field", fun K => (He.Fa.noat "Field" "states").ok K, fun K => (He.Fa.noat "Field" "tables").ok K, fun K => (He.Fa.noat "Field" "notes").ok K, fun K => (He.Fa.noat "Field" "standing").ok K, fun K => (He.Fa.noat "Field" "watching").ok K, fun K => (He.Fa.glo "Shell").ok K]
def hCk_3 : List (PySem.W.Frag → Bool) := [fun K => (He.Fa.cls "Shell").ok K, kcB "Shell" "Busy" false, kcB "Shell" "BadTick" false, kcB "Shell" "BadLength" false, kcB "Shell" "NoRow" false, kcB "Shell" "NoPush" false, kcB "Shell" "NoMark" false, kcB "Shell" "TooManyEdits" false, kcB "Shell" "NothingToUndo" false, kcB "Shell" "TooManyPushes" false, kcB "Shell" "Field" false, incB "Shell", ntB "Shell", fun K => (He.Fa.noat "Shell" "field").ok K, fun K => (He.Fa.mkr "Field").ok K, propB "Field" "tree", propB "Field" "pushes", propB "Field" "falls", fun K => (He.Fa.meth "Field" "__len__").ok K, fun K => (He.Fa.meth "Field" "__eq__").ok K, fun K => (He.Fa.meth "Field" "note_of").ok K, fun K => (He.Fa.meth "Field" "require_idle").ok K, fun K => (He.Fa.meth "Field" "state_after").ok K, fun K => (He.Fa.meth "Field" "perform").ok K, fun K => (He.Fa.meth "Field" "push").ok K, fun K => (He.Fa.mkr "Shell").ok K, fun K => (He.Fa.meth "Shell" "answer").ok K, fun K => (He.Fa.meth "Shell" "answer_two").ok K, fun K => (He.Fa.meth "Shell" "run").ok K, fun K => (He.Fa.meth "Shell" "execute").ok K]
def hCk_4 : List (PySem.W.Frag → Bool) := [fun K => (He.Fa.str "BEHIND" ";").ok K, fun K => (He.Fa.str "FIGURES" "0123456789").ok K, fun K => (He.Fa.int "LONGEST" 10).ok K, fun K => (He.Fa.int "MAX_EDITS" 60).ok K, fun K => (He.Fa.int "MAX_LENGTH" 1000000).ok K, fun K => (He.Fa.int "MAX_MARKS" 12).ok K, fun K => (He.Fa.int "MAX_PUSHES" 20).ok K, fun K => (He.Fa.int "MAX_TICK" 1000000000).ok K, fun K => (He.Fa.str "NONE" "none").ok K, fun K => (He.Fa.str "UNKNOWN_COMMAND" "unknown command").ok K]
def hCk : List (PySem.W.Frag → Bool) := hCk_0 ++ hCk_1 ++ hCk_2 ++ hCk_3 ++ hCk_4
def hFn_0 : List (HDef) := [⟨fun K => He.ga K "_wall", "_wall", "_wall", s__wall, [], []⟩, ⟨fun K => He.ga K "error_name", "error_name", "error_name", s_error_name, [], []⟩, ⟨fun K => He.ga K "is_number", "is_number", "is_number", s_is_number, [], []⟩, ⟨fun K => He.ga K "is_row", "is_row", "is_row", s_is_row, [], []⟩, ⟨fun K => He.ga K "tree_error", "tree_error", "tree_error", s_tree_error, [], []⟩, ⟨fun K => He.ga K "is_mark", "is_mark", "is_mark", s_is_mark, [], []⟩, ⟨fun K => He.ga K "marks_above", "marks_above", "marks_above", s_marks_above, [], []⟩, ⟨fun K => He.ga K "way_between", "way_between", "way_between", s_way_between, [], []⟩, ⟨fun K => He.ga K "distance_between", "distance_between", "distance_between", s_distance_between, [], []⟩, ⟨fun K => He.ga K "is_tick", "is_tick", "is_tick", s_is_tick, [], []⟩, ⟨fun K => He.ga K "is_push", "is_push", "is_push", s_is_push, [], []⟩, ⟨fun K => He.ga K "check_pushes", "check_pushes", "check_pushes", s_check_pushes, [], []⟩, ⟨fun K => He.ga K "fall_at", "fall_at", "fall_at", s_fall_at, [], []⟩, ⟨fun K => He.ga K "falls_by", "falls_by", "falls_by", s_falls_by, [], []⟩, ⟨fun K => He.ga K "falls_of", "falls_of", "falls_of", s_falls_of, [], []⟩, ⟨fun K => He.ga K "neighbours_of", "neighbours_of", "neighbours_of", s_neighbours_of, [], []⟩, ⟨fun K => He.ga K "is_needed", "is_needed", "is_needed", s_is_needed, [], []⟩, ⟨fun K => He.ga K "needed_pushes", "needed_pushes", "needed_pushes", s_needed_pushes, [], []⟩, ⟨fun K => He.ga K "parse_number", "parse_number", "parse_number", s_parse_number, [], []⟩, ⟨fun K => He.ga K "parse_two", "parse_two", "parse_two", s_parse_two, [], []⟩, ⟨fun K => He.ga K "push_text", "push_text", "push_text", s_push_text, [], []⟩, ⟨fun K => He.ga K "field_text", "field_text", "field_text", s_field_text, [], []⟩, ⟨fun K => He.ga K "parse_rows", "parse_rows", "parse_rows", s_parse_rows, [], []⟩, ⟨fun K => He.ga K "parse_field", "parse_field", "parse_field", s_parse_field, [], []⟩, ⟨fun K => He.ga K "is_within", "is_within", "is_within", s_is_within, [], []⟩, ⟨fun K => He.ga K "is_edit", "is_edit", "is_edit", s_is_edit, [], []⟩, ⟨fun K => He.ga K "with_push", "with_push", "with_push", s_with_push, [], []⟩, ⟨fun K => He.ga K "without_push", "without_push", "without_push", s_without_push, [], []⟩, ⟨fun K => He.ga K "stretched", "stretched", "stretched", s_stretched, [], []⟩, ⟨fun K => He.ga K "table_of", "table_of", "table_of", s_table_of, [], []⟩]
def hFn_1 : List (HDef) := [⟨fun K => He.ga K "_law_deck", "_law_deck", "_law_deck", s__law_deck, [], []⟩, ⟨fun K => He.ga K "_law_draw", "_law_draw", "_law_draw", s__law_draw, [], []⟩, ⟨fun K => He.ga K "_law_tree", "_law_tree", "_law_tree", s__law_tree, [], []⟩, ⟨fun K => He.ga K "_law_pushes", "_law_pushes", "_law_pushes", s__law_pushes, [], []⟩, ⟨fun K => He.ga K "_law_state", "_law_state", "_law_state", s__law_state, [], []⟩, ⟨fun K => He.ga K "_law_odd", "_law_odd", "_law_odd", s__law_odd, [], []⟩, ⟨fun K => He.ga K "_law_lines", "_law_lines", "_law_lines", s__law_lines, [], []⟩, ⟨fun K => He.ga K "law", "law", "law", s_law, [], []⟩, ⟨fun K => He.ma K (He.ga K "Field") "__init__", "__init__", "Field.__init__", s_Field___init__, [], []⟩, ⟨fun K => pgA K "Field" "tree", "tree", "Field.tree", s_Field_tree, [], []⟩, ⟨fun K => pgA K "Field" "pushes", "pushes", "Field.pushes", s_Field_pushes, [], []⟩, ⟨fun K => pgA K "Field" "falls", "falls", "Field.falls", s_Field_falls, [], []⟩, ⟨fun K => He.ma K (He.ga K "Field") "__len__", "__len__", "Field.__len__", s_Field___len__, [], []⟩, ⟨fun K => He.ma K (He.ga K "Field") "__eq__", "__eq__", "Field.__eq__", s_Field___eq__, [], []⟩, ⟨fun K => He.ma K (He.ga K "Field") "note_of", "note_of", "Field.note_of", s_Field_note_of, [], []⟩, ⟨fun K => He.ma K (He.ga K "Field") "require_idle", "require_idle", "Field.require_idle", s_Field_require_idle, [], []⟩, ⟨fun K => He.ma K (He.ga K "Field") "state_after", "state_after", "Field.state_after", s_Field_state_after, [], []⟩, ⟨fun K => He.ma K (He.ga K "Field") "perform", "perform", "Field.perform", s_Field_perform, [], []⟩, ⟨fun K => He.ma K (He.ga K "Field") "push", "push", "Field.push", s_Field_push, [], []⟩, ⟨fun K => He.ma K (He.ga K "Shell") "__init__", "__init__", "Shell.__init__", s_Shell___init__, [], []⟩, ⟨fun K => He.ma K (He.ga K "Shell") "answer", "answer", "Shell.answer", s_Shell_answer, [], []⟩, ⟨fun K => He.ma K (He.ga K "Shell") "answer_two", "answer_two", "Shell.answer_two", s_Shell_answer_two, [], []⟩, ⟨fun K => He.ma K (He.ga K "Shell") "run", "run", "Shell.run", s_Shell_run, [], []⟩, ⟨fun K => He.ma K (He.ga K "Shell") "execute", "execute", "Shell.execute", s_Shell_execute, [], []⟩]
def hFn : List (HDef) := hFn_0 ++ hFn_1
def hTs_0 : List (He.Tab) := []
def hTs : List (He.Tab) := hTs_0
def hLm_0 : List (PySem.W.Frag → Addr) := []
def hLm : List (PySem.W.Frag → Addr) := hLm_0
def hLoose_0 : List (Str) := ["_wall", "FallError", "Busy", "TooManyEdits", "TooManyPushes", "NothingToUndo", "BadEdits", "BadPushes", "BadTree", "BadTick", "BadLength", "BadEdit", "Rejected", "BadText", "NoMark", "NoPush", "NoRow", "NoVersion", "error_name", "MAX_MARKS", "MAX_LENGTH", "MAX_TICK", "MAX_PUSHES", "MAX_EDITS", "BATCH", "is_number", "is_row", "tree_error", "is_mark", "marks_above"]
def hLoose_1 : List (Str) := ["way_between", "distance_between", "is_tick", "is_push", "check_pushes", "fall_at", "falls_by", "falls_of", "neighbours_of", "is_needed", "needed_pushes", "FIGURES", "LONGEST", "BEHIND", "parse_number", "parse_two", "push_text", "field_text", "parse_rows", "parse_field", "UNKNOWN_COMMAND", "NONE", "Shell", "SIZES", "is_within", "is_edit", "with_push", "without_push", "stretched", "table_of"]
def hLoose_2 : List (Str) := ["Watching", "Field", "_law_deck", "_law_draw", "_law_tree", "_law_pushes", "_law_state", "_law_odd", "_law_lines"]
def hLoose : List (Str) := hLoose_0 ++ hLoose_1 ++ hLoose_2
abbrev hR : PySem.W.OpenRow := PySem.W.OpenLaw.row PySem.Challenge.rw_marktopples_k61_unknown_commands
abbrev hHook : PySem.W.Hook := hookH hXs hMs hLm hCk hFn hTs
def hOb (s : PySem.W.SharedT) : AlH × Bool := obsHG hXs hMs hLm hCk hFn hTs (HandSHeadRun.getT s)
theorem hOb_eq (s : PySem.W.SharedT) : hOb s = hHook.obs s.abs := obsHG_eq (HandSHeadRun.getT_eq s)
theorem hRun_false (w : World) : HandSHeadRun.RunEq hR (PySem.W.view hR.prog [77]) hHook hOb 12000 hLoose (w.withFollow "special-get-raises" false) := by
  intro os
  kernel_rfl
theorem hRun_true (w : World) : HandSHeadRun.RunEq hR (PySem.W.view hR.prog [77]) hHook hOb 12000 hLoose (w.withFollow "special-get-raises" true) := by
  intro os
  kernel_rfl
theorem hRun (w : World) : HandSHeadRun.RunEq hR (PySem.W.view hR.prog [77]) hHook hOb 12000 hLoose w := PySem.W.byRow2 "special-get-raises" (P := fun w => HandSHeadRun.RunEq hR (PySem.W.view hR.prog [77]) hHook hOb 12000 hLoose w) hRun_false hRun_true w
end Law
namespace DL
open PySem PySem.Spec PyProof.Rows L2
/-- a datum: tuples, lists and dicts that nobody changes are trees; what is changed is a place in the store -/
inductive D where
  | non | bl (b : Bool) | int (i : Int) | str (x : Str)
  | tup (ds : List D) | lst (ds : List D) | dct (ks : List Key) (ds : List D) | ref (n : Nat) | scr (ns : List Int)
  | exo (a : Addr) (c : Value) (o : Option Addr) (ks : List Str) (ds : List D)
  | clo (f : Addr) (fo : List (Addr × HO)) (vs : List V) (ds : List D)
mutual
inductive Rp (K : PySem.W.Frag) (F : Hp) (al : List Addr) : V → D → Prop
  | non : Rp K F al .non .non
  | bl (b : Bool) : Rp K F al (.bl b) (.bl b)
  | int (i : Int) : Rp K F al (.int i) (.int i)
  | str (x : Str) : Rp K F al (.str x) (.str x)
  | tup {a : Addr} {xs : List V} {ds : List D} : F a = some (.tup xs) → Rps K F al xs ds → Rp K F al (.ref a) (.tup ds)
  | lst {a : Addr} {xs : List V} {ds : List D} : F a = some (.lst xs) → Rps K F al xs ds → Rp K F al (.ref a) (.lst ds)
  | dct {a : Addr} {ks : List Key} {xs : List V} {ds : List D} : F a = some (.dK (ks.zip xs)) → ks.length = xs.length → Rps K F al xs ds → Rp K F al (.ref a) (.dct ks ds)
  | ref {n : Nat} {a : Addr} : al[n]? = some a → Rp K F al (.ref a) (.ref n)
  | scr {a : Addr} {ns : List Int} : SqL K F a (ns.map V.int) → Rp K F al (.ref a) (.scr ns)
  | exo0 (a : Addr) (c : Value) : Rp K F al (.ref a) (.exo a c none [] [])
  | exo {a : Addr} {c : Value} {q : Addr} {ks : List Str} {xs : List V} {ds : List D} : F q = some (.xd (ks.zip xs)) → ks.length = xs.length → Rps K F al xs ds → Rp K F al (.ref a) (.exo a c (some q) ks ds)
  | clo {f : Addr} {fo : List (Addr × HO)} {vs : List V} {ds : List D} : (∀ p ∈ fo, F p.1 = some p.2) → Rps K F al vs ds → Rp K F al (.ref f) (.clo f fo vs ds)
inductive Rps (K : PySem.W.Frag) (F : Hp) (al : List Addr) : List V → List D → Prop
  | nil : Rps K F al [] []
  | cons {v : V} {vs : List V} {d : D} {ds : List D} : Rp K F al v d → Rps K F al vs ds → Rps K F al (v :: vs) (d :: ds)
end
/-- what stood stands -/
def Sm (H H' : Hp) : Prop := ∀ b o, H b = some o → H' b = some o
theorem Sm.refl (H : Hp) : Sm H H := fun _ _ h => h
theorem Sm.trans {H H1 H2 : Hp} (a : Sm H H1) (b : Sm H1 H2) : Sm H H2 := fun c o h => b c o (a c o h)
theorem Sm.rd {H H' : Hp} {a : Addr} {u : HO} (e : Sm H H') (h : Rd H a u) : Rd H' a u := by
  rcases h with h | ⟨o, h⟩
  · exact Or.inl (e a _ h)
  · exact Or.inr ⟨o, e a _ h⟩
theorem Sm.l {K : PySem.W.Frag} {H H' : Hp} {a : Addr} {xs : List V} (e : Sm H H') (h : SqL K H a xs) : SqL K H' a xs := by
  rcases h with h | h
  · exact Or.inl (e.rd h)
  · exact Or.inr h
theorem Sm.t {K : PySem.W.Frag} {H H' : Hp} {a : Addr} {xs : List V} (e : Sm H H') (h : SqT K H a xs) : SqT K H' a xs := by
  rcases h with h | h
  · exact Or.inl (e.rd h)
  · exact Or.inr h
theorem Sm.new {H : Hp} {p : Addr} {o : HO} (h : H p = none) : Sm H (upd H p o) := fun b u e => by
  rw [upd_ne (ne_of_none e h)]
  exact e
theorem Sm.free {H H' : Hp} (e : Sm H H') {l : Addr} (h : H' l = none) : H l = none := by
  cases q : H l with
  | none => rfl
  | some o => rw [e l o q] at h; cases h
structure Ext (al : List Addr) (F : Hp) (al' : List Addr) (F' : Hp) : Prop where
  al : ∃ be, al' = al ++ be
  sm : Sm F F'
theorem Ext.refl (al : List Addr) (F : Hp) : Ext al F al F := ⟨⟨[], by simp⟩, Sm.refl F⟩
theorem Ext.trans {al al1 al2 : List Addr} {F F1 F2 : Hp} (a : Ext al F al1 F1) (b : Ext al1 F1 al2 F2) : Ext al F al2 F2 := by
  obtain ⟨b1, e1⟩ := a.al
  obtain ⟨b2, e2⟩ := b.al
  exact ⟨⟨b1 ++ b2, by rw [e2, e1, List.append_assoc]⟩, a.sm.trans b.sm⟩
theorem Ext.get {al al' : List Addr} {F F' : Hp} (e : Ext al F al' F') {n : Nat} {a : Addr} (h : al[n]? = some a) : al'[n]? = some a := by
  obtain ⟨be, rfl⟩ := e.al
  rw [List.getElem?_append_left (List.getElem?_eq_some_iff.mp h).1]
  exact h
section
variable {K : PySem.W.Frag} {F F' : Hp} {al al' : List Addr}
mutual
theorem Rp.ext (e : Ext al F al' F') : ∀ {d : D} {v : V}, Rp K F al v d → Rp K F' al' v d
  | .non, _, h => by cases h; exact .non
  | .bl _, _, h => by cases h; exact .bl _
  | .int _, _, h => by cases h; exact .int _
  | .str _, _, h => by cases h; exact .str _
  | .tup _, _, h => by
    cases h with
    | tup a b => exact .tup (e.sm _ _ a) (Rps.ext e b)
  | .lst _, _, h => by
    cases h with
    | lst a b => exact .lst (e.sm _ _ a) (Rps.ext e b)
  | .dct _ _, _, h => by
    cases h with
    | dct a l b => exact .dct (e.sm _ _ a) l (Rps.ext e b)
  | .ref _, _, h => by
    cases h with
    | ref a => exact .ref (e.get a)
  | .scr _, _, h => by
    cases h with
    | scr a => exact .scr (e.sm.l a)
  | .exo _ _ _ _ _, _, h => by
    cases h with
    | exo0 => exact .exo0 _ _
    | exo a l b => exact .exo (e.sm _ _ a) l (Rps.ext e b)
  | .clo _ _ _ _, _, h => by
    cases h with
    | clo a b => exact .clo (fun p hp => e.sm _ _ (a p hp)) (Rps.ext e b)
theorem Rps.ext (e : Ext al F al' F') : ∀ {ds : List D} {vs : List V}, Rps K F al vs ds → Rps K F' al' vs ds
  | [], _, h => by cases h; exact .nil
  | _ :: _, _, h => by
    cases h with
    | cons a b => exact .cons (Rp.ext e a) (Rps.ext e b)
end
theorem Rps.length : ∀ {ds : List D} {vs : List V}, Rps K F al vs ds → vs.length = ds.length
  | [], _, h => by cases h; rfl
  | _ :: _, _, h => by
    cases h with
    | cons a b => rw [List.length_cons, List.length_cons, b.length]
theorem Rps.append : ∀ {ds es : List D} {vs us : List V}, Rps K F al vs ds → Rps K F al us es → Rps K F al (vs ++ us) (ds ++ es)
  | [], _, _, _, h, g => by cases h; exact g
  | _ :: _, _, _, _, h, g => by
    cases h with
    | cons a b => exact .cons a (b.append g)
theorem Rps.get : ∀ {ds : List D} {vs : List V} {i : Nat} {d : D}, Rps K F al vs ds → ds[i]? = some d → ∃ v, vs[i]? = some v ∧ Rp K F al v d
  | [], _, _, _, h, e => by simp at e
  | _ :: _, _, 0, _, h, e => by
    cases h with
    | cons a b => simp at e; subst e; exact ⟨_, rfl, a⟩
  | _ :: _, _, i + 1, d, h, e => by
    cases h with
    | cons a b =>
      obtain ⟨v, h1, h2⟩ := Rps.get (i := i) (d := d) b (by simpa using e)
      exact ⟨v, by simpa using h1, h2⟩
theorem Rps.set {v : V} {d : D} (h : Rp K F al v d) : ∀ {ds : List D} {vs : List V} (i : Nat), Rps K F al vs ds → Rps K F al (vs.set i v) (ds.set i d)
  | [], _, _, g => by cases g; exact .nil
  | _ :: _, _, 0, g => by
    cases g with
    | cons a b => exact .cons h b
  | _ :: _, _, i + 1, g => by
    cases g with
    | cons a b => exact .cons a (Rps.set h i b)
theorem Rps.take : ∀ {ds : List D} {vs : List V} (n : Nat), Rps K F al vs ds → Rps K F al (vs.take n) (ds.take n)
  | _, _, 0, _ => by simp; exact .nil
  | [], _, n + 1, h => by cases h; exact .nil
  | _ :: _, _, n + 1, h => by
    cases h with
    | cons a b => exact .cons a (Rps.take n b)
theorem Rps.drop : ∀ {ds : List D} {vs : List V} (n : Nat), Rps K F al vs ds → Rps K F al (vs.drop n) (ds.drop n)
  | _, _, 0, h => h
  | [], _, n + 1, h => by cases h; exact .nil
  | _ :: _, _, n + 1, h => by
    cases h with
    | cons a b => exact Rps.drop n b
theorem Rps.split : ∀ {ds es : List D} {vs : List V}, Rps K F al vs (ds ++ es) → ∃ us ws, vs = us ++ ws ∧ Rps K F al us ds ∧ Rps K F al ws es
  | [], es, vs, h => ⟨[], vs, rfl, .nil, h⟩
  | d :: ds, es, _, h => by
    cases h with
    | cons a b =>
      obtain ⟨us, ws, e, h1, h2⟩ := Rps.split b
      exact ⟨_ :: us, ws, by rw [e]; rfl, .cons a h1, h2⟩
theorem Rps.ints : ∀ {ns : List Int} {vs : List V}, Rps K F al vs (ns.map D.int) → vs = ns.map V.int
  | [], _, h => by cases h; rfl
  | n :: ns, _, h => by
    cases h with
    | cons a b => cases a; rw [b.ints]; rfl
theorem Rps.of_ints : ∀ {ns : List Int}, Rps K F al (ns.map V.int) (ns.map D.int)
  | [] => .nil
  | _ :: _ => .cons (.int _) .of_ints
theorem Rps.bls : ∀ {bs : List Bool} {vs : List V}, Rps K F al vs (bs.map D.bl) → vs = bs.map V.bl
  | [], _, h => by cases h; rfl
  | n :: ns, _, h => by
    cases h with
    | cons a b => cases a; rw [b.bls]; rfl
end
inductive Cell where
  | lst (ds : List D) | ins (C : Addr) (fs : List (Str × D)) | dic (ks : List (List Int)) | raw (o : HO)
abbrev Sto := List Cell
def CellOk (K : PySem.W.Frag) (F : Hp) (al : List Addr) (H : Hp) (a : Addr) : Cell → Prop
  | .lst ds => ∃ xs, H a = some (.lst xs) ∧ Rps K F al xs ds
  | .ins C fs => ∃ dx vs, H a = some (.ins C dx vs) ∧ vs.map (·.1) = fs.map (·.1) ∧ Rps K F al (vs.map (·.2)) (fs.map (·.2))
  | .dic ks => ∃ kvs : List (List Key × V), kvs.map (·.1) = ks.map (·.map Sum.inl) ∧ H a = some (.dT kvs)
  | .raw o => H a = some o ∧ ∀ xs, o ≠ .tup xs
theorem CellOk.some {K : PySem.W.Frag} {F : Hp} {al : List Addr} {H : Hp} {a : Addr} {c : Cell} (h : CellOk K F al H a c) : ∃ o, H a = some o := by
  cases c with
  | lst ds => obtain ⟨xs, e, _⟩ := h; exact ⟨_, e⟩
  | ins C fs => obtain ⟨dx, vs, e, _⟩ := h; exact ⟨_, e⟩
  | dic ks => obtain ⟨kvs, _, e⟩ := h; exact ⟨_, e⟩
  | raw o => exact ⟨_, h.1⟩
theorem CellOk.ext {K : PySem.W.Frag} {F F' : Hp} {al al' : List Addr} {H H' : Hp} {a : Addr} {c : Cell} (h : CellOk K F al H a c) (e : Ext al F al' F') (s : H' a = H a) : CellOk K F' al' H' a c := by
  cases c with
  | lst ds => obtain ⟨xs, q, r⟩ := h; exact ⟨xs, s.trans q, r.ext e⟩
  | ins C fs => obtain ⟨dx, vs, q, n, r⟩ := h; exact ⟨dx, vs, s.trans q, n, r.ext e⟩
  | dic ks => obtain ⟨kvs, z, h⟩ := h; exact ⟨kvs, z, s.trans h⟩
  | raw o => exact ⟨s.trans h.1, h.2⟩
/-- the table at P: each code object that it tells bears the name q -/
def TbOk (F H : Hp) (P : Addr) (q : Str) : Prop := ∃ ps : Array Value, H P = some (.tbl ps) ∧ TriplesOk ps.toList ∧ ∀ (pos : Pos) (cv : Value), codeAmong pos ps.toList = some cv → ∃ c, cv = .ref c ∧ F c = some (LamX.CodeO c q)
structure TbAt (al : List Addr) (F G H : Hp) (p : Addr × Str) : Prop where
  ok : TbOk F H p.1 p.2
  nf : F p.1 = none
  ng : G p.1 = none
  na : p.1 ∉ al
def Tb (K : PySem.W.Frag) (al : List Addr) (F G H : Hp) : Prop := ∀ p ∈ Tk K, TbAt al F G H p
theorem TbOk.to {F F' H H' : Hp} {P : Addr} {q : Str} (t : TbOk F H P q) (h : H' P = H P) (s : Sm F F') : TbOk F' H' P q := by
  obtain ⟨ps, h1, h2, h3⟩ := t
  exact ⟨ps, h.trans h1, h2, fun pos cv e => let ⟨c, e1, e2⟩ := h3 pos cv e; ⟨c, e1, s _ _ e2⟩⟩
theorem Tb.to {K : PySem.W.Frag} {al al' : List Addr} {F F' G G' H H' : Hp} (t : Tb K al F G H) (s : Sm F F') (h : ∀ P, (∃ o, H P = some o) → F P = none → G P = none → P ∉ al → H' P = H P ∧ F' P = none ∧ G' P = none ∧ P ∉ al') : Tb K al' F' G' H' := fun p hp => by
  have z := t p hp
  obtain ⟨ps, h1, _⟩ := z.ok
  obtain ⟨a, b, c, d⟩ := h p.1 ⟨_, h1⟩ z.nf z.ng z.na
  exact ⟨z.ok.to a s, b, c, d⟩
theorem ne_some {H : Hp} {p P : Addr} (h : H p = none) (e : ∃ o, H P = some o) : P ≠ p := fun z => by
  obtain ⟨o, e⟩ := e
  rw [z, h] at e
  cases e
/-- F: what nobody changes; G: what others hold and is left alone; al: the places of the store -/
structure Wd (K : PySem.W.Frag) (al : List Addr) (F G H : Hp) (M : Sto) : Prop where
  sm : Sm F H
  sg : Sm G H
  fg : ∀ a o, G a = some o → (F a = none ∨ ∃ xs, o = .tup xs) ∧ a ∉ al
  len : al.length = M.length
  nd : al.Nodup
  out : ∀ a ∈ al, F a = none
  cel : ∀ (n : Nat) (c : Cell) (a : Addr), M[n]? = some c → al[n]? = some a → CellOk K F al H a c
  tb : Tb K al F G H
section
variable {K : PySem.W.Frag} {F F' G H : Hp} {al : List Addr} {M : Sto}
theorem Wd.has (W : Wd K al F G H M) {a : Addr} (h : a ∈ al) : ∃ o, H a = some o := by
  obtain ⟨n, hn, e⟩ := List.getElem_of_mem h
  have hm : n < M.length := by rw [← W.len]; exact hn
  exact (W.cel n M[n] a (List.getElem?_eq_getElem hm) (by rw [List.getElem?_eq_getElem hn, e])).some
theorem Wd.notin (W : Wd K al F G H M) {p : Addr} (h : H p = none) : p ∉ al := fun q => by
  obtain ⟨o, e⟩ := W.has q
  rw [e] at h
  cases h
/-- a new object that nobody will change -/
theorem Wd.newF (W : Wd K al F G H M) {p : Addr} {o : HO} (h : H p = none) : Wd K al (upd F p o) G (upd H p o) M ∧ Ext al F al (upd F p o) := by
  have e : Ext al F al (upd F p o) := ⟨⟨[], by simp⟩, Sm.new (W.sm.free h)⟩
  refine ⟨⟨fun b u q => ?_, W.sg.trans (Sm.new h), fun a u q => ⟨?_, (W.fg a u q).2⟩, W.len, W.nd, fun a q => ?_, fun n c a q r => ?_, W.tb.to e.sm fun P x f g y => ⟨upd_ne (ne_some h x), (upd_ne (ne_some h x)).trans f, g, y⟩⟩, e⟩
  · by_cases hb : b = p
    · subst hb; rw [upd_same] at q ⊢; exact q
    · rw [upd_ne hb] at q ⊢; exact W.sm b u q
  · rw [upd_ne (ne_of_none (W.sg a u q) h)]
    exact (W.fg a u q).1
  · rw [upd_ne (show a ≠ p from fun z => W.notin h (z ▸ q))]
    exact W.out a q
  · exact (W.cel n c a q r).ext e (upd_ne fun z => W.notin h (z ▸ List.mem_of_getElem? r))
/-- a new object of the store -/
theorem Wd.newM (W : Wd K al F G H M) {p : Addr} {o : HO} {c : Cell} (h : H p = none) (hc : CellOk K F (al ++ [p]) (upd H p o) p c) : Wd K (al ++ [p]) F G (upd H p o) (M ++ [c]) ∧ Ext al F (al ++ [p]) F := by
  have e : Ext al F (al ++ [p]) F := ⟨⟨[p], rfl⟩, Sm.refl F⟩
  refine ⟨⟨W.sm.trans (Sm.new h), W.sg.trans (Sm.new h), fun a u q => ⟨(W.fg a u q).1, fun z => ?_⟩, by simp [W.len], ?_, fun a q => ?_, fun n d a q r => ?_, W.tb.to e.sm fun P x f g y => ⟨upd_ne (ne_some h x), f, g, fun z => (List.mem_append.mp z).elim y fun z => ne_some h x (by simpa using z)⟩⟩, e⟩
  · rcases List.mem_append.mp z with z | z
    · exact (W.fg a u q).2 z
    · have z' : a = p := by simpa using z
      subst z'
      rw [W.sg a u q] at h
      cases h
  · rw [List.nodup_append]
    refine ⟨W.nd, by simp, fun a ha b hb => ?_⟩
    have hb' : b = p := by simpa using hb
    subst hb'
    exact fun z => W.notin h (z ▸ ha)
  · rcases List.mem_append.mp q with q | q
    · exact W.out a q
    · have q' : a = p := by simpa using q
      subst q'
      exact W.sm.free h
  · by_cases hn : n < M.length
    · rw [List.getElem?_append_left hn] at q
      rw [List.getElem?_append_left (by rw [W.len]; exact hn)] at r
      exact (W.cel n d a q r).ext e (upd_ne fun z => W.notin h (z ▸ List.mem_of_getElem? r))
    · have hn' : n = M.length := by
        have := (List.getElem?_eq_some_iff.mp q).1
        rw [List.length_append, List.length_singleton] at this
        omega
      subst hn'
      rw [List.getElem?_append_right (Nat.le_refl _)] at q
      rw [← W.len, List.getElem?_append_right (Nat.le_refl _)] at r
      simp at q r
      subst q
      subst r
      exact hc
/-- an object of the store changed -/
theorem Wd.write (W : Wd K al F G H M) {n : Nat} {a : Addr} {o : HO} {c : Cell} (h : al[n]? = some a) (hc : CellOk K F al (upd H a o) a c) : Wd K al F G (upd H a o) (M.set n c) := by
  have ha : a ∈ al := List.mem_of_getElem? h
  refine ⟨fun b u q => ?_, fun b u q => ?_, W.fg, by rw [List.length_set]; exact W.len, W.nd, W.out, fun m d b q r => ?_, W.tb.to (Sm.refl F) fun P x f g y => ⟨upd_ne fun z => y (z ▸ ha), f, g, y⟩⟩
  · rw [upd_ne (fun z => by subst z; rw [W.out _ ha] at q; cases q)]
    exact W.sm b u q
  · rw [upd_ne (show b ≠ a from fun z => (W.fg b u q).2 (z ▸ ha))]
    exact W.sg b u q
  · by_cases hm : m = n
    · subst hm
      rw [h] at r
      cases r
      rw [List.getElem?_set_self (by rw [← W.len]; exact (List.getElem?_eq_some_iff.mp h).1)] at q
      cases q
      exact hc
    · rw [List.getElem?_set_ne (Ne.symm hm)] at q
      refine (W.cel m d b q r).ext (Ext.refl al F) (upd_ne fun z => hm ?_)
      subst z
      obtain ⟨h1, e1⟩ := List.getElem?_eq_some_iff.mp r
      obtain ⟨h2, e2⟩ := List.getElem?_eq_some_iff.mp h
      exact (List.getElem_inj W.nd).mp (e1.trans e2.symm)
/-- the places behind k are forgotten -/
theorem Wd.take (W : Wd K al F G H M) (k : Nat) (hc : ∀ (n : Nat) (c : Cell) (a : Addr), n < k → M[n]? = some c → al[n]? = some a → CellOk K F (al.take k) H a c) : Wd K (al.take k) F G H (M.take k) := by
  refine ⟨W.sm, W.sg, fun a o q => ⟨(W.fg a o q).1, fun z => (W.fg a o q).2 (List.mem_of_mem_take z)⟩, by simp [W.len], W.nd.sublist (List.take_sublist k al), fun a q => W.out a (List.mem_of_mem_take q), fun n c a q r => ?_, W.tb.to (Sm.refl F) fun P x f g y => ⟨rfl, f, g, fun z => y (List.mem_of_mem_take z)⟩⟩
  have hn : n < k := by
    have := (List.getElem?_eq_some_iff.mp q).1
    rw [List.length_take] at this
    omega
  rw [List.getElem?_take_of_lt hn] at q r
  exact hc n c a hn q r
/-- the frame grows by an object that the store doesn't know -/
theorem Wd.hide (W : Wd K al F G H M) {p : Addr} {o : HO} (h : H p = none) : Wd K al F (upd G p o) (upd H p o) M := by
  refine ⟨W.sm.trans (Sm.new h), fun b u q => ?_, fun a u q => ?_, W.len, W.nd, W.out, fun n c a q r => ?_, W.tb.to (Sm.refl F) fun P x f g y => ⟨upd_ne (ne_some h x), f, (upd_ne (ne_some h x)).trans g, y⟩⟩
  · by_cases hb : b = p
    · subst hb; rw [upd_same] at q ⊢; exact q
    · rw [upd_ne hb] at q ⊢; exact W.sg b u q
  · by_cases hb : a = p
    · subst hb; exact ⟨.inl (W.sm.free h), W.notin h⟩
    · rw [upd_ne hb] at q; exact W.fg a u q
  · exact (W.cel n c a q r).ext (Ext.refl al F) (upd_ne fun z => W.notin h (z ▸ List.mem_of_getElem? r))
/-- a framed object changes -/
theorem Wd.hidF {p : Addr} {o : HO} (W : Wd K al F (upd G p o) H M) (ht : ∀ xs, o ≠ .tup xs) : F p = none ∧ p ∉ al := by
  have hp := W.fg p o upd_same
  exact ⟨hp.1.resolve_right fun ⟨xs, z⟩ => ht xs z, hp.2⟩
theorem Wd.rehide {p : Addr} {o : HO} (W : Wd K al F (upd G p o) H M) {o' : HO} (ht : ∀ xs, o ≠ .tup xs := by intro _ z; cases z) : Wd K al F (upd G p o') (upd H p o') M := by
  have hp := W.hidF ht
  have np : ∀ P, upd G p o P = none → P ≠ p := fun P g z => by rw [z, upd_same] at g; cases g
  refine ⟨fun b u q => ?_, fun b u q => ?_, fun a u q => ?_, W.len, W.nd, W.out, fun n c a q r => ?_, W.tb.to (Sm.refl F) fun P x f g y => ⟨upd_ne (np P g), f, (upd_ne (np P g)).trans ((upd_ne (np P g)).symm.trans g), y⟩⟩
  · rw [upd_ne (fun z => by subst z; rw [hp.1] at q; cases q)]
    exact W.sm b u q
  · by_cases hb : b = p
    · subst hb; rw [upd_same] at q ⊢; exact q
    · rw [upd_ne hb] at q ⊢
      exact W.sg b u (by rw [upd_ne hb]; exact q)
  · by_cases hb : a = p
    · subst hb; exact ⟨.inl hp.1, hp.2⟩
    · rw [upd_ne hb] at q
      exact W.fg a u (by rw [upd_ne hb]; exact q)
  · exact (W.cel n c a q r).ext (Ext.refl al F) (upd_ne fun z => hp.2 (z ▸ List.mem_of_getElem? r))
/-- a framed object is given to what nobody changes -/
theorem Wd.thaw {p : Addr} {o : HO} (W : Wd K al F (upd G p o) H M) (hg : G p = none) (ht : ∀ xs, o ≠ .tup xs := by intro _ z; cases z) : Wd K al (upd F p o) G H M ∧ Ext al F al (upd F p o) := by
  have hp := W.hidF ht
  have e : Ext al F al (upd F p o) := ⟨⟨[], by simp⟩, Sm.new hp.1⟩
  refine ⟨⟨fun b u q => ?_, fun b u q => W.sg b u (Sm.new hg b u q), fun a u q => ?_, W.len, W.nd, fun a q => ?_, fun n c a q r => (W.cel n c a q r).ext e rfl, W.tb.to e.sm fun P x f g y => ⟨rfl, (upd_ne fun z => by rw [z, upd_same] at g; cases g).trans f, by rw [upd_ne fun z => by rw [z, upd_same] at g; cases g] at g; exact g, y⟩⟩, e⟩
  · by_cases hb : b = p
    · subst hb; rw [upd_same] at q; cases q; exact W.sg _ _ upd_same
    · rw [upd_ne hb] at q; exact W.sm b u q
  · have hn : a ≠ p := fun z => by subst z; rw [hg] at q; cases q
    rw [upd_ne hn]
    exact W.fg a u (Sm.new hg a u q)
  · rw [upd_ne (show a ≠ p from fun z => hp.2 (z ▸ q))]
    exact W.out a q
end
abbrev DK := D → Sto → Prop
abbrev DXK := Value → List (Str × D) → Sto → Prop
abbrev DXS := Value → List (Str × D) → List (Option D) → Sto → Prop
@[reducible] def noX : DXS := fun _ _ _ _ => False
/-- the slots, and what is wished of an exception -/
structure Dn where
  v : List (Option D)
  x : DXS
abbrev DTE := Dn → Sto → DK → Prop
abbrev DTT := Dn → Sto → (Bool → Sto → Prop) → Prop
abbrev DTA := Dn → Sto → (List D → Sto → Prop) → Prop
structure Sl (K : PySem.W.Frag) (F : Hp) (al : List Addr) (σ : L2.St) (ρ : List (Option D)) : Prop where
  len : σ.length = ρ.length
  get : ∀ (i : Nat) (d : D), ρ[i]? = some (some d) → ∃ v, σ[i]? = some (some v) ∧ Rp K F al v d
theorem Sl.ext {K : PySem.W.Frag} {F F' : Hp} {al al' : List Addr} {σ : L2.St} {ρ : List (Option D)} (h : Sl K F al σ ρ) (e : Ext al F al' F') : Sl K F' al' σ ρ :=
  ⟨h.len, fun i d q => let ⟨v, a, b⟩ := h.get i d q; ⟨v, a, b.ext e⟩⟩
theorem Sl.set {K : PySem.W.Frag} {F : Hp} {al : List Addr} {σ : L2.St} {ρ : List (Option D)} (h : Sl K F al σ ρ) {v : V} {d : D} (r : Rp K F al v d) (i : Nat) : Sl K F al (σ.set i (some v)) (ρ.set i (some d)) := by
  refine ⟨by rw [List.length_set, List.length_set]; exact h.len, fun j e q => ?_⟩
  by_cases hj : i = j
  · subst hj
    have hl : i < ρ.length := by
      have := (List.getElem?_eq_some_iff.mp q).1
      rwa [List.length_set] at this
    rw [List.getElem?_set_self hl] at q
    cases q
    exact ⟨v, by rw [List.getElem?_set_self (by rw [h.len]; exact hl)], r⟩
  · rw [List.getElem?_set_ne hj] at q
    obtain ⟨u, a, b⟩ := h.get j e q
    exact ⟨u, by rw [List.getElem?_set_ne hj]; exact a, b⟩
/-- the fields of an exception: at o its dict -/
def FldOk (K : PySem.W.Frag) (F : Hp) (al : List Addr) (o : Option Addr) (fs : List (Str × D)) : Prop := (o = none ∧ fs = []) ∨ ∃ a vs, o = some a ∧ F a = some (.xd vs) ∧ vs.map (·.1) = fs.map (·.1) ∧ Rps K F al (vs.map (·.2)) (fs.map (·.2))
/-- the class of an exception that has a context, as a wish tells it -/
def ctxd (C : Addr) : Value := .int (C : Int) 0
/-- one that nobody tells with a context -/
def NoC (W : WX) : Prop := ∀ (C : Addr) (d : Option Addr) (σ : L2.St) (H : Hp), ¬ W (ctxd C) d σ H
def ctxW (W : WX) : WX := fun c d σ H => ∃ C : Addr, c = .ref C ∧ W (ctxd C) d σ H
def TakesC (X : Cx) (W : WX) : Prop := L2.Takes X (ctxW W)
def isX (c : Value) (d : Option Addr) (σ : L2.St) (H : Hp) : WX := fun c' d' σ' H' => c' = c ∧ d' = d ∧ σ' = σ ∧ H' = H
def plainC (c : Value) : Prop := ∀ C : Addr, c ≠ ctxd C
def plainW (W : WX) : WX := fun c d σ H => plainC c ∧ W c d σ H
/-- what the surroundings take of an exception -/
def W0 (X : Cx) : WX := fun c d σ H => (plainC c → L2N.Takes X (isX c d σ H)) ∧ ∀ C : Addr, c = ctxd C → L2.Takes X (isX (.ref C) d σ H)
theorem takesW (X : Cx) : L2N.Takes X (plainW (W0 X)) := fun u s' ⟨a, B, sI, pins, σ, H, cls, d, e, I, nb, up, sky, na, os, ag, p, w⟩ => w.1 p u s' ⟨a, B, sI, pins, σ, H, cls, d, e, I, nb, up, sky, na, os, ag, rfl, rfl, rfl, rfl⟩
theorem takesC (X : Cx) : TakesC X (W0 X) := fun u s' ⟨a, B, sI, pins, σ, H, cls, d, e, I, nb, up, sky, na, os, ag, C, ec, w⟩ => w.2 C rfl u s' ⟨a, B, sI, pins, σ, H, cls, d, e, I, nb, up, sky, na, os, ag, ec, rfl, rfl, rfl⟩
theorem W0.of2 {X : Cx} {W : WX} (t : L2N.Takes X (plainW W)) (tc : TakesC X W) {c : Value} {d : Option Addr} {σ : L2.St} {H : Hp} (h : W c d σ H) : W0 X c d σ H :=
  ⟨fun p => t.imp fun c' d' σ' H' e => by obtain ⟨rfl, rfl, rfl, rfl⟩ := e; exact ⟨p, h⟩, fun C ec => tc.imp fun c' d' σ' H' e => by obtain ⟨rfl, rfl, rfl, rfl⟩ := e; subst ec; exact ⟨C, rfl, h⟩⟩
theorem NoC.takes {X : Cx} {W : WX} (n : NoC W) : TakesC X W := fun _ _ ⟨_, _, _, _, _, _, _, _, _, _, _, _, _, _, _, _, C, _, w⟩ => (n C _ _ _ w).elim
theorem W0.of {X : Cx} {W : WX} (t : L2N.Takes X W) (n : NoC W) {c : Value} {d : Option Addr} {σ : L2.St} {H : Hp} (h : W c d σ H) : W0 X c d σ H := W0.of2 (t.imp fun _ _ _ _ z => z.2) n.takes h
/-- behind a call that let an exception out, with a context or without -/
def CXd (P : Program) (w : World) : CXT := fun outer H s E u s' => L2N.CX P w outer H s (fun c d H' => plainC c ∧ E c d H') u s' ∨ L2.CX P w outer H s (fun c d H' => ∃ C : Addr, c = .ref C ∧ E (ctxd C) d H') u s'
theorem passD' {X : Cx} {W : WX} (tk : L2N.Takes X (plainW W)) (tc : TakesC X W) (σ : L2.St) : PassesAt (CXd X.prog X.w) X σ (WE W σ) := fun pins H s e s' I c => by
  rcases c with c | c
  · exact tk e s' (L2N.XE.of_call I (fun _ _ _ h => h) c)
  · exact tc e s' (L2.XE.of_call I (fun _ _ _ h => h) c)
theorem passD (X : Cx) (σ : L2.St) : PassesAt (CXd X.prog X.w) X σ (WE (W0 X) σ) := passD' (takesW X) (takesC X) σ
theorem cx_noD {P : Program} {w : World} {outer : List Env} {H : Hp} {s : Shared} {u : Value} {s' : Shared} (h : CXd P w outer H s (fun _ _ _ => False) u s') : False := by
  rcases h with ⟨_, _, _, _, _, _, _, _, _, _, _, _, _, z⟩ | ⟨_, _, _, _, _, _, _, _, _, _, _, _, _, _, z⟩
  · exact z
  · exact z
def Xo (X : Cx) (al : List Addr) (F G : Hp) (x : DXS) : Prop := ∀ c fs vs M' al' F' H' o σ', Ext al F al' F' → Wd X.K al' F' G H' M' → Sl X.K F' al' σ' vs → FldOk X.K F' al' o fs → x c fs vs M' → W0 X c o σ' H'
theorem Xo.ext {X : Cx} {al al1 : List Addr} {F F1 G : Hp} {x : DXS} (h : Xo X al F G x) (e : Ext al F al1 F1) : Xo X al1 F1 G x := fun c fs vs M' al' F' H' o σ' e' => h c fs vs M' al' F' H' o σ' (e.trans e')
structure Es (X : Cx) (F G : Hp) (al : List Addr) (σ : L2.St) (ρ : Dn) : Prop where
  sl : Sl X.K F al σ ρ.v
  xo : Xo X al F G ρ.x
theorem Es.get {X : Cx} {F G : Hp} {al : List Addr} {σ : L2.St} {ρ : Dn} (h : Es X F G al σ ρ) : ∀ (i : Nat) (d : D), ρ.v[i]? = some (some d) → ∃ v, σ[i]? = some (some v) ∧ Rp X.K F al v d := h.sl.get
theorem Es.ext {X : Cx} {F F' G : Hp} {al al' : List Addr} {σ : L2.St} {ρ : Dn} (h : Es X F G al σ ρ) (e : Ext al F al' F') : Es X F' G al' σ ρ := ⟨h.sl.ext e, h.xo.ext e⟩
theorem Es.set {X : Cx} {F G : Hp} {al : List Addr} {σ : L2.St} {ρ : Dn} (h : Es X F G al σ ρ) {v : V} {d : D} (r : Rp X.K F al v d) (i : Nat) : Es X F G al (σ.set i (some v)) ⟨ρ.v.set i (some d), ρ.x⟩ := ⟨h.sl.set r i, h.xo⟩
theorem Es.of {X : Cx} {F F' G : Hp} {al al' : List Addr} {σ σ' : L2.St} {ρ ρ' : Dn} (h : Es X F G al σ ρ) (e : Ext al F al' F') (s : Sl X.K F' al' σ' ρ'.v) (q : ρ'.x = ρ.x) : Es X F' G al' σ' ρ' := ⟨s, by rw [q]; exact h.xo.ext e⟩
theorem Es.none {X : Cx} {F G : Hp} {al : List Addr} {σ : L2.St} {ρ : Dn} (s : Sl X.K F al σ ρ.v) (q : ρ.x = noX) : Es X F G al σ ρ := ⟨s, by rw [q]; exact fun _ _ _ _ _ _ _ _ _ _ _ _ _ z => z.elim⟩
/-- what follows, as data -/
def kont (K : PySem.W.Frag) (al : List Addr) (F G : Hp) (Q : VK) : DK := fun d M' => ∀ al' F' H' v, Ext al F al' F' → Wd K al' F' G H' M' → Rp K F' al' v d → Q v H'
def kontB (K : PySem.W.Frag) (al : List Addr) (F G : Hp) (Q : Bool → Hp → Prop) : Bool → Sto → Prop := fun b M' => ∀ al' F' H', Ext al F al' F' → Wd K al' F' G H' M' → Q b H'
def kontA (K : PySem.W.Frag) (al : List Addr) (F G : Hp) (Q : List V → Hp → Prop) : List D → Sto → Prop := fun ds M' => ∀ al' F' H' vs, Ext al F al' F' → Wd K al' F' G H' M' → Rps K F' al' vs ds → Q vs H'
theorem kont.ext {K : PySem.W.Frag} {al al1 : List Addr} {F F1 G : Hp} {Q : VK} {d : D} {M : Sto} (h : kont K al F G Q d M) (e : Ext al F al1 F1) : kont K al1 F1 G Q d M :=
  fun al' F' H' v e' W r => h al' F' H' v (e.trans e') W r
def Lift (X : Cx) (f : DTE) : TE := fun σ H Q => ∃ ρ M al F G, Wd X.K al F G H M ∧ Es X F G al σ ρ ∧ f ρ M (kont X.K al F G Q)
def LiftT (X : Cx) (f : DTT) : TT := fun σ H Q => ∃ ρ M al F G, Wd X.K al F G H M ∧ Es X F G al σ ρ ∧ f ρ M (kontB X.K al F G Q)
def LiftA (X : Cx) (f : DTA) : TA := fun σ H Q => ∃ ρ M al F G, Wd X.K al F G H M ∧ Es X F G al σ ρ ∧ f ρ M (kontA X.K al F G Q)
structure DE (X : Cx) (e : Expr) (f : DTE) : Prop where
  pe : PE X e (Lift X f)
  mono : ∀ ρ M (Q Q' : DK), (∀ d M, Q d M → Q' d M) → f ρ M Q → f ρ M Q'
structure DT (X : Cx) (e : Expr) (f : DTT) : Prop where
  pt : PT X e (LiftT X f)
  mono : ∀ ρ M (Q Q' : Bool → Sto → Prop), (∀ d M, Q d M → Q' d M) → f ρ M Q → f ρ M Q'
structure DW (X : Cx) (e : Expr) (f : DTT) : Prop where
  pw : PW X e (LiftT X f)
  mono : ∀ ρ M (Q Q' : Bool → Sto → Prop), (∀ d M, Q d M → Q' d M) → f ρ M Q → f ρ M Q'
structure DA (X : Cx) (es : List Expr) (f : DTA) : Prop where
  pa : PA X es (LiftA X f)
  mono : ∀ ρ M (Q Q' : List D → Sto → Prop), (∀ d M, Q d M → Q' d M) → f ρ M Q → f ρ M Q'
theorem PE.of {X : Cx} {e : Expr} {t t' : TE} (h : PE X e t) (w : ∀ σ H Q, t' σ H Q → t σ H Q) : PE X e t' := ⟨fun pins s σ H Q I q => h.run pins s σ H Q I (w σ H Q q)⟩
theorem PT.of {X : Cx} {e : Expr} {t t' : TT} (h : PT X e t) (w : ∀ σ H Q, t' σ H Q → t σ H Q) : PT X e t' := ⟨fun pins s σ H Q I q => h.run pins s σ H Q I (w σ H Q q)⟩
theorem PW.of {X : Cx} {e : Expr} {t t' : TT} (h : PW X e t) (w : ∀ σ H Q, t' σ H Q → t σ H Q) : PW X e t' := ⟨fun wh pins s σ H Q I q => h.run wh pins s σ H Q I (w σ H Q q)⟩
theorem PA.of {X : Cx} {e : List Expr} {t t' : TA} (h : PA X e t) (w : ∀ σ H Q, t' σ H Q → t σ H Q) : PA X e t' := ⟨fun pos pins s σ H Q I q => h.run pos pins s σ H Q I (w σ H Q q)⟩
theorem PS.of {X : Cx} {e : Stmt} {t t' : TS} (h : PS X e t) (w : ∀ E σ H, t' E σ H → t E σ H) : PS X e t' := ⟨fun pins s σ H E I q => h.run pins s σ H E I (w E σ H q)⟩
theorem PSs.of {X : Cx} {e : List Stmt} {t t' : TS} (h : PSs X e t) (w : ∀ E σ H, t' E σ H → t E σ H) : PSs X e t' := ⟨fun pins s σ H E I q => h.run pins s σ H E I (w E σ H q)⟩
section
variable {X : Cx}
/-- first a part, then what follows -/
theorem DE.seq {e : Expr} {f : DTE} (h : DE X e f) {ρ : Dn} {M : Sto} {al : List Addr} {F G H : Hp} {σ : L2.St} {R : DK} {P : VK} (W : Wd X.K al F G H M) (s : Es X F G al σ ρ) (q : f ρ M R)
    (k : ∀ d M1 al1 F1 H1 v, R d M1 → Ext al F al1 F1 → Wd X.K al1 F1 G H1 M1 → Rp X.K F1 al1 v d → Es X F1 G al1 σ ρ → P v H1) : Lift X f σ H P :=
  ⟨ρ, M, al, F, G, W, s, h.mono _ _ _ _ (fun d M1 r al1 F1 H1 v e W1 rp => k d M1 al1 F1 H1 v r e W1 rp (s.ext e)) q⟩
theorem DT.seq {e : Expr} {f : DTT} (h : DT X e f) {ρ : Dn} {M : Sto} {al : List Addr} {F G H : Hp} {σ : L2.St} {R : Bool → Sto → Prop} {P : Bool → Hp → Prop} (W : Wd X.K al F G H M) (s : Es X F G al σ ρ) (q : f ρ M R)
    (k : ∀ d M1 al1 F1 H1, R d M1 → Ext al F al1 F1 → Wd X.K al1 F1 G H1 M1 → Es X F1 G al1 σ ρ → P d H1) : LiftT X f σ H P :=
  ⟨ρ, M, al, F, G, W, s, h.mono _ _ _ _ (fun d M1 r al1 F1 H1 e W1 => k d M1 al1 F1 H1 r e W1 (s.ext e)) q⟩
theorem DA.seq {e : List Expr} {f : DTA} (h : DA X e f) {ρ : Dn} {M : Sto} {al : List Addr} {F G H : Hp} {σ : L2.St} {R : List D → Sto → Prop} {P : List V → Hp → Prop} (W : Wd X.K al F G H M) (s : Es X F G al σ ρ) (q : f ρ M R)
    (k : ∀ d M1 al1 F1 H1 v, R d M1 → Ext al F al1 F1 → Wd X.K al1 F1 G H1 M1 → Rps X.K F1 al1 v d → Es X F1 G al1 σ ρ → P v H1) : LiftA X f σ H P :=
  ⟨ρ, M, al, F, G, W, s, h.mono _ _ _ _ (fun d M1 r al1 F1 H1 v e W1 rp => k d M1 al1 F1 H1 v r e W1 rp (s.ext e)) q⟩
@[reducible] def dVar (i : Nat) : DTE := fun ρ M Q => match ρ.v[i]? with
  | some (some d) => Q d M
  | _ => False
@[reducible] def dC (d : D) : DTE := fun _ M Q => Q d M
theorem d_var (i : Nat) {x : Str} {pos : Pos} (hN : X.N[i]? = some x) (hv : Vis X.env.scope x) (hd : (x == ("__debug__" : Str)) = false := by decide) (hcd : (x == ("__classdict__" : Str)) = false := by decide) : DE X (.Name x pos) (dVar i) := by
  refine ⟨PE.of (pe_var hN hv hd hcd) fun σ H Q ⟨ρ, M, al, F, G, W, s, q⟩ => ?_, fun ρ M Q Q' w q => ?_⟩
  · unfold dVar at q
    split at q
    · next d e =>
      obtain ⟨v, h1, h2⟩ := s.get i d e
      exact ⟨v, h1, q al F H v (Ext.refl _ _) W h2⟩
    · exact q.elim
  · unfold dVar at q ⊢
    split at q
    · next d e => exact w _ _ q
    · exact q.elim
theorem d_const {e : Expr} {v : V} {d : D} (h : PE X e (tC v)) (r : ∀ F al, Rp X.K F al v d) : DE X e (dC d) :=
  ⟨PE.of h fun _ H _ ⟨_, _, al, F, _, W, _, q⟩ => q al F H v (Ext.refl _ _) W (r F al), fun _ _ _ _ w q => w _ _ q⟩
theorem d_int {i j pos} : DE X (.Constant (.int i) j pos) (dC (.int i)) := d_const pe_int fun _ _ => .int i
theorem d_bl {b j pos} : DE X (.Constant (.bool b) j pos) (dC (.bl b)) := d_const pe_bl fun _ _ => .bl b
theorem d_non {j pos} : DE X (.Constant .none j pos) (dC .non) := d_const pe_non fun _ _ => .non
theorem d_str {x j pos} : DE X (.Constant (.str x) j pos) (dC (.str x)) := d_const pe_str fun _ _ => .str x
/-- a module's constant int -/
theorem d_glob {x : Str} {i : Int} {t : Tok} {pos : Pos} (hg : Gl X x) (hm : X.mg x = some (.int i t)) (hd : (x == ("__debug__" : Str)) = false := by decide) : DE X (.Name x pos) (dC (.int i)) :=
  d_const (pe_glob (v := .int i) hg hm ⟨t, rfl⟩ hd) fun _ _ => .int i
theorem d_globS {x : Str} {i : Str} {t : Tok} {pos : Pos} (hg : Gl X x) (hm : X.mg x = some (.str i t)) (hd : (x == ("__debug__" : Str)) = false := by decide) : DE X (.Name x pos) (dC (.str i)) :=
  d_const (pe_glob (v := .str i) hg hm ⟨t, rfl⟩ hd) fun _ _ => .str i
abbrev G2 := D → D → Sto → DK → Prop
abbrev G1 := D → Sto → DK → Prop
abbrev GN := List D → Sto → DK → Prop
def Mono2 (g : G2) : Prop := ∀ x y M (Q Q' : DK), (∀ d M, Q d M → Q' d M) → g x y M Q → g x y M Q'
def Mono1 (g : G1) : Prop := ∀ x M (Q Q' : DK), (∀ d M, Q d M → Q' d M) → g x M Q → g x M Q'
def MonoN (g : GN) : Prop := ∀ x M (Q Q' : DK), (∀ d M, Q d M → Q' d M) → g x M Q → g x M Q'
/-- a two-place operation of the machine, by data -/
structure O2 (X : Cx) (f : Value → Value → Sem Value) (g : G2) : Prop where
  run : ∀ (pins : List (Addr × Obj)) (s : Shared) (σ : L2.St) (al : List Addr) (F G H : Hp) (M : Sto) (x y : V) (v u : Value) (dx dy : D) (Q : VK), Inv X pins σ H s → RelV x v → RelV y u → Wd X.K al F G H M → Rp X.K F al x dx → Rp X.K F al y dy →
    g dx dy M (kont X.K al F G Q) → wpAny (model X.prog X.w) X.A (f v u) (EP X pins σ Q) X.xe s
  mono : Mono2 g
structure O1 (X : Cx) (f : Value → Sem Value) (g : G1) : Prop where
  run : ∀ (pins : List (Addr × Obj)) (s : Shared) (σ : L2.St) (al : List Addr) (F G H : Hp) (M : Sto) (x : V) (v : Value) (dx : D) (Q : VK), Inv X pins σ H s → RelV x v → Wd X.K al F G H M → Rp X.K F al x dx →
    g dx M (kont X.K al F G Q) → wpAny (model X.prog X.w) X.A (f v) (EP X pins σ Q) X.xe s
  mono : Mono1 g
/-- a call of a value, by data -/
structure ON (X : Cx) (f : Value) (g : GN) : Prop where
  run : ∀ (pins : List (Addr × Obj)) (s : Shared) (σ : L2.St) (al : List Addr) (F G H : Hp) (M : Sto) (xs : List V) (us : List Value) (ds : List D) (Q : VK), Inv X pins σ H s → Vals xs us → Wd X.K al F G H M → Rps X.K F al xs ds →
    g ds M (kont X.K al F G Q) → wpAny (model X.prog X.w) X.A (call f us) (EP X pins σ Q) X.xe s
  mono : MonoN g
@[reducible] def dBin (g : G2) (fa fb : DTE) : DTE := fun ρ M Q => fa ρ M fun x M1 => fb ρ M1 fun y M2 => g x y M2 Q
@[reducible] def dUn (g : G1) (fa : DTE) : DTE := fun ρ M Q => fa ρ M fun x M1 => g x M1 Q
@[reducible] def dNil : DTA := fun _ M Q => Q [] M
@[reducible] def dCons (fa : DTE) (fr : DTA) : DTA := fun ρ M Q => fa ρ M fun x M1 => fr ρ M1 fun xs M2 => Q (x :: xs) M2
@[reducible] def dApp (g : GN) (fa : DTA) : DTE := fun ρ M Q => fa ρ M fun xs M1 => g xs M1 Q
variable {a b c : Expr} {fa fb fc : DTE} {pos : Pos}
theorem dBin_mono {g : G2} (hg : Mono2 g) (ha : DE X a fa) (hb : DE X b fb) : ∀ ρ M (Q Q' : DK), (∀ d M, Q d M → Q' d M) → dBin g fa fb ρ M Q → dBin g fa fb ρ M Q' :=
  fun ρ M Q Q' w q => ha.mono _ _ _ _ (fun x M1 q1 => hb.mono _ _ _ _ (fun y M2 q2 => hg x y M2 Q Q' w q2) q1) q
/-- the two operands' run, then the operation -/
theorem bin2 {g : G2} {f : Value → Value → Sem Value} (ho : O2 X f g) (ha : DE X a fa) (hb : DE X b fb) {pins : List (Addr × Obj)} {s : Shared} {σ : L2.St} {H : Hp} {Q : VK} (I : Inv X pins σ H s) (h : Lift X (dBin g fa fb) σ H Q) :
    wpAny (model X.prog X.w) X.A (eval a X.env) (fun v s₁ => wpAny (model X.prog X.w) X.A (eval b X.env) (fun u s₂ => wpAny (model X.prog X.w) X.A (f v u) (EP X pins σ Q) X.xe s₂) X.xe s₁) X.xe s := by
  obtain ⟨ρ, M, al, F, G, W, es, q⟩ := h
  refine bin ha.pe hb.pe (R := fun x y H2 => ∃ dx dy M2 al2 F2, Wd X.K al2 F2 G H2 M2 ∧ Rp X.K F2 al2 x dx ∧ Rp X.K F2 al2 y dy ∧ g dx dy M2 (kont X.K al2 F2 G Q)) I ?_ fun v u s2 x y H2 I2 rx ry h2 => ?_
  · refine ha.seq W es q fun dx M1 al1 F1 H1 v q1 e1 W1 r1 s1 => ?_
    refine hb.seq W1 s1 q1 fun dy M2 al2 F2 H2 u q2 e2 W2 r2 s2 => ?_
    exact ⟨dx, dy, M2, al2, F2, W2, r1.ext e2, r2, ho.mono _ _ _ _ _ (fun d M3 k => k.ext (e1.trans e2)) q2⟩
  · obtain ⟨dx, dy, M2, al2, F2, W2, r1, r2, k⟩ := h2
    exact ho.run pins s2 σ al2 F2 G H2 M2 x y v u dx dy Q I2 rx ry W2 r1 r2 k
theorem d_op {op : Operator} {g : G2} (ho : O2 X (binaryOp op) g) (ha : DE X a fa) (hb : DE X b fb) : DE X (.BinOp a op b pos) (dBin g fa fb) :=
  ⟨⟨fun pins s σ H Q I h => wpAny_BinOp (bin2 ho ha hb I h)⟩, dBin_mono ho.mono ha hb⟩
theorem d_cmp {op : CmpOp} {g : G2} (ho : O2 X (compareOp op) g) (ha : DE X a fa) (hb : DE X b fb) (hm : behindInMarks op b = false := by first | exact nobehind _ (by decide) (by decide) | rfl) : DE X (.Compare a [op] [b] pos) (dBin g fa fb) :=
  ⟨⟨fun pins s σ H Q I h => wpAny_Compare1 (bin2 ho ha hb I h) hm⟩, dBin_mono ho.mono ha hb⟩
theorem d_un {op : UnaryOp} {g : G1} (ho : O1 X (unaryOp op) g) (ha : DE X a fa) : DE X (.UnaryOp op a pos) (dUn g fa) := by
  refine ⟨⟨fun pins s σ H Q I h => ?_⟩, fun ρ M Q Q' w q => ha.mono _ _ _ _ (fun x M1 q1 => ho.mono x M1 Q Q' w q1) q⟩
  obtain ⟨ρ, M, al, F, G, W, es, q⟩ := h
  have hl : Lift X fa σ H (fun x H1 => ∃ dx M1 al1 F1, Wd X.K al1 F1 G H1 M1 ∧ Rp X.K F1 al1 x dx ∧ g dx M1 (kont X.K al1 F1 G Q)) :=
    ha.seq W es q fun dx M1 al1 F1 H1 v q1 e1 W1 r1 s1 => ⟨dx, M1, al1, F1, W1, r1, ho.mono _ _ _ _ (fun d M3 k => k.ext e1) q1⟩
  refine UnaryOp_ (thn (ha.pe.run pins s σ H _ I hl) fun v s1 ⟨x, H1, I1, rx, dx, M1, al1, F1, W1, r1, k⟩ => ?_)
  exact ho.run pins s1 σ al1 F1 G H1 M1 x v dx Q I1 rx W1 r1 k
theorem d_nil : DA X [] dNil := ⟨PA.of pa_nil fun _ H _ ⟨_, _, al, F, _, W, _, q⟩ => q al F H [] (Ext.refl _ _) W .nil, fun _ _ _ _ w q => w _ _ q⟩
theorem d_cons {es : List Expr} {fr : DTA} (ha : DE X a fa) (hr : DA X es fr) (hs : starEach (a :: es) X.env = (false, eval a X.env) :: starEach es X.env := by rfl) : DA X (a :: es) (dCons fa fr) := by
  refine ⟨PA.of (pa_cons ha.pe hr.pa hs) fun σ H Q ⟨ρ, M, al, F, G, W, es, q⟩ => ?_, fun ρ M Q Q' w q => ha.mono _ _ _ _ (fun x M1 q1 => hr.mono _ _ _ _ (fun y M2 q2 => w _ _ q2) q1) q⟩
  refine ha.seq W es q fun dx M1 al1 F1 H1 v q1 e1 W1 r1 s1 => ?_
  refine hr.seq W1 s1 q1 fun dy M2 al2 F2 H2 u q2 e2 W2 r2 s2 => ?_
  exact q2 al2 F2 H2 _ (e1.trans e2) W2 (.cons (r1.ext e2) r2)
/-- the value-rules of the layer, as data-rules -/
theorem O2.of {f : Value → Value → Sem Value} {r : R2} {g : G2} (h : OpR X f r) (m : Mono2 g)
    (k : ∀ al F G H M x y dx dy Q, Wd X.K al F G H M → Rp X.K F al x dx → Rp X.K F al y dy → g dx dy M (kont X.K al F G Q) → r x y H Q) : O2 X f g :=
  ⟨fun pins s σ al F G H M x y v u dx dy Q I rx ry W r1 r2 q => h pins s σ H x y v u Q I rx ry (k al F G H M x y dx dy Q W r1 r2 q), m⟩
theorem ON.of {f : Value} {r : List V → Hp → VK → Prop} {g : GN} (h : CallR X f r) (m : MonoN g)
    (k : ∀ al F G H M xs ds Q, Wd X.K al F G H M → Rps X.K F al xs ds → g ds M (kont X.K al F G Q) → r xs H Q) : ON X f g :=
  ⟨fun pins s σ al F G H M xs us ds Q I rx W r1 q => h pins s σ H xs us Q I rx (k al F G H M xs ds Q W r1 q), m⟩
end
end DL
namespace DL
open PySem PySem.Spec PyProof.Rows L2
/-- a def keeps its promise, wherever no repr is under way -/
structure FnG (P : Program) (w : World) (K : PySem.W.Frag) (mg : Str → Option Value) (base : Heap) (CX : CXT) (k : Nat) (f : Addr) (fd : FuncData) (ps : List Str) (sp : Sp) : Prop where
  len : ∀ vs H Q E, sp vs H Q E → vs.length = ps.length
  run : ∀ (A : Around) (outer : List Env) (s : Shared) (H : Hp) (args : Args) (us : List Value) (vs : List V) (Q : VK) (E : XK), A.guards = some [] → Room k A → Env0 P w K mg base A outer s H → BindsTo s fd args (ps.zip us) → Vals vs us →
    sp vs H Q E → codeAny (model P w) A (Code.call (Value.ref f) args) (CR CX outer P w H s Q E) s
theorem FnG.mono {P : Program} {w : World} {K : PySem.W.Frag} {mg : Str → Option Value} {base : Heap} {CX : CXT} {j k : Nat} {f : Addr} {fd : FuncData} {ps : List Str} {sp : Sp} (h : FnG P w K mg base CX j f fd ps sp) (le : j ≤ k) : FnG P w K mg base CX k f fd ps sp :=
  ⟨h.len, fun A outer s H args us vs Q E hg hr => h.run A outer s H args us vs Q E hg (hr.mono le)⟩
section
variable {P : Program} {w : World} {K : PySem.W.Frag} {mg : Str → Option Value} {base : Heap}
theorem fnG_of {CX : CXT} {k : Nat} {f : Addr} {x qual : Str} {st : Stmt} {fd : FuncData} {N ps : List Str} {sp : Sp} (F : Fun K x qual st f fd) (S : FnScope N ps (defScope st)) (len : ∀ vs H Q E, sp vs H Q E → vs.length = ps.length)
    (body : ∀ (cdv : Value), fd.code = cdv → ∀ (A : Around) (outer : List Env) (s : Shared) (H : Hp) (vs : List V) (Q : VK) (E : XK), (A.deeper (envOfC qual (defScope st) s.heap.objs.size f cdv)).guards = some [] → Room k (A.deeper (envOfC qual (defScope st) s.heap.objs.size f cdv)) → sp vs H Q E →
      ∃ t, PSs (cxOf CX P w K mg base N qual (defScope st) f cdv A outer s H E) (defBody st) t ∧ t { nx := fun _ H' => Q .non H', rt := Q } (start N vs) H) : FnG P w K mg base CX (k + 1) f fd ps sp := by
  obtain ⟨oc, od, kV, doc, pm, an, cdv, ct, osl, rfl, lk, hcd⟩ := F.ex
  refine ⟨len, fun A outer s H args us vs Q E hgd hr e0 hbi rv hsp => ?_⟩
  have KI : K.In s.heap := e0.mod.kin.keeps fun b o e => (e0.bs b o e).1
  have nolim : s.heap.NoLimit := e0.mod.nolimit.keeps fun b o e => (e0.bs b o e).1
  have kinds : ∀ y ∈ ps.zip us, (defScope st).names.lookup y.1 = some .local ∨ ((defScope st).names.lookup y.1 = some .cell ∧ ((cellsFrom (s.heap.objs.size + 1) (defScope st).names []).lookup y.1).isSome = true) := by
    rintro ⟨n, v⟩ hy
    exact (S.par n (List.of_mem_zip hy).1).imp id fun q => ⟨q, PySem.W.cellsFrom_some _ _ _ (.inl q)⟩
  refine codeAny_call_function hr.depth (KI _ _ lk) rfl S.co S.gen rfl (PySem.W.codeRec_of KI hcd) (hbi _ _ _ _ (wpAny_newFunctionEnv_cells S.kind kinds fun env henv s1 ic => ?_))
  subst henv
  refine ⟨nolim.keeps ic.toInCall.keep, codeAny_func ?_⟩
  obtain ⟨t, pt, tq⟩ := body cdv rfl A outer s H vs Q E hgd (hr.deeper _) hsp
  have J0 : Inv (cxOf CX P w K mg base N qual (defScope st) f cdv A outer s H E) [] (start N vs) H s1 := inv_start S hr.hd e0 (len _ _ _ _ hsp) rv ic
  refine wpAny_mono (pt.run [] s1 (start N vs) H _ J0 tq) (fun fl s' z => ?_) fun _ _ z => z
  cases fl with
  | ret u => obtain ⟨v, σ', H', J, r, q⟩ := z; exact ⟨v, H', J.os, J.bare, J.base, J.hok, r, q⟩
  | next => obtain ⟨σ', H', J, q⟩ := z; exact ⟨V.non, H', J.os, J.bare, J.base, J.hok, rfl, q⟩
  | brk => obtain ⟨_, _, _, q⟩ := z; exact q.elim
  | cont => obtain ⟨_, _, _, q⟩ := z; exact q.elim
end
section
variable {X : Cx} {CX : CXT} {k : Nat} {f : Addr} {fd : FuncData} {ps : List Str} {sp : Sp} {dvs : List V} {dds : List Value} {E : XK}
theorem runGS {pins : List (Addr × Obj)} {σ : L2.St} {H : Hp} {s : Shared} {Q : VK} {us : List Value} {vs : List V} {E : L2.St → XK} (F : FnG X.prog X.w X.K X.mg X.base CX k f fd ps sp) (hgd : X.A.guards = some []) (hr : Room k X.A) (hb : Binds X.K fd ps dds) (hd : Vals dvs dds) (hx : PassesAt CX X σ (E σ))
    (I : Inv X pins σ H s) (r : Vals vs us) (h : sp (vs ++ dvs) H Q (E σ)) : wpAny (model X.prog X.w) X.A (call (.ref f) us) (EP X pins σ Q) X.xe s := by
  have rr : Vals (vs ++ dvs) (us ++ dds) := r.append hd
  have ll : (us ++ dds).length = ps.length := rr.length.symm.trans (F.len _ _ _ _ h)
  refine wpAny_call (codeAny_mono (F.run X.A X.stack s H ⟨us, []⟩ _ _ Q (E σ) hgd hr I.env0 (hb s us I.kIn ll) rr h) fun res s' z => ?_)
  match res, z with
  | .error e, z => exact hx pins H s e s' I z
  | .ok (.ret u), z => exact I.after z
  | .ok .next, z => exact z.elim
  | .ok .brk, z => exact z.elim
  | .ok .cont, z => exact z.elim
/-- a call whose exceptions are told with the slots -/
def tCallSD' (sp : Sp) (dvs : List V) (E : L2.St → XK) (t : TA) : TE := fun σ H Q => t σ H fun vs H1 => sp (vs ++ dvs) H1 Q (E σ)
theorem peG_callS {x : Str} {p pos : Pos} {e : Expr} {es : List Expr} {t : TA} {E : L2.St → XK} (F : FnG X.prog X.w X.K X.mg X.base CX k f fd ps sp) (hgd : X.A.guards = some []) (hr : Room k X.A) (hg : Gl X x) (hm : X.mg x = some (.ref f)) (hk : PySem.W.keepIn X.K (.ref f) = true) (hb : Binds X.K fd ps dds) (hd : Vals dvs dds) (hx : ∀ σ, PassesAt CX X σ (E σ))
    (ha : PA X (e :: es) t) (hdb : (x == ("__debug__" : Str)) = false := by decide) (he : starEach (e :: es) X.env = (false, eval e X.env) :: starEach es X.env := by rfl) (hpl : (backTo pos (starEach es X.env)).any (·.1) = false := by rfl) :
    PE X (.Call (.Name x p) (e :: es) [] pos) (tCallSD' sp dvs E t) :=
  ⟨fun pins s σ H Q I h => wpAny_Call_Name_kw (ld_glob I hg hm (PySem.W.callWith_K (h₀ := X.base) I.ok.mod.kin hk (thn (ha.run pos pins s σ H _ I h) fun us s1 ⟨vs, H1, I1, r, q⟩ => ⟨I1.kIn, runGS F hgd hr hb hd (hx σ) I1 r q⟩) he hpl) hdb)⟩
end
theorem law_callG {P : Program} {w : World} {K : PySem.W.Frag} {mg mb : Str → Option Value} {CX : CXT} {k : Nat} {fa a : Addr} {fd : FuncData} {x : Str} {sp : Sp} {t0 : Shared} {vs : List Value} {ns : List Int}
    (KI : K.In t0.heap) (hglob : t0.heap.Ns mainGlobals mg) (hblt : t0.heap.Ns builtinsNs mb) (hbo : ∀ x : Str, x ≠ "__name__" → mb x = bootBuiltins x) (hlim : t0.heap.NoLimit) (hgen : t0.gens = #[])
    (ha : t0.heap.get? a = some { cls := .type "list", data := .seq vs.toArray }) (hi : IntsAre vs ns) (hl : ns.length ≤ sizeLine) (hr : Room k callerA) (TH : TabsH K t0.heap)
    (F : ∀ base : Heap, K.In base → base.Ns mainGlobals mg → FnG P w K mg base CX k fa fd [x] sp) (hbind : ∀ (s : Shared) (u : Value), BindsTo s fd ⟨[u], []⟩ [(x, u)])
    (hsp : ∀ H : Hp, (∀ p ∈ Tk K, H p.1 = some (.tbl #[])) → SqL K H a (ns.map V.int) → sp [.ref a] H (fun v _ => v = .bl true) fun _ _ _ => False)
    (hCX : ∀ H e s', CX [] H t0 (fun _ _ _ => False) e s' → False) :
    codeAny (model P w) callerA (.call (.ref fa) ⟨[.ref a], []⟩) (fun r s' => r = .ok (.ret (.bool true)) ∧ OldK t0.heap s'.heap ∧ s'.os = t0.os ∧ AllBare s'.gens) t0 := by
  let tb : Addr → Bool := fun b => (Tk K).any fun p => decide (p.1 = b)
  have tbE : ∀ b, tb b = true → ∃ p ∈ Tk K, p.1 = b := fun b h => by
    obtain ⟨p, hp, e⟩ := List.any_eq_true.mp h
    exact ⟨p, hp, of_decide_eq_true e⟩
  have tbI : ∀ p ∈ Tk K, tb p.1 = true := fun p hp => List.any_eq_true.mpr ⟨p, hp, decide_eq_true rfl⟩
  have tbO : ∀ b, tb b = true → t0.heap.get? b = some { cls := .none, data := .fields #[] } := fun b h => by
    obtain ⟨p, hp, rfl⟩ := tbE b h
    exact (TH p hp).1
  have tba : tb a = false := by
    cases h : tb a with
    | false => rfl
    | true =>
      have e := tbO a h
      rw [ha] at e
      have z : Data.seq vs.toArray _ = Data.fields #[] := congrArg Obj.data (Option.some.inj e)
      exact nomatch z
  have key : ∀ H : Hp, (∀ p ∈ Tk K, H p.1 = some (.tbl #[])) → (∀ b, tb b = false → H b = none ∨ ∃ o xs, H b = some (.frz o (.lst xs))) → SqL K H a (ns.map V.int) → HOk P w H t0.heap → (∀ b, H b ≠ none → b = a ∨ tb b = true) → (H a ≠ none → K.lookup a = none) →
      codeAny (model P w) callerA (.call (.ref fa) ⟨[.ref a], []⟩) (fun r s' => r = .ok (.ret (.bool true)) ∧ OldK t0.heap s'.heap ∧ s'.os = t0.os ∧ AllBare s'.gens) t0 := by
    intro H hH hO hS hok hA hK
    have free : ∀ {b : Addr} {o : Obj} {es : Array DictEntry} {ep : Nat}, t0.heap.get? b = some o → o.data = .dict es ep → H b = none := by
      intro b o es ep e d
      cases q : H b with
      | none => rfl
      | some u =>
        rcases hA b (by rw [q]; simp) with z | z
        · subst z
          rw [ha] at e
          cases e
          exact absurd (show Data.seq vs.toArray _ = Data.dict es ep from d) (fun y => nomatch y)
        · rw [tbO b z] at e
          cases e
          exact absurd (show Data.fields #[] = Data.dict es ep from d) (fun y => nomatch y)
    have nsH : ∀ {b : Addr} {m : Str → Option Value}, t0.heap.Ns b m → (hidT t0.heap H).Ns b m := fun {b m} ⟨o, es, ep, e, d, r⟩ => ⟨o, es, ep, hidT_get e (free e d), d, r⟩
    have KH : K.In (hidT t0.heap H) := by
      intro b o e
      refine hidT_get (KI b o e) ?_
      cases q : H b with
      | none => rfl
      | some u =>
        rcases hA b (by rw [q]; simp) with z | z
        · subst z
          have := hK (by rw [q]; simp)
          rw [this] at e
          cases e
        · obtain ⟨p, hp, rfl⟩ := tbE b z
          rw [(TH p hp).2.1] at e
          cases e
    obtain ⟨mc, l1, l2⟩ := hlim
    have md : Mod K mg (hidT t0.heap H) := ⟨KH, nsH hglob, ⟨mb, nsH hblt, hbo⟩, mc, nsH l1, l2⟩
    have e0 : Env0 P w K mg (hidT t0.heap H) callerA [] t0 H := ⟨rfl, md, fun b o e => of_hidT e, Nat.le_of_eq (hidT_size _ _), trivial, fun b z => (List.not_mem_nil z).elim, hok, .of_eq hgen⟩
    refine codeAny_mono ((F _ KH (nsH hglob)).run callerA [] t0 H ⟨[.ref a], []⟩ [.ref a] [.ref a] _ _ rfl hr e0 (hbind t0 (.ref a)) (.cons rfl .nil) (hsp H hH hS)) fun res s' z => ?_
    match res, z with
    | .error e, z => exact (hCX H e s' z).elim
    | .ok .next, z => exact z.elim
    | .ok .brk, z => exact z.elim
    | .ok .cont, z => exact z.elim
    | .ok (.ret u), z =>
      obtain ⟨v, H', os, bare, un, hok', r', q⟩ := z
      obtain rfl : v = .bl true := q
      obtain rfl : u = Value.bool true := r'
      have old : ∀ b o, tb b = false → t0.heap.get? b = some o → s'.heap.get? b = some o := fun b o nb e => by
        cases y : H b with
        | none => exact un.keep b o e y (fun z => (List.not_mem_nil z).elim) List.not_mem_nil
        | some u =>
          rcases hO b nb with n | ⟨ob, xs, n⟩
          · rw [y] at n; cases n
          · have c1 := (hok b _ n).1
            have c2 := (hok' b _ (un.frzs b ob _ n)).1
            rw [e] at c1
            cases c1
            exact c2
      have grew : ∀ p ∈ Tk K, ∃ more : Array Value, s'.heap.get? p.1 = some { cls := .none, data := .fields (#[] ++ more) } := fun p hp => by
        obtain ⟨more, z⟩ := un.tbls p.1 #[] (hH p hp)
        exact ⟨more, hok' p.1 _ z⟩
      refine ⟨rfl, ⟨fun b o e => ?_, fun b o e => ?_⟩, os, bare⟩
      · cases hb : tb b with
        | false => exact .inl (old b o hb e)
        | true =>
          obtain ⟨p, hp, rfl⟩ := tbE b hb
          obtain ⟨t1, _, c, t3⟩ := TH p hp
          obtain ⟨more, g⟩ := grew p hp
          rw [t1] at e
          cases e
          exact .inr (.inl ⟨((PySem.W.codeHd_of_K KI t3).tab t1).isCodeTable, rfl, #[], more, rfl, g⟩)
      · cases hb : tb b with
        | false => exact ⟨o, old b o hb e⟩
        | true =>
          obtain ⟨p, hp, rfl⟩ := tbE b hb
          obtain ⟨more, g⟩ := grew p hp
          exact ⟨_, g⟩
  cases hk : K.lookup a with
  | some o =>
    have e := KI a o hk
    rw [ha] at e
    cases e
    refine key (fun b => if tb b = true then some (.tbl #[]) else none) (fun p hp => if_pos (tbI p hp)) (fun b nb => .inl (if_neg (by rw [nb]; exact Bool.false_ne_true))) (.inr ⟨_, vs.toArray, _, hk, rfl, rfl, rfl, by rw [List.size_toArray, hi.length]; exact hl, by simpa using vals_ints hi⟩) (fun b u z => ?_) (fun b z => ?_) (fun z => absurd (if_neg (by rw [tba]; exact Bool.false_ne_true)) z)
    · dsimp only at z
      split at z
      · next hb =>
        cases z
        exact tbO b hb
      · cases z
    · cases hb : tb b with
      | true => exact .inr rfl
      | false => exact absurd (if_neg (by rw [hb]; exact Bool.false_ne_true)) z
  | none =>
    let ob : Obj := { cls := .type "list", data := .seq vs.toArray }
    have na : ∀ b, tb b = true → b ≠ a := fun b hb z => by rw [z, tba] at hb; cases hb
    refine key (upd (fun b => if tb b = true then some (.tbl #[]) else none) a (.frz ob (.lst (ns.map V.int)))) (fun p hp => (upd_ne (na _ (tbI p hp))).trans (if_pos (tbI p hp))) (fun b nb => ?_) (.inl (.inr ⟨ob, upd_same⟩)) (fun b u z => ?_) (fun b z => ?_) fun _ => hk
    · by_cases hb : b = a
      · subst hb; exact .inr ⟨_, _, upd_same⟩
      · exact .inl ((upd_ne hb).trans (if_neg (by rw [nb]; exact Bool.false_ne_true)))
    · by_cases hb : b = a
      · subst hb
        rw [upd_same] at z
        cases z
        exact ⟨ha, by rw [List.length_map]; exact hl, vs, _, vals_ints hi, ha⟩
      · rw [upd_ne hb] at z
        split at z
        · next hb2 =>
          cases z
          exact tbO b hb2
        · cases z
    · by_cases hb : b = a
      · exact .inl hb
      · cases hb2 : tb b with
        | true => exact .inr rfl
        | false =>
          rw [upd_ne hb] at z
          exact absurd (if_neg (by rw [hb2]; exact Bool.false_ne_true)) z
theorem cx_no {P : Program} {w : World} {outer : List Env} {H : Hp} {s : Shared} {u : Value} {s' : Shared} (h : CXd P w outer H s (fun _ _ _ => False) u s') : False := cx_noD h
end DL
namespace DL
open PySem PySem.Spec PyProof.Rows L2
@[reducible] def gTru : D → Sto → (Bool → Sto → Prop) → Prop
  | .non, M, Q => Q false M
  | .bl b, M, Q => Q b M
  | .int i, M, Q => Q (i != 0) M
  | .str x, M, Q => x.length ≤ sizeLine ∧ Q ((x.length : Int) != 0) M
  | .tup ds, M, Q => Q (!ds.isEmpty) M
  | .lst ds, M, Q => Q (!ds.isEmpty) M
  | .ref n, M, Q => match M[n]? with
    | some (.lst ds) => Q (!ds.isEmpty) M
    | _ => False
  | _, _, _ => False
@[reducible] def dTru (f : DTE) : DTT := fun ρ M Q => f ρ M fun d M1 => gTru d M1 Q
theorem gTru_mono (d : D) (M : Sto) (Q Q' : Bool → Sto → Prop) (w : ∀ b M, Q b M → Q' b M) (h : gTru d M Q) : gTru d M Q' := by
  cases d with
  | non => exact w _ _ h
  | bl b => exact w _ _ h
  | int i => exact w _ _ h
  | str x => exact ⟨h.1, w _ _ h.2⟩
  | tup ds => exact w _ _ h
  | lst ds => exact w _ _ h
  | dct ks ds => exact h.elim
  | scr ns => exact h.elim
  | exo a c o ks ds => exact h.elim
  | clo f fo vs ds => exact h.elim
  | ref n =>
    unfold gTru at h ⊢
    dsimp only at h ⊢
    split at h
    · exact w _ _ h
    · exact h.elim
theorem isEmpty_len {α β : Type} {xs : List α} {ys : List β} (h : xs.length = ys.length) : (!xs.isEmpty) = (!ys.isEmpty) := by
  cases xs <;> cases ys <;> simp at h <;> rfl
theorem gTru_ok {K : PySem.W.Frag} {al : List Addr} {F G H : Hp} {M : Sto} {v : V} {d : D} {Q : Bool → Hp → Prop} (W : Wd K al F G H M) (r : Rp K F al v d) (h : gTru d M (kontB K al F G Q)) : ∃ k, TruV K v H k ∧ Q k H := by
  cases r with
  | non => exact ⟨false, rfl, h al F H (Ext.refl _ _) W⟩
  | bl b => exact ⟨b, rfl, h al F H (Ext.refl _ _) W⟩
  | int i => exact ⟨_, rfl, h al F H (Ext.refl _ _) W⟩
  | str x => exact ⟨_, ⟨h.1, rfl⟩, h.2 al F H (Ext.refl _ _) W⟩
  | tup a b => exact ⟨_, .inr (.inl ⟨_, SqT.of (W.sm _ _ a), (isEmpty_len b.length).symm⟩), h al F H (Ext.refl _ _) W⟩
  | lst a b => exact ⟨_, .inl ⟨_, SqL.of (W.sm _ _ a), (isEmpty_len b.length).symm⟩, h al F H (Ext.refl _ _) W⟩
  | dct a l b => exact h.elim
  | scr a => exact h.elim
  | exo0 => exact h.elim
  | exo a l b => exact h.elim
  | clo a b => exact h.elim
  | ref a =>
    unfold gTru at h
    dsimp only at h
    split at h
    · next ds e =>
      obtain ⟨xs, q, rs⟩ := W.cel _ _ _ e a
      exact ⟨_, .inl ⟨xs, SqL.of q, (isEmpty_len rs.length).symm⟩, h al F H (Ext.refl _ _) W⟩
    · exact h.elim
section
variable {X : Cx} {a b c : Expr} {fa fb fc : DTE} {pos : Pos} {ta tb : DTT} {rest : List Expr}
/-- any expression as a test -/
theorem dt_val (h : DE X a fa) (he : ∀ whole, isTrue a X.env whole = (do let v ← whole; standAt a.pos; holding [v] (truthy v)) := by intro _; rfl) : DT X a (dTru fa) := by
  refine ⟨PT.of (pt_truth h.pe he) fun σ H Q ⟨ρ, M, al, F, G, W, es, q⟩ => ?_, fun ρ M Q Q' w q => h.mono _ _ _ _ (fun d M1 q1 => gTru_mono d M1 Q Q' w q1) q⟩
  refine h.seq W es q fun d M1 al1 F1 H1 v q1 e1 W1 r1 s1 => ?_
  exact gTru_ok W1 r1 (gTru_mono _ _ _ _ (fun b M2 k al' F' H' e' W' => k al' F' H' (e1.trans e') W') q1)
@[reducible] def dBl (f : DTE) : DTT := fun ρ M Q => f ρ M fun d M1 => match d with
  | .bl b => Q b M1
  | _ => False
theorem dBl_mono (h : DE X a fa) : ∀ ρ M (Q Q' : Bool → Sto → Prop), (∀ d M, Q d M → Q' d M) → dBl fa ρ M Q → dBl fa ρ M Q' := fun ρ M Q Q' w q => h.mono _ _ _ _ (fun d M1 q1 => by
  cases d <;> first | exact w _ _ q1 | exact q1.elim) q
/-- a comparison as a test -/
theorem dt_cmp {op : CmpOp} {g : G2} (ho : O2 X (compareOp op) g) (ha : DE X a fa) (hb : DE X b fb) (hm : behindInMarks op b = false := by first | exact nobehind _ (by decide) (by decide) | rfl) : DT X (.Compare a [op] [b] pos) (dBl (dBin g fa fb)) := by
  refine ⟨⟨fun pins s σ H Q I h => ?_⟩, dBl_mono (d_cmp (pos := pos) ho ha hb hm)⟩
  obtain ⟨ρ, M, al, F, G, W, es, q⟩ := h
  have hl : Lift X (dBin g fa fb) σ H (fun v H1 => ∃ c, v = .bl c ∧ Q c H1) :=
    (d_cmp (pos := pos) ho ha hb hm).seq W es q fun d M1 al1 F1 H1 v q1 e1 W1 r1 s1 => by
      cases r1 <;> first | exact ⟨_, rfl, q1 al1 F1 H1 e1 W1⟩ | exact q1.elim
  refine wpAny_isTrue_Compare1 (thn (bin2 ho ha hb I hl) fun v s1 h1 => thn h1 fun u s2 h2 => thn h2 fun c s3 ⟨x, H1, I1, r1, q1⟩ => ?_) hm
  obtain ⟨d, rfl, q⟩ := q1
  cases r1
  exact wpAny_truthy_bool ⟨H1, I1, q⟩
@[reducible] def dAnd (t u : DTT) : DTT := fun ρ M Q => t ρ M fun b M1 => if b = true then u ρ M1 Q else Q false M1
@[reducible] def dOr (t u : DTT) : DTT := fun ρ M Q => t ρ M fun b M1 => if b = true then Q true M1 else u ρ M1 Q
@[reducible] def dNot (t : DTT) : DTT := fun ρ M Q => t ρ M fun b M1 => Q (!b) M1
theorem dw_and1 (h : DT X a ta) : DW X (.BoolOp .And [a] pos) ta := ⟨pw_and1 h.pt, h.mono⟩
theorem dw_or1 (h : DT X a ta) : DW X (.BoolOp .Or [a] pos) ta := ⟨pw_or1 h.pt, h.mono⟩
theorem dw_and (h : DT X a ta) (g : DW X (.BoolOp .And (b :: rest) pos) tb) : DW X (.BoolOp .And (a :: b :: rest) pos) (dAnd ta tb) := by
  refine ⟨PW.of (pw_and h.pt g.pw) fun σ H Q ⟨ρ, M, al, F, G, W, es, q⟩ => ?_, fun ρ M Q Q' w q => h.mono _ _ _ _ (fun b M1 q1 => ?_) q⟩
  · refine h.seq W es q fun d M1 al1 F1 H1 q1 e1 W1 s1 => ?_
    cases d with
    | true => exact ⟨ρ, M1, al1, F1, G, W1, s1, g.mono _ _ _ _ (fun b M2 k al' F' H' e' W' => k al' F' H' (e1.trans e') W') q1⟩
    | false => exact q1 al1 F1 H1 e1 W1
  · cases b with
    | true => exact g.mono _ _ _ _ w q1
    | false => exact w _ _ q1
theorem dw_or (h : DT X a ta) (g : DW X (.BoolOp .Or (b :: rest) pos) tb) : DW X (.BoolOp .Or (a :: b :: rest) pos) (dOr ta tb) := by
  refine ⟨PW.of (pw_or h.pt g.pw) fun σ H Q ⟨ρ, M, al, F, G, W, es, q⟩ => ?_, fun ρ M Q Q' w q => h.mono _ _ _ _ (fun b M1 q1 => ?_) q⟩
  · refine h.seq W es q fun d M1 al1 F1 H1 q1 e1 W1 s1 => ?_
    cases d with
    | false => exact ⟨ρ, M1, al1, F1, G, W1, s1, g.mono _ _ _ _ (fun b M2 k al' F' H' e' W' => k al' F' H' (e1.trans e') W') q1⟩
    | true => exact q1 al1 F1 H1 e1 W1
  · cases b with
    | false => exact g.mono _ _ _ _ w q1
    | true => exact w _ _ q1
theorem DW.dt (h : DW X a ta) : DT X a ta := ⟨PW.pt h.pw, h.mono⟩
theorem dt_not (h : DT X a ta) : DT X (.UnaryOp .Not a pos) (dNot ta) := by
  refine ⟨PT.of (pt_not h.pt) fun σ H Q ⟨ρ, M, al, F, G, W, es, q⟩ => ?_, fun ρ M Q Q' w q => h.mono _ _ _ _ (fun b M1 q1 => w _ _ q1) q⟩
  exact h.seq W es q fun d M1 al1 F1 H1 q1 e1 W1 s1 => q1 al1 F1 H1 e1 W1
/-- and, or, not as values: all but the last are bools -/
@[reducible] def dAndV (fa fb : DTE) : DTE := fun ρ M Q => fa ρ M fun d M1 => match d with
  | .bl true => fb ρ M1 Q
  | .bl false => Q (.bl false) M1
  | _ => False
@[reducible] def dOrV (fa fb : DTE) : DTE := fun ρ M Q => fa ρ M fun d M1 => match d with
  | .bl true => Q (.bl true) M1
  | .bl false => fb ρ M1 Q
  | _ => False
@[reducible] def dNotV (fa : DTE) : DTE := fun ρ M Q => fa ρ M fun d M1 => match d with
  | .bl b => Q (.bl (!b)) M1
  | _ => False
theorem d_one {op} (h : DE X a fa) : DE X (.BoolOp op [a] pos) fa := ⟨pe_one h.pe, h.mono⟩
theorem d_and (h : DE X a fa) (g : DE X (.BoolOp .And (b :: rest) pos) fb) : DE X (.BoolOp .And (a :: b :: rest) pos) (dAndV fa fb) := by
  refine ⟨PE.of (pe_and h.pe g.pe) fun σ H Q ⟨ρ, M, al, F, G, W, es, q⟩ => ?_, fun ρ M Q Q' w q => h.mono _ _ _ _ (fun d M1 q1 => ?_) q⟩
  · refine h.seq W es q fun d M1 al1 F1 H1 v q1 e1 W1 r1 s1 => ?_
    cases r1 with
    | bl b =>
      refine ⟨b, rfl, ?_⟩
      cases b with
      | true => exact ⟨ρ, M1, al1, F1, G, W1, s1, g.mono _ _ _ _ (fun b M2 k => k.ext e1) q1⟩
      | false => exact q1 al1 F1 H1 _ e1 W1 (.bl false)
    | _ => exact q1.elim
  · cases d with
    | bl b =>
      cases b with
      | true => exact g.mono _ _ _ _ w q1
      | false => exact w _ _ q1
    | _ => exact q1.elim
theorem d_not (h : DE X a fa) : DE X (.UnaryOp .Not a pos) (dNotV fa) := by
  refine ⟨PE.of (pe_not h.pe) fun σ H Q ⟨ρ, M, al, F, G, W, es, q⟩ => ?_, fun ρ M Q Q' w q => h.mono _ _ _ _ (fun d M1 q1 => ?_) q⟩
  · refine h.seq W es q fun d M1 al1 F1 H1 v q1 e1 W1 r1 s1 => ?_
    cases r1 with
    | bl b => exact ⟨b, rfl, q1 al1 F1 H1 _ e1 W1 (.bl _)⟩
    | _ => exact q1.elim
  · cases d with
    | bl b => exact w _ _ q1
    | _ => exact q1.elim
@[reducible] def dIf (t : DTT) (fa fb : DTE) : DTE := fun ρ M Q => t ρ M fun b M1 => if b = true then fa ρ M1 Q else fb ρ M1 Q
theorem d_if (hc : DT X c ta) (ha : DE X a fa) (hb : DE X b fb) : DE X (.IfExp c a b pos) (dIf ta fa fb) := by
  refine ⟨PE.of (pe_ifExp hc.pt ha.pe hb.pe) fun σ H Q ⟨ρ, M, al, F, G, W, es, q⟩ => ?_, fun ρ M Q Q' w q => hc.mono _ _ _ _ (fun d M1 q1 => ?_) q⟩
  · refine hc.seq W es q fun d M1 al1 F1 H1 q1 e1 W1 s1 => ?_
    cases d with
    | true => exact ⟨ρ, M1, al1, F1, G, W1, s1, ha.mono _ _ _ _ (fun b M2 k => k.ext e1) q1⟩
    | false => exact ⟨ρ, M1, al1, F1, G, W1, s1, hb.mono _ _ _ _ (fun b M2 k => k.ext e1) q1⟩
  · cases d with
    | true => exact ha.mono _ _ _ _ w q1
    | false => exact hb.mono _ _ _ _ w q1
end
structure DEnds where
  nx : Dn → Sto → Prop
  rt : DK
  bk : Dn → Sto → Prop := fun _ _ => False
  ct : Dn → Sto → Prop := fun _ _ => False
structure DEnds.Le (D D' : DEnds) : Prop where
  nx : ∀ ρ M, D.nx ρ M → D'.nx ρ M
  rt : ∀ d M, D.rt d M → D'.rt d M
  bk : ∀ ρ M, D.bk ρ M → D'.bk ρ M
  ct : ∀ ρ M, D.ct ρ M → D'.ct ρ M
abbrev DTS := DEnds → Dn → Sto → Prop
def kN (K : PySem.W.Frag) (al : List Addr) (F G : Hp) (x : DXS) (Q : L2.St → Hp → Prop) : Dn → Sto → Prop := fun ρ M' => ∀ al' F' H' σ', Ext al F al' F' → Wd K al' F' G H' M' → Sl K F' al' σ' ρ.v → ρ.x = x → Q σ' H'
theorem kN.ext {K : PySem.W.Frag} {al al1 : List Addr} {F F1 G : Hp} {x : DXS} {Q : L2.St → Hp → Prop} {ρ : Dn} {M : Sto} (h : kN K al F G x Q ρ M) (e : Ext al F al1 F1) : kN K al1 F1 G x Q ρ M :=
  fun al' F' H' σ' e' W s q => h al' F' H' σ' (e.trans e') W s q
def kontS (K : PySem.W.Frag) (al : List Addr) (F G : Hp) (x : DXS) (E : Ends) : DEnds := ⟨kN K al F G x E.nx, kont K al F G E.rt, kN K al F G x E.bk, kN K al F G x E.ct⟩
theorem kontS_ext {K : PySem.W.Frag} {al al1 : List Addr} {F F1 G : Hp} {x : DXS} {E : Ends} (e : Ext al F al1 F1) : (kontS K al F G x E).Le (kontS K al1 F1 G x E) :=
  ⟨fun _ _ h => kN.ext h e, fun _ _ h => kont.ext h e, fun _ _ h => kN.ext h e, fun _ _ h => kN.ext h e⟩
def LiftS (X : Cx) (f : DTS) : TS := fun E σ H => ∃ ρ M al F G, Wd X.K al F G H M ∧ Es X F G al σ ρ ∧ f (kontS X.K al F G ρ.x E) ρ M
def MonoS (f : DTS) : Prop := ∀ (D D' : DEnds) ρ M, D.Le D' → f D ρ M → f D' ρ M
structure DS (X : Cx) (st : Stmt) (f : DTS) : Prop where
  ps : PS X st (LiftS X f)
  mono : MonoS f
structure DSs (X : Cx) (st : List Stmt) (f : DTS) : Prop where
  ps : PSs X st (LiftS X f)
  mono : MonoS f
theorem MonoS.up {f : DTS} (h : MonoS f) {D D' : DEnds} {ρ : Dn} {M : Sto} (q : f D ρ M) (w : D.Le D') : f D' ρ M := h D D' ρ M w q
section
variable {X : Cx} {a b c : Expr} {fa fb fc : DTE} {pos : Pos} {ta tb : DTT} {st : Stmt} {sts : List Stmt} {f g : DTS}
@[reducible] def dNext : DTS := fun D ρ M => D.nx ρ M
@[reducible] def dSeq (f g : DTS) : DTS := fun D ρ M => f { D with nx := g D } ρ M
theorem ds_nil : DSs X [] dNext := ⟨PSs.of pss_nil fun E σ H ⟨ρ, M, al, F, G, W, es, q⟩ => q al F H σ (Ext.refl _ _) W es.sl rfl, fun _ _ _ _ w q => w.nx _ _ q⟩
theorem ds_cons (h1 : DS X st f) (h2 : DSs X sts g) : DSs X (st :: sts) (dSeq f g) := by
  refine ⟨PSs.of (pss_cons h1.ps h2.ps) fun E σ H ⟨ρ, M, al, F, G, W, es, q⟩ => ?_, fun D D' ρ M w q => h1.mono { D with nx := g D } _ _ _ ⟨fun ρ M q => h2.mono _ _ _ _ w q, w.rt, w.bk, w.ct⟩ q⟩
  refine ⟨ρ, M, al, F, G, W, es, MonoS.up h1.mono (show f { kontS X.K al F G ρ.x E with nx := g (kontS X.K al F G ρ.x E) } ρ M from q) ⟨fun ρ1 M1 q1 al1 F1 H1 σ1 e1 W1 s1 x1 => ?_, fun _ _ z => z, fun _ _ z => z, fun _ _ z => z⟩⟩
  exact ⟨ρ1, M1, al1, F1, G, W1, es.of e1 s1 x1, by rw [x1]; exact MonoS.up h2.mono q1 (kontS_ext e1)⟩
theorem ds_one (h1 : DS X st f) : DSs X [st] f := ⟨pss_one h1.ps, h1.mono⟩
@[reducible] def dDrop (fa : DTE) : DTS := fun D ρ M => fa ρ M fun _ M1 => D.nx ρ M1
theorem ds_expr (h : DE X a fa) (hs : swapsWith a none pos.line X.env = pure false := by rfl) : DS X (.Expr a pos) (dDrop fa) := by
  refine ⟨PS.of (ps_expr h.pe hs) fun E σ H ⟨ρ, M, al, F, G, W, es, q⟩ => ?_, fun D D' ρ M w q => h.mono _ _ _ _ (fun d M1 q1 => w.nx _ _ q1) q⟩
  exact h.seq W es q fun d M1 al1 F1 H1 v q1 e1 W1 r1 s1 => q1 al1 F1 H1 σ e1 W1 s1.sl rfl
@[reducible] def dRet (fa : DTE) : DTS := fun D ρ M => fa ρ M D.rt
theorem ds_ret (h : DE X a fa) : DS X (.Return (some a) pos) (dRet fa) := by
  refine ⟨PS.of (ps_ret h.pe) fun E σ H ⟨ρ, M, al, F, G, W, es, q⟩ => ⟨ρ, M, al, F, G, W, es, q⟩, fun D D' ρ M w q => h.mono _ _ _ _ (fun d M1 q1 => w.rt _ _ q1) q⟩
@[reducible] def dRetN : DTS := fun D _ M => D.rt .non M
@[reducible] def dIfS (t : DTT) (f g : DTS) : DTS := fun D ρ M => t ρ M fun b M1 => if b = true then f D ρ M1 else g D ρ M1
theorem ds_if {yes no : List Stmt} (hc : DT X c ta) (ha : DSs X yes f) (hb : DSs X no g) : DS X (.If c yes no pos) (dIfS ta f g) := by
  refine ⟨PS.of (ps_if hc.pt ha.ps hb.ps) fun E σ H ⟨ρ, M, al, F, G, W, es, q⟩ => ?_, fun D D' ρ M w q => hc.mono _ _ _ _ (fun d M1 q1 => ?_) q⟩
  · refine hc.seq W es q fun d M1 al1 F1 H1 q1 e1 W1 s1 => ?_
    cases d with
    | true => exact ⟨ρ, M1, al1, F1, G, W1, s1, ha.mono _ _ _ _ (kontS_ext e1) q1⟩
    | false => exact ⟨ρ, M1, al1, F1, G, W1, s1, hb.mono _ _ _ _ (kontS_ext e1) q1⟩
  · cases d with
    | true => exact ha.mono _ _ _ _ w q1
    | false => exact hb.mono _ _ _ _ w q1
def Off (js : List Nat) (σ σ' : L2.St) : Prop := σ'.length = σ.length ∧ ∀ i, i ∉ js → σ'[i]? = σ[i]?
abbrev DTG := D → Dn → Sto → (Dn → Sto → Prop) → Prop
abbrev DTGs := List D → Dn → Sto → (Dn → Sto → Prop) → Prop
def LiftG (X : Cx) (f : DTG) (js : List Nat) : TG := fun v σ H Q => ∃ d ρ M al F G, Wd X.K al F G H M ∧ Es X F G al σ ρ ∧ Rp X.K F al v d ∧
  f d ρ M (fun ρ' M' => ∀ al' F' H' σ', Ext al F al' F' → Wd X.K al' F' G H' M' → Sl X.K F' al' σ' ρ'.v → ρ'.x = ρ.x → Off js σ σ' → Q σ' H')
def LiftGs (X : Cx) (f : DTGs) (js : List Nat) : TGs := fun vs σ H Q => ∃ ds ρ M al F G, Wd X.K al F G H M ∧ Es X F G al σ ρ ∧ Rps X.K F al vs ds ∧
  f ds ρ M (fun ρ' M' => ∀ al' F' H' σ', Ext al F al' F' → Wd X.K al' F' G H' M' → Sl X.K F' al' σ' ρ'.v → ρ'.x = ρ.x → Off js σ σ' → Q σ' H')
def MonoG (f : DTG) : Prop := ∀ d ρ M (Q Q' : Dn → Sto → Prop), (∀ ρ M, Q ρ M → Q' ρ M) → f d ρ M Q → f d ρ M Q'
def MonoGs (f : DTGs) : Prop := ∀ d ρ M (Q Q' : Dn → Sto → Prop), (∀ ρ M, Q ρ M → Q' ρ M) → f d ρ M Q → f d ρ M Q'
structure DG (X : Cx) (tg : Expr) (f : DTG) (js : List Nat) : Prop where
  pg : PG X tg (LiftG X f js)
  mono : MonoG f
structure DGs (X : Cx) (tg : List Expr) (f : DTGs) (js : List Nat) : Prop where
  pg : PGs X tg (LiftGs X f js)
  mono : MonoGs f
theorem PG.of {e : Expr} {t t' : TG} (h : PG X e t) (w : ∀ v σ H Q, t' v σ H Q → t v σ H Q) : PG X e t' := ⟨fun pins s σ H v u Q I r q => h.run pins s σ H v u Q I r (w v σ H Q q)⟩
theorem PGs.of {e : List Expr} {t t' : TGs} (h : PGs X e t) (w : ∀ v σ H Q, t' v σ H Q → t v σ H Q) : PGs X e t' := ⟨fun pins s σ H v u Q I r q => h.run pins s σ H v u Q I r (w v σ H Q q)⟩
theorem Off.refl (js : List Nat) (σ : L2.St) : Off js σ σ := ⟨rfl, fun _ _ => rfl⟩
theorem Off.trans {js ks : List Nat} {σ σ1 σ2 : L2.St} (a : Off js σ σ1) (b : Off ks σ1 σ2) : Off (js ++ ks) σ σ2 :=
  ⟨b.1.trans a.1, fun i hi => by
    rw [List.mem_append, not_or] at hi
    exact (b.2 i hi.2).trans (a.2 i hi.1)⟩
theorem Off.set (σ : L2.St) (i : Nat) (v : Option V) : Off [i] σ (σ.set i v) := ⟨List.length_set, fun j hj => by
  rw [List.getElem?_set_ne]
  intro z
  exact hj (by simp [z])⟩
@[reducible] def dgName (i : Nat) : DTG := fun d ρ M Q => Q ⟨ρ.v.set i (some d), ρ.x⟩ M
@[reducible] def dgNil : DTGs := fun ds ρ M Q => match ds with
  | [] => Q ρ M
  | _ => False
@[reducible] def dgCons (f : DTG) (g : DTGs) : DTGs := fun ds ρ M Q => match ds with
  | d :: r => f d ρ M fun ρ1 M1 => g r ρ1 M1 Q
  | [] => False
@[reducible] def dgTup (n : Nat) (g : DTGs) : DTG := fun d ρ M Q => match d with
  | .tup ds => ds.length = n ∧ g ds ρ M Q
  | _ => False
theorem dg_name {i : Nat} {x : Str} (hN : X.N.Nodup) (hi : X.N[i]? = some x) (hx : Loc X.env.scope x) (hf : X.fn x = true ∨ X.env.scope.names.lookup x = some .local := by first | exact .inl rfl | exact .inr rfl | assumption) : DG X (.Name x pos) (dgName i) [i] := by
  refine ⟨PG.of (pg_name hN hi hx hf) fun v σ H Q ⟨d, ρ, M, al, F, G, W, es, r, q⟩ => ?_, fun d ρ M Q Q' w q => w _ _ q⟩
  exact q al F H _ (Ext.refl _ _) W (es.sl.set r i) rfl (Off.set σ i _)
theorem dgs_nil : DGs X [] dgNil [] := by
  refine ⟨PGs.of pgs_nil fun vs σ H Q ⟨ds, ρ, M, al, F, G, W, es, r, q⟩ => ?_, fun d ρ M Q Q' w q => ?_⟩
  · cases r with
    | nil => exact ⟨rfl, q al F H σ (Ext.refl _ _) W es.sl rfl (Off.refl _ _)⟩
    | cons a b => exact q.elim
  · cases d with
    | nil => exact w _ _ q
    | cons a b => exact q.elim
theorem dgs_cons {e : Expr} {es : List Expr} {f : DTG} {g : DTGs} {js ks : List Nat} (h1 : DG X e f js) (h2 : DGs X es g ks)
    (hs : (assignEach (e :: es) X.env).map (·.2) = assign e X.env :: (assignEach es X.env).map (·.2) := by rfl) : DGs X (e :: es) (dgCons f g) (js ++ ks) := by
  refine ⟨PGs.of (pgs_cons h1.pg h2.pg hs) fun vs σ H Q ⟨ds, ρ, M, al, F, G, W, es, r, q⟩ => ?_, fun d ρ M Q Q' w q => ?_⟩
  · cases r with
    | nil => exact q.elim
    | cons a b =>
      refine ⟨_, _, rfl, _, ρ, M, al, F, G, W, es, a, h1.mono _ _ _ _ _ (fun ρ1 M1 q1 al1 F1 H1 σ1 e1 W1 s1 x1 o1 => ?_) q⟩
      refine ⟨_, ρ1, M1, al1, F1, G, W1, es.of e1 s1 x1, b.ext e1, h2.mono _ _ _ _ _ (fun ρ2 M2 q2 al2 F2 H2 σ2 e2 W2 s2 x2 o2 => ?_) q1⟩
      exact q2 al2 F2 H2 σ2 (e1.trans e2) W2 s2 (x2.trans x1) (o1.trans o2)
  · cases d with
    | nil => exact q.elim
    | cons a b => exact h1.mono _ _ _ _ _ (fun ρ1 M1 q1 => h2.mono _ _ _ _ _ w q1) q
theorem dg_tup {es : List Expr} {k : Nat} {g : DTGs} {js : List Nat} {n : Nat} (hc : X.calm = true) (h : DGs X es g js)
    (hn : (assignEach es X.env).length = n := by rfl) (hst : (assignEach es X.env).findIdx? (·.1) = none := by rfl) : DG X (.Tuple es k pos) (dgTup n g) js := by
  refine ⟨PG.of (pg_tup hc h.pg hn hst) fun v σ H Q ⟨d, ρ, M, al, F, G, W, es, r, q⟩ => ?_, fun d ρ M Q Q' w q => ?_⟩
  · cases r with
    | tup a b => exact ⟨_, _, rfl, SqT.of (W.sm _ _ a), b.length.trans q.1, _, ρ, M, al, F, G, W, es, b, q.2⟩
    | _ => exact q.elim
  · cases d with
    | tup ds => exact ⟨q.1, h.mono _ _ _ _ _ w q.2⟩
    | _ => exact q.elim
@[reducible] def dAsg (fa : DTE) (g : DTG) : DTS := fun D ρ M => fa ρ M fun d M1 => g d ρ M1 D.nx
theorem dAsg_mono {tg : Expr} {g : DTG} {js : List Nat} (h : DE X a fa) (hg : DG X tg g js) : MonoS (dAsg fa g) := fun D D' ρ M w q => h.mono _ _ _ _ (fun d M1 q1 => hg.mono _ _ _ _ _ (fun ρ M q => w.nx ρ M q) q1) q
theorem asg_ok {tg : Expr} {g : DTG} {js : List Nat} (h : DE X a fa) (hg : DG X tg g js) {E : Ends} {σ : L2.St} {H : Hp} (q : LiftS X (dAsg fa g) E σ H) : tAsg (Lift X fa) (LiftG X g js) E σ H := by
  obtain ⟨ρ, M, al, F, G, W, es, q⟩ := q
  refine h.seq W es q fun d M1 al1 F1 H1 v q1 e1 W1 r1 s1 => ?_
  exact ⟨d, ρ, M1, al1, F1, G, W1, s1, r1, hg.mono _ _ _ _ _ (fun ρ2 M2 q2 al2 F2 H2 σ2 e2 W2 s2 x2 _ => q2 al2 F2 H2 σ2 (e1.trans e2) W2 s2 x2) q1⟩
theorem ds_asg {tg : Expr} {g : DTG} {js : List Nat} (h : DE X a fa) (hg : DG X tg g js) (hs : swapsWithSole [tg] a pos.line X.env = pure false := by rfl) (hw : swappedStores [tg] a X.env = pure none := by rfl) (h1 : (assignEach [tg] X.env).map (·.2) = [assign tg X.env] := by rfl) : DS X (.Assign [tg] a pos) (dAsg fa g) :=
  ⟨PS.of (ps_asg h.pe hg.pg hs hw h1) fun E σ H q => asg_ok h hg q, dAsg_mono h hg⟩
theorem ds_set {i : Nat} {x : Str} {pos' : Pos} (hN : X.N.Nodup) (hi : X.N[i]? = some x) (hx : Loc X.env.scope x) (h : DE X a fa) (hs : swapsWith a (some (.Name x pos')) pos.line X.env = pure false := by rfl) (hf : X.fn x = true ∨ X.env.scope.names.lookup x = some .local := by first | exact .inl rfl | exact .inr rfl | assumption) :
    DS X (.Assign [.Name x pos'] a pos) (dAsg fa (dgName i)) := by
  refine ⟨PS.of (ps_set hN hi hx h.pe hs hf) fun E σ H ⟨ρ, M, al, F, G, W, es, q⟩ => ?_, dAsg_mono h (dg_name (pos := pos') hN hi hx hf)⟩
  exact h.seq W es q fun d M1 al1 F1 H1 v q1 e1 W1 r1 s1 => q1 al1 F1 H1 _ e1 W1 (s1.sl.set r1 i) rfl
@[reducible] def dPar (i j : Nat) (fa : DTA) : DTS := fun D ρ M => fa ρ M fun ds M1 => match ds with
  | [d, e] => D.nx ⟨(ρ.v.set i (some d)).set j (some e), ρ.x⟩ M1
  | _ => False
theorem ds_par {i j : Nat} {x y : Str} {fr : DTA} {px py pt : Pos} {kt k2 : Nat} {pt2 : Pos} (hc : X.calm = true) (hN : X.N.Nodup) (hi : X.N[i]? = some x) (hj : X.N[j]? = some y) (hij : i ≠ j) (hx : X.env.scope.names.lookup x = some .local) (hy : X.env.scope.names.lookup y = some .local) (ha : DA X [a, b] fr)
    (ps : ∀ {ta : TA}, PA X [a, b] ta → PS X (.Assign [.Tuple [.Name x px, .Name y py] kt pt] (.Tuple [a, b] k2 pt2) pos) (tPar i j ta)) : DS X (.Assign [.Tuple [.Name x px, .Name y py] kt pt] (.Tuple [a, b] k2 pt2) pos) (dPar i j fr) := by
  refine ⟨PS.of (ps ha.pa) fun E σ H ⟨ρ, M, al, F, G, W, es, q⟩ => ?_, fun D D' ρ M w q => ha.mono _ _ _ _ (fun ds M1 q1 => ?_) q⟩
  · refine ha.seq W es q fun ds M1 al1 F1 H1 vs q1 e1 W1 r1 s1 => ?_
    match ds, r1, q1 with
    | [d, e], .cons r2 (.cons r3 .nil), q1 => exact ⟨_, _, rfl, q1 al1 F1 H1 _ e1 W1 ((s1.sl.set r2 i).set r3 j) rfl⟩
  · match ds, q1 with
    | [d, e], q1 => exact w.nx _ _ q1
abbrev DTI := Dn → Sto → (List D → (Sto → Prop) → Sto → Prop) → Prop
def ItOk (K : PySem.W.Frag) (J : It) (ds : List D) (st : Sto → Prop) (al : List Addr) (F G : Hp) : Prop := ∀ al' F' G' H' M', Ext al F al' F' → Sm G G' → Wd K al' F' G' H' M' → st M' → ∀ i : Nat,
  (∀ d, ds[i]? = some d → J.go i H' ∧ ∀ x H'', J.yld i H' x H'' → ∃ F'', Sm F' F'' ∧ Wd K al' F'' G' H'' M' ∧ Rp K F'' al' x d) ∧ (ds.length ≤ i → J.stop i H')
theorem ItOk.ext {K : PySem.W.Frag} {J : It} {ds : List D} {st : Sto → Prop} {al al1 : List Addr} {F F1 G : Hp} (h : ItOk K J ds st al F G) (e : Ext al F al1 F1) : ItOk K J ds st al1 F1 G :=
  fun al' F' G' H' M' e' => h al' F' G' H' M' (e.trans e')
def LiftI (X : Cx) (f : DTI) : TI := fun σ H R => ∃ ρ M al F G, Wd X.K al F G H M ∧ Es X F G al σ ρ ∧ f ρ M (fun ds st M' => ∀ al' F' H' J, Ext al F al' F' → Wd X.K al' F' G H' M' → ItOk X.K J ds st al' F' G → R J H')
structure DI (X : Cx) (tg iter : Expr) (f : DTI) : Prop where
  pi : PI X tg iter (LiftI X f)
  mono : ∀ ρ M (Q Q' : List D → (Sto → Prop) → Sto → Prop), (∀ ds st M, Q ds st M → Q' ds st M) → f ρ M Q → f ρ M Q'
theorem PI.of {tg e : Expr} {t t' : TI} (h : PI X tg e t) (w : ∀ σ H Q, t' σ H Q → t σ H Q) : PI X tg e t' := ⟨fun pins s σ H R I q => h.run pins s σ H R I (w σ H R q)⟩
def forGo (st : Sto → Prop) (g : DTG) (body : DTS) : List D → DTS
  | [], E, ρ, M => st M ∧ E.nx ρ M
  | d :: ds, E, ρ, M => st M ∧ g d ρ M fun ρ1 M1 => body { nx := fun ρ2 M2 => forGo st g body ds E ρ2 M2, rt := E.rt, bk := E.nx, ct := fun ρ2 M2 => forGo st g body ds E ρ2 M2 } ρ1 M1
@[reducible] def dFor (fi : DTI) (g : DTG) (body : DTS) : DTS := fun E ρ M => fi ρ M fun ds st M1 => forGo st g body ds E ρ M1
theorem forGo_mono {st : Sto → Prop} {g : DTG} {body : DTS} (hg : MonoG g) (hb : MonoS body) : ∀ ds, MonoS (forGo st g body ds)
  | [], D, D', ρ, M, w, q => ⟨q.1, w.nx _ _ q.2⟩
  | d :: ds, D, D', ρ, M, w, q => by
    refine ⟨q.1, hg _ _ _ _ _ (fun ρ1 M1 q1 => ?_) q.2⟩
    refine MonoS.up hb (D := { nx := fun ρ2 M2 => forGo st g body ds D ρ2 M2, rt := D.rt, bk := D.nx, ct := fun ρ2 M2 => forGo st g body ds D ρ2 M2 }) q1 ⟨fun ρ2 M2 q2 => ?_, w.rt, w.nx, fun ρ2 M2 q2 => ?_⟩
    · exact forGo_mono hg hb ds D D' ρ2 M2 w q2
    · exact forGo_mono hg hb ds D D' ρ2 M2 w q2
theorem ds_for {tg iter : Expr} {body : List Stmt} {fi : DTI} {g : DTG} {js : List Nat} {f : DTS} (hp : PassesOwn (model X.prog X.w) X.A X.env X.xe) (hc : X.calm = true) (hi : DI X tg iter fi) (hg : DG X tg g js) (hb : DSs X body f)
    (hfs : ∀ x : Value, foldedSetIterable iter X.env x = pure x := by intro _; rfl) : DS X (.For tg iter body [] pos) (dFor fi g f) := by
  refine ⟨PS.of (ps_for hp hc hi.pi hg.pg hb.ps hfs) fun E σ H ⟨ρ, M, al, F, G, W, es, q⟩ => ?_, fun D D' ρ M w q => hi.mono _ _ _ _ (fun ds st M1 q1 => forGo_mono hg.mono hb.mono ds D D' ρ M1 w q1) q⟩
  refine ⟨ρ, M, al, F, G, W, es, hi.mono _ _ _ _ (fun ds st M1 q1 al1 F1 H1 J e1 W1 ok => ?_) q⟩
  refine ⟨fun i m σ' H' => ∃ ρ' M' al' F', i + m = ds.length ∧ Ext al1 F1 al' F' ∧ Wd X.K al' F' G H' M' ∧ Es X F' G al' σ' ρ' ∧ ρ'.x = ρ.x ∧ forGo st g f (ds.drop i) (kontS X.K al' F' G ρ.x E) ρ' M',
    ⟨ds.length, ρ, M1, al1, F1, by omega, Ext.refl _ _, W1, es.ext e1, rfl, forGo_mono hg.mono hb.mono _ _ _ _ _ (kontS_ext e1) q1⟩, ?_⟩
  rintro i m σ' H' ⟨ρ', M', al', F', em, e', W', s', x', q'⟩
  by_cases hil : i < ds.length
  · rw [List.drop_eq_getElem_cons hil] at q'
    obtain ⟨hst, q'⟩ := q'
    obtain ⟨go, yl⟩ := (ok al' F' G H' M' e' (Sm.refl G) W' hst i).1 ds[i] (List.getElem?_eq_getElem hil)
    refine .inr ⟨go, fun σ2 H2 => ∃ ρ2 M2 al2 F2, Ext al1 F1 al2 F2 ∧ Wd X.K al2 F2 G H2 M2 ∧ Es X F2 G al2 σ2 ρ2 ∧ ρ2.x = ρ.x ∧ forGo st g f (ds.drop (i + 1)) (kontS X.K al2 F2 G ρ.x E) ρ2 M2, ?_, fun x H2 hy => ?_⟩
    · rintro σ2 H2 ⟨ρ2, M2, al2, F2, e2, W2, s2, x2, q2⟩
      exact ⟨m - 1, by omega, ρ2, M2, al2, F2, by omega, e2, W2, s2, x2, q2⟩
    · obtain ⟨F2, sm2, W2, r2⟩ := yl x H2 hy
      have e2 : Ext al' F' al' F2 := ⟨⟨[], by simp⟩, sm2⟩
      refine ⟨ds[i], ρ', M', al', F2, G, W2, s'.ext e2, r2, hg.mono _ _ _ _ _ (fun ρ3 M3 q3 al3 F3 H3 σ3 e3 W3 s3 x3 o3 => ?_) q'⟩
      have s3' := s'.of (e2.trans e3) s3 x3
      rw [x'] at x3
      refine ⟨ρ3, M3, al3, F3, G, W3, s3', ?_⟩
      rw [x3]
      refine MonoS.up hb.mono q3 ⟨fun ρ4 M4 q4 al4 F4 H4 σ4 e4 W4 s4 x4 => ?_, fun d M4 q4 => kont.ext q4 (e2.trans e3), fun ρ4 M4 q4 => kN.ext q4 (e2.trans e3), fun ρ4 M4 q4 al4 F4 H4 σ4 e4 W4 s4 x4 => ?_⟩
      · exact ⟨ρ4, M4, al4, F4, e'.trans (e2.trans (e3.trans e4)), W4, s3'.of e4 s4 (x4.trans x3.symm), x4, forGo_mono hg.mono hb.mono _ _ _ _ _ (kontS_ext (e2.trans (e3.trans e4))) q4⟩
      · exact ⟨ρ4, M4, al4, F4, e'.trans (e2.trans (e3.trans e4)), W4, s3'.of e4 s4 (x4.trans x3.symm), x4, forGo_mono hg.mono hb.mono _ _ _ _ _ (kontS_ext (e2.trans (e3.trans e4))) q4⟩
  · rw [List.drop_eq_nil_of_le (by omega)] at q'
    exact .inl ⟨(ok al' F' G H' M' e' (Sm.refl G) W' q'.1 i).2 (by omega), q'.2 al' F' H' σ' (Ext.refl _ _) W' s'.sl x'⟩
def wipeD (ρ : List (Option D)) : List Nat → List (Option D)
  | [] => ρ
  | v :: vs => (wipeD ρ vs).set v none
theorem wipeD_length (ρ : List (Option D)) : ∀ vs : List Nat, (wipeD ρ vs).length = ρ.length
  | [] => rfl
  | v :: vs => by unfold wipeD; rw [List.length_set, wipeD_length ρ vs]
theorem wipeD_some {ρ : List (Option D)} {i : Nat} {d : D} : ∀ {vs : List Nat}, (wipeD ρ vs)[i]? = some (some d) → ρ[i]? = some (some d) ∧ i ∉ vs
  | [], h => ⟨h, by simp⟩
  | v :: vs, h => by
    unfold wipeD at h
    by_cases hi : v = i
    · subst hi
      by_cases hv : v < (wipeD ρ vs).length
      · rw [List.getElem?_set_self hv] at h; cases h
      · rw [List.getElem?_eq_none (by simpa using hv)] at h; cases h
    · rw [List.getElem?_set_ne hi] at h
      obtain ⟨h1, h2⟩ := wipeD_some h
      exact ⟨h1, by simp only [List.mem_cons, not_or]; exact ⟨fun e => hi e.symm, h2⟩⟩
theorem wipe_get {σ : L2.St} {i : Nat} : ∀ {vs : List Nat}, i ∉ vs → (wipe σ vs)[i]? = σ[i]?
  | [], _ => rfl
  | v :: vs, h => by
    rw [List.mem_cons, not_or] at h
    unfold wipe
    rw [List.getElem?_set_ne (Ne.symm h.1), wipe_get h.2]
theorem wipe_off {σ : L2.St} {i : Nat} (hl : i < σ.length) : ∀ {vs : List Nat}, i ∈ vs → (wipe σ vs)[i]? = some none
  | v :: vs, h => by
    unfold wipe
    by_cases hi : v = i
    · subst hi
      rw [List.getElem?_set_self (by rw [wipe_length]; exact hl)]
    · rw [List.getElem?_set_ne hi]
      refine wipe_off hl ?_
      rcases List.mem_cons.mp h with z | z
      · exact absurd z.symm hi
      · exact z
theorem wipe_eq {σ σ' : L2.St} {js vs : List Nat} (o : Off js σ σ') (h : ∀ j ∈ js, j ∈ vs) : wipe σ' vs = wipe σ vs := by
  apply List.ext_getElem?
  intro i
  by_cases hi : i ∈ vs
  · by_cases hl : i < σ.length
    · rw [wipe_off hl hi, wipe_off (by rw [o.1]; exact hl) hi]
    · have h1 := o.1; rw [List.getElem?_eq_none (by rw [wipe_length]; omega), List.getElem?_eq_none (by rw [wipe_length]; omega)]
  · rw [wipe_get hi, wipe_get hi]
    exact o.2 i fun z => hi (h i z)
theorem wipe_wipe {σ : L2.St} {vs : List Nat} : wipe (wipe σ vs) vs = wipe σ vs := by
  apply List.ext_getElem?
  intro i
  by_cases hi : i ∈ vs
  · by_cases hl : i < σ.length
    · rw [wipe_off hl hi, wipe_off (by rw [wipe_length]; exact hl) hi]
    · rw [List.getElem?_eq_none (by rw [wipe_length, wipe_length]; omega), List.getElem?_eq_none (by rw [wipe_length]; omega)]
  · rw [wipe_get hi]
theorem Sl.wipe {K : PySem.W.Frag} {F : Hp} {al : List Addr} {σ : L2.St} {ρ : List (Option D)} (h : Sl K F al σ ρ) (vs : List Nat) : Sl K F al (L2.wipe σ vs) (wipeD ρ vs) := by
  refine ⟨by rw [wipe_length, wipeD_length]; exact h.len, fun i d q => ?_⟩
  obtain ⟨q1, q2⟩ := wipeD_some q
  obtain ⟨v, h1, h2⟩ := h.get i d q1
  exact ⟨v, by rw [wipe_get q2]; exact h1, h2⟩
/-- the inner readings, without exceptions: one for all surroundings -/
def LiftN (K : PySem.W.Frag) (f : DTE) : TE := fun σ H Q => ∃ ρ M al F G, Wd K al F G H M ∧ Sl K F al σ ρ.v ∧ ρ.x = noX ∧ f ρ M (kont K al F G Q)
def LiftTN (K : PySem.W.Frag) (f : DTT) : TT := fun σ H Q => ∃ ρ M al F G, Wd K al F G H M ∧ Sl K F al σ ρ.v ∧ ρ.x = noX ∧ f ρ M (kontB K al F G Q)
def LiftGN (K : PySem.W.Frag) (f : DTG) (js : List Nat) : TG := fun v σ H Q => ∃ d ρ M al F G, Wd K al F G H M ∧ Sl K F al σ ρ.v ∧ ρ.x = noX ∧ Rp K F al v d ∧
  f d ρ M (fun ρ' M' => ∀ al' F' H' σ', Ext al F al' F' → Wd K al' F' G H' M' → Sl K F' al' σ' ρ'.v → ρ'.x = noX → Off js σ σ' → Q σ' H')
theorem LiftN.of {Y : Cx} {f : DTE} {σ : L2.St} {H : Hp} {Q : VK} (h : LiftN Y.K f σ H Q) : Lift Y f σ H Q := by
  obtain ⟨ρ, M, al, F, G, W, s, x, q⟩ := h
  exact ⟨ρ, M, al, F, G, W, Es.none s x, q⟩
theorem LiftTN.of {Y : Cx} {f : DTT} {σ : L2.St} {H : Hp} {Q : Bool → Hp → Prop} (h : LiftTN Y.K f σ H Q) : LiftT Y f σ H Q := by
  obtain ⟨ρ, M, al, F, G, W, s, x, q⟩ := h
  exact ⟨ρ, M, al, F, G, W, Es.none s x, q⟩
theorem LiftGN.of {Y : Cx} {f : DTG} {js : List Nat} (m : MonoG f) {v : V} {σ : L2.St} {H : Hp} {Q : L2.St → Hp → Prop} (h : LiftGN Y.K f js v σ H Q) : LiftG Y f js v σ H Q := by
  obtain ⟨d, ρ, M, al, F, G, W, s, x, r, q⟩ := h
  exact ⟨d, ρ, M, al, F, G, W, Es.none s x, r, m _ _ _ _ _ (fun ρ' M' k al' F' H' σ' e W' s' x' o => k al' F' H' σ' e W' s' (x'.trans x) o) q⟩
/-- one turn: the item bound, the tests, the element -/
@[reducible] def lcStep (ρ : Dn) (vs : List Nat) (g : DTG) (t : DTT) (fe : DTE) (d : D) (M : Sto) (k : Option D → Sto → Prop) : Prop :=
  g d ⟨wipeD ρ.v vs, noX⟩ M fun ρ2 M2 => t ρ2 M2 fun b M3 => if b = true then fe ρ2 M3 (fun y M4 => k (some y) M4) else k none M3
def lcGo (st : Sto → Prop) (step : D → Sto → (Option D → Sto → Prop) → Prop) : List D → List D → Sto → (List D → Sto → Prop) → Prop
  | [], acc, M, Q => st M ∧ Q acc M
  | d :: ds, acc, M, Q => st M ∧ step d M fun o M1 => match o with
    | some y => acc.length < 100000 ∧ lcGo st step ds (acc ++ [y]) M1 Q
    | none => lcGo st step ds acc M1 Q
@[reducible] def dLc (fi : DTI) (g : DTG) (t : DTT) (fe : DTE) (vs : List Nat) : DTE := fun ρ M Q => fi ρ M fun ds st M1 => lcGo st (lcStep ρ vs g t fe) ds [] M1 fun acc M2 => Q (.lst acc) M2
theorem lcStep_mono {ρ : Dn} {vs : List Nat} {g : DTG} {t : DTT} {fe : DTE} (hg : MonoG g) (ht : ∀ ρ M (Q Q' : Bool → Sto → Prop), (∀ d M, Q d M → Q' d M) → t ρ M Q → t ρ M Q') (he : ∀ ρ M (Q Q' : DK), (∀ d M, Q d M → Q' d M) → fe ρ M Q → fe ρ M Q')
    (d : D) (M : Sto) (k k' : Option D → Sto → Prop) (w : ∀ o M, k o M → k' o M) (q : lcStep ρ vs g t fe d M k) : lcStep ρ vs g t fe d M k' :=
  hg _ _ _ _ _ (fun ρ2 M2 q2 => ht _ _ _ _ (fun b M3 q3 => by
    cases b with
    | true => exact he _ _ _ _ (fun y M4 q4 => w _ _ q4) q3
    | false => exact w _ _ q3) q2) q
theorem lcGo_mono {st : Sto → Prop} {step : D → Sto → (Option D → Sto → Prop) → Prop} (hs : ∀ (d : D) (M : Sto) (k k' : Option D → Sto → Prop), (∀ o M, k o M → k' o M) → step d M k → step d M k') (Q Q' : List D → Sto → Prop) (w : ∀ a M, Q a M → Q' a M) :
    ∀ (ds acc : List D) (M : Sto), lcGo st step ds acc M Q → lcGo st step ds acc M Q'
  | [], acc, M, q => ⟨q.1, w _ _ q.2⟩
  | d :: ds, acc, M, q => ⟨q.1, hs _ _ _ _ (fun o M1 q1 => by
    cases o with
    | none => exact lcGo_mono hs Q Q' w ds acc M1 q1
    | some y => exact ⟨q1.1, lcGo_mono hs Q Q' w ds _ M1 q1.2⟩) q.2⟩
theorem PTs.of {ifs : List Expr} {t t' : TT} (h : PTs X ifs t) (w : ∀ σ H Q, t' σ H Q → t σ H Q) : PTs X ifs t' := ⟨fun pins s σ H Q I q => h.run pins s σ H Q I (w σ H Q q)⟩
abbrev DTTs (X : Cx) (ifs : List Expr) (t : DTT) : Prop := PTs X ifs (LiftT X t) ∧ ∀ ρ M (Q Q' : Bool → Sto → Prop), (∀ d M, Q d M → Q' d M) → t ρ M Q → t ρ M Q'
@[reducible] def dYes : DTT := fun _ M Q => Q true M
theorem dts_nil : DTTs X [] dYes := ⟨⟨fun pins s σ H Q I h => by
  obtain ⟨ρ, M, al, F, G, W, es, q⟩ := h
  exact pts_nil.run pins s σ H Q I (q al F H (Ext.refl _ _) W)⟩, fun _ _ _ _ w q => w _ _ q⟩
theorem lc_ok {Y : Cx} {wi : DTI} {g : DTG} {t : DTT} {fe : DTE} {vs js : List Nat} {σ : L2.St} {H : Hp} {Q : VK} (hi : ∀ ρ M (Q Q' : List D → (Sto → Prop) → Sto → Prop), (∀ ds st M, Q ds st M → Q' ds st M) → wi ρ M Q → wi ρ M Q')
    (hg : MonoG g) (ht : ∀ ρ M (Q Q' : Bool → Sto → Prop), (∀ d M, Q d M → Q' d M) → t ρ M Q → t ρ M Q') (he : ∀ ρ M (Q Q' : DK), (∀ d M, Q d M → Q' d M) → fe ρ M Q → fe ρ M Q') (hj : ∀ j ∈ js, j ∈ vs)
    (h : Lift Y (dLc wi g t fe vs) σ H Q) : tLc (LiftI Y wi) (LiftGN Y.K g js) (LiftTN Y.K t) (LiftN Y.K fe) vs σ H Q := by
  obtain ⟨ρ, M, al, F, G, W, es, q⟩ := h
  refine ⟨ρ, M, al, F, G, W, es, hi _ _ _ _ (fun ds st M1 q1 al1 F1 H1 J e1 W1 ok => ?_) q⟩
  intro Dd hD
  have hGD : G Dd = none := W1.sg.free hD
  refine ⟨fun i m H' => ∃ M' al' F' acc xs, i + m = ds.length ∧ Ext al1 F1 al' F' ∧ Wd Y.K al' F' (upd G Dd (.lst xs)) H' M' ∧ Rps Y.K F' al' xs acc ∧ lcGo st (lcStep ρ vs g t fe) (ds.drop i) acc M' (fun acc M2 => kont Y.K al F G Q (.lst acc) M2),
    ⟨ds.length, M1, al1, F1, [], [], by omega, Ext.refl _ _, W1.hide hD, .nil, q1⟩, ?_⟩
  rintro i m H' ⟨M', al', F', acc, xs, em, e', W', rs, q'⟩
  have smG : Sm G (upd G Dd (.lst xs)) := Sm.new hGD
  by_cases hil : i < ds.length
  · rw [List.drop_eq_getElem_cons hil] at q'
    obtain ⟨hst, q'⟩ := q'
    obtain ⟨go, yl⟩ := (ok al' F' _ H' M' e' smG W' hst i).1 ds[i] (List.getElem?_eq_getElem hil)
    refine .inr ⟨go, fun H2 => ∃ M2 al2 F2 acc2 xs2, Ext al1 F1 al2 F2 ∧ Wd Y.K al2 F2 (upd G Dd (.lst xs2)) H2 M2 ∧ Rps Y.K F2 al2 xs2 acc2 ∧ lcGo st (lcStep ρ vs g t fe) (ds.drop (i + 1)) acc2 M2 (fun acc M2 => kont Y.K al F G Q (.lst acc) M2), ?_, fun x H2 hy => ?_⟩
    · rintro H2 ⟨M2, al2, F2, acc2, xs2, e2, W2, r2, q2⟩
      exact ⟨m - 1, by omega, M2, al2, F2, acc2, xs2, by omega, e2, W2, r2, q2⟩
    · obtain ⟨F2, sm2, W2, r2⟩ := yl x H2 hy
      have e2 : Ext al' F' al' F2 := ⟨⟨[], by simp⟩, sm2⟩
      have esw : Sl Y.K F2 al' (wipe σ vs) (wipeD ρ.v vs) := (es.sl.ext (e1.trans (e'.trans e2))).wipe vs
      refine ⟨ds[i], ⟨wipeD ρ.v vs, noX⟩, M', al', F2, _, W2, esw, rfl, r2, hg _ _ _ _ _ (fun ρ3 M3 q3 al3 F3 H3 σ3 e3 W3 s3 x3 o3 => ?_) q'⟩
      refine ⟨(wipe_eq o3 hj).trans wipe_wipe, ρ3, M3, al3, F3, _, W3, s3, x3, ht _ _ _ _ (fun b M4 q4 al4 F4 H4 e4 W4 => ?_) q3⟩
      cases b with
      | false =>
        exact ⟨M4, al4, F4, acc, xs, e'.trans (e2.trans (e3.trans e4)), W4, rs.ext (e2.trans (e3.trans e4)), q4⟩
      | true =>
        refine ⟨ρ3, M4, al4, F4, _, W4, s3.ext e4, x3, he _ _ _ _ (fun y M5 q5 al5 F5 H5 v5 e5 W5 r5 => ?_) q4⟩
        have eA : Ext al' F' al5 F5 := e2.trans (e3.trans (e4.trans e5))
        have rl := rs.length
        refine ⟨xs, W5.sg _ _ upd_same, Nat.lt_of_lt_of_le (by have := q5.1; omega : xs.length < 100000) (by decide), M5, al5, F5, acc ++ [y], xs ++ [v5], e'.trans eA, W5.rehide, (rs.ext eA).append (.cons r5 .nil), q5.2⟩
  · rw [List.drop_eq_nil_of_le (by omega)] at q'
    refine .inl ⟨(ok al' F' _ H' M' e' smG W' q'.1 i).2 (by omega), ?_⟩
    obtain ⟨W2, e2⟩ := W'.thaw hGD
    exact q'.2 al' _ H' _ (e1.trans (e'.trans e2)) W2 (.lst upd_same (rs.ext e2))
theorem d_lc {elt tg iter : Expr} {ifs : List Expr} {scope : Scope} {own : List (Str × Nat)} {fi : DTI} {g : DTG} {t : DTT} {fe : DTE} {js : List Nat} (hc : X.calm = true) (hN : X.N.Nodup) (hi : DI X tg iter fi) (ok : BlkOk X.N X.env.scope scope own) (hj : ∀ j ∈ js, j ∈ own.map (·.2))
    (hg : ∀ (s : Shared) (H : Hp) (C : Addr) (cl : List (Str × Addr)) (fp : List Addr), DG (X.blk s H scope (compEnvC scope cl C X.env) fp) tg g js)
    (ht : ∀ (s : Shared) (H : Hp) (C : Addr) (cl : List (Str × Addr)) (fp : List Addr), DTTs (X.blk s H scope (compEnvC scope cl C X.env) fp) ifs t)
    (he : ∀ (s : Shared) (H : Hp) (C : Addr) (cl : List (Str × Addr)) (fp : List Addr), DE (X.blk s H scope (compEnvC scope cl C X.env) fp) elt fe)
    (hfs : ∀ x : Value, foldedSetIterable iter X.env x = pure x := by intro _; rfl) : DE X (.ListComp elt [⟨tg, iter, ifs, 0⟩] scope pos) (dLc fi g t fe (own.map (·.2))) := by
  have g0 := (hg X.s_0 (fun _ => none) 0 [] []).mono
  have t0 := (ht X.s_0 (fun _ => none) 0 [] []).2
  have e0 := (he X.s_0 (fun _ => none) 0 [] []).mono
  refine ⟨PE.of (pe_lc hc hN hi.pi ok (fun s H C cl fp => PG.of (hg s H C cl fp).pg fun _ _ _ _ z => LiftGN.of (hg s H C cl fp).mono z) (fun s H C cl fp => PTs.of (ht s H C cl fp).1 fun _ _ _ z => LiftTN.of z) (fun s H C cl fp => PE.of (he s H C cl fp).pe fun _ _ _ z => LiftN.of z) hfs) fun σ H Q h => lc_ok (Y := X) hi.mono g0 t0 e0 hj h, fun ρ M Q Q' w q => ?_⟩
  exact hi.mono _ _ _ _ (fun ds st M1 q1 => lcGo_mono (lcStep_mono g0 t0 e0) _ _ (fun a M2 q2 => w _ _ q2) ds [] M1 q1) q
theorem ds_setLc {i : Nat} {y : Str} {py spos : Pos} {elt tg iter : Expr} {ifs : List Expr} {scope : Scope} {own : List (Str × Nat)} {fi : DTI} {g : DTG} {t : DTT} {fe : DTE} {js : List Nat} (hc : X.calm = true) (hN : X.N.Nodup) (hy : X.N[i]? = some y) (hl : X.env.scope.names.lookup y = some .local)
    (hsw : swapsWith (.ListComp elt [⟨tg, iter, ifs, 0⟩] scope pos) (some (.Name y py)) spos.line X.env = pure true) (hi : DI X tg iter fi) (ok : BlkOk X.N X.env.scope scope own) (hj : ∀ j ∈ js, j ∈ own.map (·.2))
    (hg : ∀ (s : Shared) (H : Hp) (C : Addr) (cl : List (Str × Addr)) (fp : List Addr), DG (X.blk s H scope (compEnvC scope cl C X.env) fp) tg g js)
    (ht : ∀ (s : Shared) (H : Hp) (C : Addr) (cl : List (Str × Addr)) (fp : List Addr), DTTs (X.blk s H scope (compEnvC scope cl C X.env) fp) ifs t)
    (he : ∀ (s : Shared) (H : Hp) (C : Addr) (cl : List (Str × Addr)) (fp : List Addr), DE (X.blk s H scope (compEnvC scope cl C X.env) fp) elt fe)
    (hfs : ∀ x : Value, foldedSetIterable iter X.env x = pure x := by intro _; rfl) : DS X (.Assign [.Name y py] (.ListComp elt [⟨tg, iter, ifs, 0⟩] scope pos) spos) (dAsg (dLc fi g t fe (own.map (·.2))) (dgName i)) := by
  have hd := d_lc (pos := pos) hc hN hi ok hj hg ht he hfs
  refine ⟨PS.of (ps_setLc (g := LiftGN X.K g js) (tt := LiftTN X.K t) (te := LiftN X.K fe) hc hN hy hl hsw hi.pi ok (fun s H C cl fp => PG.of (hg s H C cl fp).pg fun _ _ _ _ z => LiftGN.of (hg s H C cl fp).mono z) (fun s H C cl fp => PTs.of (ht s H C cl fp).1 fun _ _ _ z => LiftTN.of z) (fun s H C cl fp => PE.of (he s H C cl fp).pe fun _ _ _ z => LiftN.of z) hfs) fun E σ H ⟨ρ, M, al, F, G, W, es, q⟩ => ?_, fun D D' ρ M w q => hd.mono _ _ _ _ (fun d M1 q1 => w.nx _ _ q1) q⟩
  refine lc_ok (Y := X) hi.mono (hg X.s_0 (fun _ => none) 0 [] []).mono (ht X.s_0 (fun _ => none) 0 [] []).2 (he X.s_0 (fun _ => none) 0 [] []).mono hj ?_
  exact hd.seq W es q fun d M1 al1 F1 H1 v q1 e1 W1 r1 s1 => q1 al1 F1 H1 _ e1 W1 (s1.sl.set r1 i) rfl
end
end DL
namespace DL
open PySem PySem.Spec PyProof.Rows L2
theorem le_line {n : Nat} (h : n ≤ 100000) : n ≤ sizeLine := Nat.le_trans h (by decide)
theorem lt_line {n : Nat} (h : n < 100000) : n < sizeLine := Nat.lt_of_lt_of_le h (by decide)
/-- the list that a datum stands for -/
def seqOf : D → Sto → Option (List D)
  | .lst ds, _ => some ds
  | .ref n, M => match M[n]? with
    | some (.lst ds) => some ds
    | _ => none
  | _, _ => none
theorem seqOf_ok {K : PySem.W.Frag} {al : List Addr} {F G H : Hp} {M : Sto} {v : V} {d : D} {ds : List D} (W : Wd K al F G H M) (r : Rp K F al v d) (h : seqOf d M = some ds) : ∃ a xs, v = .ref a ∧ H a = some (.lst xs) ∧ Rps K F al xs ds := by
  cases r with
  | lst a b => cases h; exact ⟨_, _, rfl, W.sm _ _ a, b⟩
  | ref a =>
    unfold seqOf at h
    dsimp only at h
    split at h
    · next e =>
      cases h
      obtain ⟨xs, q, rs⟩ := W.cel _ _ _ e a
      exact ⟨_, xs, rfl, q, rs⟩
    · cases h
  | _ => cases h
section
variable {K : PySem.W.Frag} {al : List Addr} {F G H : Hp} {M : Sto} {Q : VK}
theorem kont.here {d : D} {v : V} (k : kont K al F G Q d M) (W : Wd K al F G H M) (r : Rp K F al v d) : Q v H := k al F H v (Ext.refl _ _) W r
theorem kont.tup {ds : List D} {xs : List V} {p : Addr} (k : kont K al F G Q (.tup ds) M) (W : Wd K al F G H M) (r : Rps K F al xs ds) (hp : H p = none) : Q (.ref p) (upd H p (.tup xs)) := by
  obtain ⟨W1, e1⟩ := W.newF (o := .tup xs) hp
  exact k al _ _ _ e1 W1 (.tup upd_same (r.ext e1))
theorem kont.lst {ds : List D} {xs : List V} {p : Addr} (k : kont K al F G Q (.lst ds) M) (W : Wd K al F G H M) (r : Rps K F al xs ds) (hp : H p = none) : Q (.ref p) (upd H p (.lst xs)) := by
  obtain ⟨W1, e1⟩ := W.newF (o := .lst xs) hp
  exact k al _ _ _ e1 W1 (.lst upd_same (r.ext e1))
theorem kont.new {ds : List D} {xs : List V} {p : Addr} (k : kont K al F G Q (.ref M.length) (M ++ [.lst ds])) (W : Wd K al F G H M) (r : Rps K F al xs ds) (hp : H p = none) : Q (.ref p) (upd H p (.lst xs)) := by
  have e : Ext al F (al ++ [p]) F := ⟨⟨[p], rfl⟩, Sm.refl F⟩
  obtain ⟨W1, e1⟩ := W.newM (o := .lst xs) (c := .lst ds) hp ⟨xs, upd_same, r.ext e⟩
  exact k _ _ _ _ e1 W1 (.ref (by rw [← W.len, List.getElem?_append_right (Nat.le_refl _)]; simp))
end
section
variable {X : Cx} {a b c : Expr} {fa fb fc : DTE} {pos : Pos} {ta tb : DTT}
@[reducible] def gInt (f : Int → Int → D) (C : Int → Int → Prop) : G2 := fun x y M Q => match x, y with
  | .int i, .int j => C i j ∧ Q (f i j) M
  | _, _ => False
theorem gInt_mono (f : Int → Int → D) (C : Int → Int → Prop) : Mono2 (gInt f C) := fun x y M Q Q' w q => by
  unfold gInt at q ⊢
  split at q
  · exact ⟨q.1, w _ _ q.2⟩
  · exact q.elim
theorem o_int {f : Value → Value → Sem Value} {g : Int → Int → V} {h : Int → Int → D} {C : Int → Int → Prop} (ho : OpR X f (rI C g)) (hr : ∀ i j F al, Rp X.K F al (g i j) (h i j)) : O2 X f (gInt h C) :=
  O2.of ho (gInt_mono h C) fun al F G H M x y dx dy Q W r1 r2 q => by
    cases r1 <;> first | exact q.elim | (cases r2 <;> first | exact q.elim | exact ⟨_, _, rfl, rfl, q.1, q.2.here W (hr _ _ F al)⟩)
@[reducible] def gI0 (f : Int → Int → D) : G2 := fun x y M Q => match x, y with
  | .int i, .int j => Q (f i j) M
  | _, _ => False
theorem gI0_mono (f : Int → Int → D) : Mono2 (gI0 f) := fun x y M Q Q' w q => by
  unfold gI0 at q ⊢
  split at q
  · exact w _ _ q
  · exact q.elim
theorem o_int0 {f : Value → Value → Sem Value} {g : Int → Int → V} {h : Int → Int → D} (ho : OpR X f (rI0 g)) (hr : ∀ i j F al, Rp X.K F al (g i j) (h i j)) : O2 X f (gI0 h) :=
  O2.of ho (gI0_mono h) fun al F G H M x y dx dy Q W r1 r2 q => by
    cases r1 <;> first | exact q.elim | (cases r2 <;> first | exact q.elim | exact ⟨_, _, rfl, rfl, kont.here q W (hr _ _ F al)⟩)
theorem o_sub : O2 X (binaryOp .Sub) (gI0 fun i j => .int (i - j)) := o_int0 op_sub fun _ _ _ _ => .int _
theorem o_fdiv : O2 X (binaryOp .FloorDiv) (gInt (fun i j => .int (i / j)) CDiv) := o_int op_fdiv fun _ _ _ _ => .int _
theorem o_mod : O2 X (binaryOp .Mod) (gInt (fun i j => .int (i % j)) fun _ j => 0 < j) := o_int op_mod fun _ _ _ _ => .int _
theorem o_pow : O2 X (binaryOp .Pow) (gInt (fun i j => .int (i ^ j.toNat)) CPow) := o_int op_pow fun _ _ _ _ => .int _
theorem o_le : O2 X (compareOp .LtE) (gI0 fun i j => .bl (decide (i ≤ j))) := o_int0 op_le fun _ _ _ _ => .bl _
theorem o_gt : O2 X (compareOp .Gt) (gI0 fun i j => .bl (decide (j < i))) := o_int0 op_gt fun _ _ _ _ => .bl _
theorem o_ge : O2 X (compareOp .GtE) (gI0 fun i j => .bl (decide (j ≤ i))) := o_int0 op_ge fun _ _ _ _ => .bl _
@[reducible] def gNeg : G1 := fun x M Q => match x with
  | .int i => Q (.int (-i)) M
  | _ => False
theorem O1.of {f : Value → Sem Value} {r : V → Hp → VK → Prop} {g : G1} (h : UnR X f r) (m : Mono1 g)
    (k : ∀ al F G H M x dx Q, Wd X.K al F G H M → Rp X.K F al x dx → g dx M (kont X.K al F G Q) → r x H Q) : O1 X f g :=
  ⟨fun pins s σ al F G H M x v dx Q I rx W r1 q => h pins s σ H x v Q I rx (k al F G H M x dx Q W r1 q), m⟩
theorem o_neg : O1 X (unaryOp .USub) gNeg := O1.of un_neg (fun x M Q Q' w q => by
    unfold gNeg at q ⊢
    split at q
    · exact w _ _ q
    · exact q.elim) fun al F G H M x dx Q W r1 q => by
  cases r1 <;> first | exact q.elim | exact ⟨_, rfl, kont.here q W (.int _)⟩
/-- + : ints, texts, tuples, lists -/
@[reducible] def gAdd : G2 := fun x y M Q => match x, y with
  | .int i, .int j => Q (.int (i + j)) M
  | .str i, .str j => i.length + j.length ≤ 100000 ∧ Q (.str (i ++ j)) M
  | .tup i, .tup j => i.length + j.length ≤ 100000 ∧ Q (.tup (i ++ j)) M
  | x, y => match seqOf x M, seqOf y M with
    | some i, some j => i.length + j.length ≤ 100000 ∧ Q (.lst (i ++ j)) M
    | _, _ => False
theorem gAdd_mono : Mono2 gAdd := fun x y M Q Q' w q => by
  unfold gAdd at q ⊢
  split at q
  · exact w _ _ q
  · exact ⟨q.1, w _ _ q.2⟩
  · exact ⟨q.1, w _ _ q.2⟩
  · split at q
    · exact ⟨q.1, w _ _ q.2⟩
    · exact q.elim
theorem o_add : O2 X (binaryOp .Add) gAdd := O2.of (OpR.or op_add (OpR.or op_add_str (OpR.or op_catA op_cat))) gAdd_mono fun al F G H M x y dx dy Q W r1 r2 q => by
  unfold gAdd at q
  split at q
  · cases r1; cases r2
    exact .inl ⟨_, _, rfl, rfl, kont.here q W (.int _)⟩
  · cases r1; cases r2
    exact .inr (.inl ⟨_, _, rfl, rfl, le_line q.1, kont.here q.2 W (.str _)⟩)
  · cases r1 with
    | tup a1 b1 =>
      cases r2 with
      | tup a2 b2 =>
        have l1 := b1.length
        have l2 := b2.length
        refine .inr (.inr (.inl ⟨_, _, _, _, rfl, rfl, SqT.of (W.sm _ _ a1), SqT.of (W.sm _ _ a2), le_line (by have := q.1; omega), fun z => ?_, fun _ z => ?_, fun _ _ p hp => kont.tup q.2 W (b1.append b2) hp⟩))
        · subst z
          cases b1
          exact kont.here q.2 W (.tup a2 b2)
        · subst z
          cases b2
          rw [List.append_nil] at q
          exact kont.here q.2 W (.tup a1 b1)
  · split at q
    · next e1 e2 =>
      obtain ⟨p1, xs1, rfl, h1, s1⟩ := seqOf_ok W r1 e1
      obtain ⟨p2, xs2, rfl, h2, s2⟩ := seqOf_ok W r2 e2
      have l1 := s1.length
      have l2 := s2.length
      exact .inr (.inr (.inr ⟨_, _, _, _, rfl, rfl, h1, h2, le_line (by have := q.1; omega), fun p hp => kont.lst q.2 W (s1.append s2) hp⟩))
    · exact q.elim
theorem Rps.rep {K : PySem.W.Frag} {F : Hp} {al : List Addr} {xs : List V} {ds : List D} (h : Rps K F al xs ds) : ∀ k : Nat, Rps K F al (List.replicate k xs).flatten (List.replicate k ds).flatten
  | 0 => .nil
  | k + 1 => by rw [List.replicate_succ, List.replicate_succ, List.flatten_cons, List.flatten_cons]; exact h.append (h.rep k)
/-- * : ints; lists and tuples some times -/
@[reducible] def gMul : G2 := fun x y M Q => match x, y with
  | .int i, .int j => CMul i j ∧ Q (.int (i * j)) M
  | .tup ds, .int k => ds ≠ [] ∧ 2 ≤ k ∧ k ≤ 1000 ∧ ds.length ≤ 1000 ∧ Q (.tup (List.replicate k.toNat ds).flatten) M
  | x, .int k => match seqOf x M with
    | some ds => 0 ≤ k ∧ k < 100000 ∧ ds.length * k.toNat ≤ 100000 ∧ Q (.lst (List.replicate k.toNat ds).flatten) M
    | none => False
  | _, _ => False
def isNon : D → Bool
  | .non => true
  | _ => false
@[reducible] def gIsN (neg : Bool) : G2 := fun x y M Q => match y with
  | .non => Q (.bl (isNon x ^^ neg)) M
  | _ => False
theorem gIsN_mono (neg : Bool) : Mono2 (gIsN neg) := fun x y M Q Q' w q => by
  unfold gIsN at q ⊢
  split at q
  · exact w _ _ q
  · exact q.elim
theorem isNon_ok {K : PySem.W.Frag} {F : Hp} {al : List Addr} {v : V} {d : D} (r : Rp K F al v d) : decide (v = .non) = isNon d := by
  cases r <;> simp [isNon]
theorem o_isN : O2 X (compareOp .Is) (gIsN false) := O2.of op_isN (gIsN_mono _) fun al F G H M x y dx dy Q W r1 r2 q => by
  unfold gIsN at q
  split at q
  · cases r2
    rw [Bool.xor_false] at q
    exact ⟨rfl, by rw [isNon_ok r1]; exact kont.here q W (.bl _)⟩
  · exact q.elim
theorem o_notN : O2 X (compareOp .IsNot) (gIsN true) := O2.of op_notN (gIsN_mono _) fun al F G H M x y dx dy Q W r1 r2 q => by
  unfold gIsN at q
  split at q
  · cases r2
    rw [Bool.xor_true] at q
    exact ⟨rfl, by rw [isNon_ok r1]; exact kont.here q W (.bl _)⟩
  · exact q.elim
mutual
def toPy : D → PyData
  | .non => .none
  | .bl b => .bool b
  | .int i => .int i
  | .str x => .str x
  | .tup ds => .tuple (toPys ds)
  | .lst ds => .list (toPys ds)
  | .dct _ _ => .none
  | .ref _ => .none
  | .scr _ => .none
  | .exo _ _ _ _ _ => .none
  | .clo _ _ _ _ => .none
def toPys : List D → List PyData
  | [] => []
  | d :: ds => toPy d :: toPys ds
end
mutual
def pu : D → Bool
  | .non | .bl _ | .int _ | .str _ => true
  | .tup ds => pus ds
  | .lst ds => pus ds
  | .dct _ _ | .ref _ | .scr _ | .exo _ _ _ _ _ | .clo _ _ _ _ => false
def pus : List D → Bool
  | [] => true
  | d :: ds => pu d && pus ds
end
section
variable {K : PySem.W.Frag} {al : List Addr} {F G H : Hp} {M : Sto}
mutual
theorem dp_of (sm : Sm F H) : ∀ {d : D} {v : V}, Rp K F al v d → pu d = true → Dp K H v (toPy d)
  | .non, _, r, _ => by cases r; exact .non
  | .bl _, _, r, _ => by cases r; exact .bl _
  | .int _, _, r, _ => by cases r; exact .int _
  | .str _, _, r, _ => by cases r; exact .str _
  | .tup _, _, r, h => by
    cases r with
    | tup a b => exact .tup (SqT.of (sm _ _ a)) (dps_of sm b h)
  | .lst _, _, r, h => by
    cases r with
    | lst a b => exact .lst (SqL.of (sm _ _ a)) (dps_of sm b h)
  | .dct _ _, _, _, h => by cases h
  | .ref _, _, _, h => by cases h
  | .scr _, _, _, h => by cases h
  | .exo _ _ _ _ _, _, _, h => by cases h
  | .clo _ _ _ _, _, _, h => by cases h
theorem dps_of (sm : Sm F H) : ∀ {ds : List D} {vs : List V}, Rps K F al vs ds → pus ds = true → DpAll K H vs (toPys ds)
  | [], _, r, _ => by cases r; exact .nil
  | d :: ds, _, r, h => by
    cases r with
    | cons a b =>
      have h' : pu d = true ∧ pus ds = true := by simpa [pus] using h
      exact .cons (dp_of sm a h'.1) (dps_of sm b h'.2)
end
/-- a list of the store, as it stands -/
def vw : D → Sto → D
  | .ref n, M => match M[n]? with
    | some (.lst ds) => .lst ds
    | _ => .ref n
  | d, _ => d
theorem dp_vw {v : V} {d : D} (W : Wd K al F G H M) (r : Rp K F al v d) (h : pu (vw d M) = true) : Dp K H v (toPy (vw d M)) := by
  cases r with
  | ref a =>
    unfold vw at h ⊢
    dsimp only at h ⊢
    split at h
    · next ds e =>
      obtain ⟨xs, q, rs⟩ := W.cel _ _ _ e a
      exact .lst (SqL.of q) (dps_of W.sm rs h)
    · cases h
  | non => exact .non
  | bl b => exact .bl b
  | int i => exact .int i
  | str x => exact .str x
  | tup a b => exact dp_of W.sm (.tup a b) h
  | lst a b => exact dp_of W.sm (.lst a b) h
  | dct a l b => cases h
  | scr a => cases h
  | exo0 => cases h
  | exo a l b => cases h
  | clo a b => cases h
end
def eqOk (d : D) (M : Sto) : Prop := pu (vw d M) = true ∧ SeqAt.shaped (toPy (vw d M)) = true
@[reducible] def gEq (neg : Bool) : G2 := fun x y M Q => match x, y with
  | .int i, .int j => Q (.bl (decide (i = j) ^^ neg)) M
  | .str i, .str j => Q (.bl (decide (i = j) ^^ neg)) M
  | x, y => eqOk x M ∧ eqOk y M ∧ Q (.bl (PyData.eqv (toPy (vw x M)) (toPy (vw y M)) ^^ neg)) M
theorem gEq_mono (neg : Bool) : Mono2 (gEq neg) := fun x y M Q Q' w q => by
  unfold gEq at q ⊢
  split at q
  · exact w _ _ q
  · exact w _ _ q
  · exact ⟨q.1, q.2.1, w _ _ q.2.2⟩
theorem o_eq (hu : X.A.units + 64 < cLine) : O2 X (compareOp .Eq) (gEq false) := O2.of (OpR.or op_eq (op_eqD hu)) (gEq_mono _) fun al F G H M x y dx dy Q W r1 r2 q => by
  unfold gEq at q
  split at q
  · cases r1; cases r2
    rw [Bool.xor_false] at q
    refine .inl ⟨rfl, ?_⟩
    have e : ∀ i j : Int, decide (V.int i = V.int j) = decide (i = j) := fun i j => by simp
    rw [e]
    exact kont.here q W (.bl _)
  · cases r1; cases r2
    rw [Bool.xor_false] at q
    refine .inl ⟨rfl, ?_⟩
    have e : ∀ i j : Str, decide (V.str i = V.str j) = decide (i = j) := fun i j => by simp
    rw [e]
    exact kont.here q W (.bl _)
  · rw [Bool.xor_false] at q
    exact .inr ⟨_, _, dp_vw W r1 q.1.1, dp_vw W r2 q.2.1.1, q.1.2, q.2.1.2, kont.here q.2.2 W (.bl _)⟩
theorem o_ne (hu : X.A.units + 64 < cLine) : O2 X (compareOp .NotEq) (gEq true) := O2.of (OpR.or op_ne (op_neD hu)) (gEq_mono _) fun al F G H M x y dx dy Q W r1 r2 q => by
  unfold gEq at q
  split at q
  · cases r1; cases r2
    rw [Bool.xor_true] at q
    refine .inl ⟨rfl, ?_⟩
    have e : ∀ i j : Int, (!decide (V.int i = V.int j)) = !decide (i = j) := fun i j => by simp
    rw [e]
    exact kont.here q W (.bl _)
  · cases r1; cases r2
    rw [Bool.xor_true] at q
    refine .inl ⟨rfl, ?_⟩
    have e : ∀ i j : Str, (!decide (V.str i = V.str j)) = !decide (i = j) := fun i j => by simp
    rw [e]
    exact kont.here q W (.bl _)
  · rw [Bool.xor_true] at q
    exact .inr ⟨_, _, dp_vw W r1 q.1.1, dp_vw W r2 q.2.1.1, q.1.2, q.2.1.2, kont.here q.2.2 W (.bl _)⟩
def rN (K : PySem.W.Frag) (g : GN) : List V → Hp → VK → Prop := fun xs H Q => ∃ ds al F G M, Wd K al F G H M ∧ Rps K F al xs ds ∧ g ds M (kont K al F G Q)
theorem ON.callR {f : Value} {g : GN} (h : ON X f g) : CallR X f (rN X.K g) := fun pins s σ H xs us Q I r ⟨ds, al, F, G, M, W, rs, q⟩ => h.run pins s σ al F G H M xs us ds Q I r W rs q
theorem dApp_mono {es : List Expr} {fr : DTA} {g : GN} (ha : DA X es fr) (hg : MonoN g) : ∀ ρ M (Q Q' : DK), (∀ d M, Q d M → Q' d M) → dApp g fr ρ M Q → dApp g fr ρ M Q' :=
  fun ρ M Q Q' w q => ha.mono _ _ _ _ (fun ds M1 q1 => hg _ _ _ _ w q1) q
theorem app_ok {es : List Expr} {fr : DTA} {g : GN} (ha : DA X es fr) (hg : MonoN g) {σ : L2.St} {H : Hp} {Q : VK} (h : Lift X (dApp g fr) σ H Q) : tCB (rN X.K g) (LiftA X fr) σ H Q := by
  obtain ⟨ρ, M, al, F, G, W, es, q⟩ := h
  exact ha.seq W es q fun ds M1 al1 F1 H1 vs q1 e1 W1 r1 s1 => ⟨ds, al1, F1, G, M1, W1, r1, hg _ _ _ _ (fun d M2 k => kont.ext k e1) q1⟩
theorem d_callB {x : Str} {p : Pos} {es : List Expr} {fr : DTA} {id : String} {g : GN} (ho : ON X (.builtin id) g) (hg : Gl X x) (hm : X.mg x = none) (hv : bootBuiltins x = some (.builtin id)) (ha : DA X (a :: es) fr) (hn : x ≠ "__name__" := by decide) (hd : (x == ("__debug__" : Str)) = false := by decide)
    (hs : starEach (a :: es) X.env = (false, eval a X.env) :: starEach es X.env := by rfl) (hpl : (backTo pos (starEach es X.env)).any (·.1) = false := by rfl) : DE X (.Call (.Name x p) (a :: es) [] pos) (dApp g fr) :=
  ⟨PE.of (pe_callB ho.callR hg hm hv ha.pa hn hd hs hpl) fun σ H Q h => app_ok ha ho.mono h, dApp_mono ha ho.mono⟩
theorem d_callTy {x : Str} {p : Pos} {es : List Expr} {fr : DTA} {T : String} {g : GN} (ho : ON X (.type T) g) (hg : Gl X x) (hm : X.mg x = none) (hv : bootBuiltins x = some (.type T)) (ha : DA X (a :: es) fr) (hn : x ≠ "__name__" := by decide) (hd : (x == ("__debug__" : Str)) = false := by decide)
    (hs : starEach (a :: es) X.env = (false, eval a X.env) :: starEach es X.env := by rfl) (hpl : (backTo pos (starEach es X.env)).any (·.1) = false := by rfl) : DE X (.Call (.Name x p) (a :: es) [] pos) (dApp g fr) :=
  ⟨PE.of (pe_callTy ho.callR hg hm hv ha.pa hn hd hs hpl) fun σ H Q h => app_ok ha ho.mono h, dApp_mono ha ho.mono⟩
@[reducible] def g1 (g : G1) : GN := fun ds M Q => match ds with
  | [d] => g d M Q
  | _ => False
theorem g1_mono {g : G1} (h : Mono1 g) : MonoN (g1 g) := fun ds M Q Q' w q => by
  unfold g1 at q ⊢
  split at q
  · exact h _ _ _ _ w q
  · exact q.elim
theorem ON.of1 {f : Value} {r : List V → Hp → VK → Prop} {g : G1} (h : CallR X f r) (m : Mono1 g)
    (k : ∀ al F G H M x d Q, Wd X.K al F G H M → Rp X.K F al x d → g d M (kont X.K al F G Q) → r [x] H Q) : ON X f (g1 g) :=
  ON.of h (g1_mono m) fun al F G H M xs ds Q W rs q => by
    match ds, rs, q with
    | [d], .cons r .nil, q => exact k al F G H M _ d Q W r q
    | [], _, q => exact q.elim
    | _ :: _ :: _, _, q => exact q.elim
/-- len -/
def lenOf : D → Sto → Option Nat
  | .tup ds, _ => some ds.length
  | .scr ns, _ => some ns.length
  | d, M => match seqOf d M with
    | some ds => some ds.length
    | none => none
@[reducible] def gLen : G1 := fun d M Q => match d with
  | .str x => x.length ≤ 100000 ∧ Q (.int x.length) M
  | d => match lenOf d M with
    | some n => Q (.int n) M
    | none => False
theorem gLen_mono : Mono1 gLen := fun d M Q Q' w q => by
  unfold gLen at q ⊢
  split at q
  · exact ⟨q.1, w _ _ q.2⟩
  · split at q
    · exact w _ _ q
    · exact q.elim
theorem o_len : ON X (.builtin "len") (g1 gLen) := ON.of1 call_len gLen_mono fun al F G H M x d Q W r q => by
  unfold gLen at q
  split at q
  · cases r
    exact ⟨_, _, rfl, ⟨le_line q.1, rfl⟩, kont.here q.2 W (.int _)⟩
  · split at q
    · next e =>
      unfold lenOf at e
      split at e
      · cases e
        cases r with
        | tup a b =>
          rw [← b.length] at q
          exact ⟨_, _, rfl, .inr ⟨_, SqT.of (W.sm _ _ a), rfl⟩, kont.here q W (.int _)⟩
      · cases e
        cases r with
        | scr a => exact ⟨_, _, rfl, .inl ⟨_, W.sm.l a, (List.length_map ..).symm⟩, kont.here q W (.int _)⟩
      · cases e2 : seqOf d M with
        | none => rw [e2] at e; cases e
        | some ds =>
          rw [e2] at e
          cases e
          obtain ⟨p1, xs1, rfl, h1, s1⟩ := seqOf_ok W r e2
          rw [← s1.length] at q
          exact ⟨_, _, rfl, .inl ⟨_, SqL.of h1, rfl⟩, kont.here q W (.int _)⟩
    · exact q.elim
/-- tuple(..), list(..) -/
@[reducible] def gTuple : G1 := fun d M Q => match d with
  | .tup ds => Q (.tup ds) M
  | d => match seqOf d M with
    | some ds => Q (.tup ds) M
    | none => False
theorem gTuple_mono : Mono1 gTuple := fun d M Q Q' w q => by
  unfold gTuple at q ⊢
  split at q
  · exact w _ _ q
  · split at q
    · exact w _ _ q
    · exact q.elim
theorem o_tuple : ON X (.type "tuple") (g1 gTuple) := ON.of1 call_tuple_of gTuple_mono fun al F G H M x d Q W r q => by
  unfold gTuple at q
  split at q
  · cases r with
    | tup a b => exact ⟨_, _, rfl, .inr ⟨SqT.of (W.sm _ _ a), kont.here q W (.tup a b)⟩⟩
  · split at q
    · next e =>
      obtain ⟨p1, xs1, rfl, h1, s1⟩ := seqOf_ok W r e
      exact ⟨_, _, rfl, .inl ⟨SqL.of h1, fun l hl => kont.tup q W s1 hl⟩⟩
    · exact q.elim
@[reducible] def gList : G1 := fun d M Q => match d with
  | .tup ds => Q (.lst ds) M
  | d => match seqOf d M with
    | some ds => Q (.lst ds) M
    | none => False
/-- abs, max, min of two; int, str of an int -/
@[reducible] def gAbs : G1 := fun d M Q => match d with
  | .int i => Q (.int (if i < 0 then -i else i)) M
  | _ => False
theorem o_abs : ON X (.builtin "abs") (g1 gAbs) := ON.of1 call_abs (fun d M Q Q' w q => by
    unfold gAbs at q ⊢
    split at q
    · exact w _ _ q
    · exact q.elim) fun al F G H M x d Q W r q => by
  cases r <;> first | exact q.elim | exact ⟨_, rfl, kont.here q W (.int _)⟩
@[reducible] def g2I (f : Int → Int → Int) : GN := fun ds M Q => match ds with
  | [.int i, .int j] => Q (.int (f i j)) M
  | _ => False
theorem g2I_mono (f : Int → Int → Int) : MonoN (g2I f) := fun ds M Q Q' w q => by
  unfold g2I at q ⊢
  split at q
  · exact w _ _ q
  · exact q.elim
@[reducible] def gStrI : G1 := fun d M Q => match d with
  | .int i => i.natAbs.log2 < 1920 ∧ Q (.str (Str.ofString (toString i))) M
  | _ => False
theorem o_str : ON X (.type "str") (g1 gStrI) := ON.of1 call_str_int (fun d M Q Q' w q => by
    unfold gStrI at q ⊢
    split at q
    · exact ⟨q.1, w _ _ q.2⟩
    · exact q.elim) fun al F G H M x d Q W r q => by
  cases r <;> first | exact q.elim | exact ⟨_, rfl, q.1, kont.here q.2 W (.str _)⟩
@[reducible] def gInt1 : G1 := fun d M Q => match d with
  | .int i => Q (.int i) M
  | .bl b => Q (.int (if b = true then 1 else 0)) M
  | _ => False
theorem o_int1 : ON X (.type "int") (g1 gInt1) := ON.of1 call_int1 (fun d M Q Q' w q => by
    unfold gInt1 at q ⊢
    split at q
    · exact w _ _ q
    · exact w _ _ q
    · exact q.elim) fun al F G H M x d Q W r q => by
  cases r <;> first | exact q.elim | exact .inl ⟨_, rfl, kont.here q W (.int _)⟩ | exact .inr ⟨_, rfl, kont.here q W (.int _)⟩
/-- sum, min, max of a list of ints; all, any of a list of bools -/
def intsOf : List D → Option (List Int)
  | [] => some []
  | .int i :: r => (intsOf r).map (i :: ·)
  | _ :: _ => none
theorem intsOf_eq : ∀ {ds : List D} {ns : List Int}, intsOf ds = some ns → ds = ns.map D.int
  | [], _, h => by cases h; rfl
  | d :: r, ns, h => by
    cases d <;> first | (cases h; done) | skip
    unfold intsOf at h
    cases e : intsOf r with
    | none => rw [e] at h; cases h
    | some ms => rw [e] at h; cases h; rw [intsOf_eq e]; rfl
theorem intsOf_map (ns : List Int) : intsOf (ns.map D.int) = some ns := by
  induction ns with
  | nil => rfl
  | cons n ns ih => rw [List.map_cons]; unfold intsOf; rw [ih]; rfl
def blsOf : List D → Option (List Bool)
  | [] => some []
  | .bl i :: r => (blsOf r).map (i :: ·)
  | _ :: _ => none
theorem blsOf_eq : ∀ {ds : List D} {ns : List Bool}, blsOf ds = some ns → ds = ns.map D.bl
  | [], _, h => by cases h; rfl
  | d :: r, ns, h => by
    cases d <;> first | (cases h; done) | skip
    unfold blsOf at h
    cases e : blsOf r with
    | none => rw [e] at h; cases h
    | some ms => rw [e] at h; cases h; rw [blsOf_eq e]; rfl
theorem blsOf_map (ns : List Bool) : blsOf (ns.map D.bl) = some ns := by
  induction ns with
  | nil => rfl
  | cons n ns ih => rw [List.map_cons]; unfold blsOf; rw [ih]; rfl
def minI : List Int → Int
  | [] => 0
  | [x] => x
  | x :: y :: r => min x (minI (y :: r))
def maxI : List Int → Int
  | [] => 0
  | [x] => x
  | x :: y :: r => max x (maxI (y :: r))
theorem minI_le : ∀ {ns : List Int} {x : Int}, x ∈ ns → minI ns ≤ x
  | [y], x, h => by simp at h; subst h; exact Int.le_refl _
  | y :: z :: r, x, h => by
    unfold minI
    rcases List.mem_cons.mp h with rfl | h
    · exact Int.min_le_left _ _
    · exact Int.le_trans (Int.min_le_right _ _) (minI_le h)
theorem minI_mem : ∀ {ns : List Int}, ns ≠ [] → minI ns ∈ ns
  | [y], _ => by simp [minI]
  | y :: z :: r, _ => by
    unfold minI
    have ih := minI_mem (ns := z :: r) (by simp)
    rcases Int.le_total y (minI (z :: r)) with h | h
    · rw [Int.min_eq_left h]; exact List.mem_cons_self
    · rw [Int.min_eq_right h]; exact List.mem_cons_of_mem _ ih
theorem le_maxI : ∀ {ns : List Int} {x : Int}, x ∈ ns → x ≤ maxI ns
  | [y], x, h => by simp at h; subst h; exact Int.le_refl _
  | y :: z :: r, x, h => by
    unfold maxI
    rcases List.mem_cons.mp h with rfl | h
    · exact Int.le_max_left _ _
    · exact Int.le_trans (le_maxI h) (Int.le_max_right _ _)
theorem maxI_mem : ∀ {ns : List Int}, ns ≠ [] → maxI ns ∈ ns
  | [y], _ => by simp [maxI]
  | y :: z :: r, _ => by
    unfold maxI
    have ih := maxI_mem (ns := z :: r) (by simp)
    rcases Int.le_total y (maxI (z :: r)) with h | h
    · rw [Int.max_eq_right h]; exact List.mem_cons_of_mem _ ih
    · rw [Int.max_eq_left h]; exact List.mem_cons_self
theorem minI_uniq {ns : List Int} {m : Int} (h : m ∈ ns) (l : ∀ x ∈ ns, m ≤ x) : minI ns = m :=
  Int.le_antisymm (minI_le h) (l _ (minI_mem (List.ne_nil_of_mem h)))
theorem maxI_uniq {ns : List Int} {m : Int} (h : m ∈ ns) (l : ∀ x ∈ ns, x ≤ m) : maxI ns = m :=
  Int.le_antisymm (l _ (maxI_mem (List.ne_nil_of_mem h))) (le_maxI h)
@[reducible] def gInts (f : List Int → Sto → DK → Prop) : G1 := fun d M Q => match seqOf d M with
  | some ds => match intsOf ds with
    | some ns => f ns M Q
    | none => False
  | none => False
theorem gInts_mono {f : List Int → Sto → DK → Prop} (h : ∀ ns M (Q Q' : DK), (∀ d M, Q d M → Q' d M) → f ns M Q → f ns M Q') : Mono1 (gInts f) := fun d M Q Q' w q => by
  unfold gInts at q ⊢
  split at q
  · split at q
    · exact h _ _ _ _ w q
    · exact q.elim
  · exact q.elim
theorem gInts_ok {f : List Int → Sto → DK → Prop} {K : PySem.W.Frag} {al : List Addr} {F G H : Hp} {M : Sto} {v : V} {d : D} {Q : DK} (W : Wd K al F G H M) (r : Rp K F al v d) (h : gInts f d M Q) : ∃ a ns, v = .ref a ∧ SqL K H a (ns.map V.int) ∧ f ns M Q := by
  unfold gInts at h
  split at h
  · next ds e2 =>
    split at h
    · next ns e =>
      have e3 := intsOf_eq e
      subst e3
      obtain ⟨p1, xs1, rfl, h1, s1⟩ := seqOf_ok W r e2
      rw [s1.ints] at h1
      exact ⟨_, ns, rfl, SqL.of h1, h⟩
    · exact h.elim
  · exact h.elim
@[reducible] def gBls (f : List Bool → Sto → DK → Prop) : G1 := fun d M Q => match seqOf d M with
  | some ds => match blsOf ds with
    | some ns => f ns M Q
    | none => False
  | none => False
theorem gBls_mono {f : List Bool → Sto → DK → Prop} (h : ∀ ns M (Q Q' : DK), (∀ d M, Q d M → Q' d M) → f ns M Q → f ns M Q') : Mono1 (gBls f) := fun d M Q Q' w q => by
  unfold gBls at q ⊢
  split at q
  · split at q
    · exact h _ _ _ _ w q
    · exact q.elim
  · exact q.elim
theorem gBls_ok {f : List Bool → Sto → DK → Prop} {K : PySem.W.Frag} {al : List Addr} {F G H : Hp} {M : Sto} {v : V} {d : D} {Q : DK} (W : Wd K al F G H M) (r : Rp K F al v d) (h : gBls f d M Q) : ∃ a ns, v = .ref a ∧ SqL K H a (ns.map V.bl) ∧ f ns M Q := by
  unfold gBls at h
  split at h
  · next ds e2 =>
    split at h
    · next ns e =>
      have e3 := blsOf_eq e
      subst e3
      obtain ⟨p1, xs1, rfl, h1, s1⟩ := seqOf_ok W r e2
      rw [s1.bls] at h1
      exact ⟨_, ns, rfl, SqL.of h1, h⟩
    · exact h.elim
  · exact h.elim
@[reducible] def fSum : List Int → Sto → DK → Prop := fun ns M Q => Q (.int ns.sum) M
@[reducible] def fMin : List Int → Sto → DK → Prop := fun ns M Q => ns ≠ [] ∧ Q (.int (minI ns)) M
@[reducible] def fAll : List Bool → Sto → DK → Prop := fun ns M Q => Q (.bl (ns.all id)) M
theorem o_sum (hc : X.calm = true) : ON X (.builtin "sum") (g1 (gInts fSum)) := ON.of1 (cr_sum hc) (gInts_mono fun _ _ _ _ w q => w _ _ q) fun al F G H M x d Q W r q => by
  obtain ⟨p, ns, rfl, h, k⟩ := gInts_ok W r q
  exact ⟨p, ns, rfl, h, kont.here k W (.int _)⟩
theorem o_all (hc : X.calm = true) : ON X (.builtin "all") (g1 (gBls fAll)) := ON.of1 (cr_all hc) (gBls_mono fun _ _ _ _ w q => w _ _ q) fun al F G H M x d Q W r q => by
  obtain ⟨p, ns, rfl, h, k⟩ := gBls_ok W r q
  exact ⟨p, ns, rfl, h, kont.here k W (.bl _)⟩
theorem len_pos {ns : List Int} (h : ns ≠ []) : 0 < ns.length := List.length_pos_iff.mpr h
theorem o_max2 (hc : X.calm = true) : ON X (.builtin "max") (g2I fun m n => if n > m then n else m) := ON.of (call_max2 hc) (g2I_mono _) fun al F G H M xs ds Q W rs q => by
  unfold g2I at q
  split at q
  · cases rs with
    | cons r1 rs =>
      cases rs with
      | cons r2 rs =>
        cases rs; cases r1; cases r2
        exact ⟨_, _, rfl, kont.here q W (.int _)⟩
  · exact q.elim
end
end DL
namespace DL
open PySem PySem.Spec PyProof.Rows L2
section
variable {X : Cx} {a b c : Expr} {fa fb fc : DTE} {pos : Pos} {ta tb : DTT} {es : List Expr} {fr : DTA}
@[reducible] def dTup (fr : DTA) : DTE := fun ρ M Q => fr ρ M fun ds M1 => ds.length ≤ 100000 ∧ Q (.tup ds) M1
@[reducible] def dLst (fr : DTA) : DTE := fun ρ M Q => fr ρ M fun ds M1 => ds.length ≤ 100000 ∧ Q (.lst ds) M1
/-- a list that will be changed -/
@[reducible] def dLstM (fr : DTA) : DTE := fun ρ M Q => fr ρ M fun ds M1 => ds.length ≤ 100000 ∧ Q (.ref M1.length) (M1 ++ [.lst ds])
theorem d_tup {k : Nat} (h : DA X es fr) : DE X (.Tuple es k pos) (dTup fr) := by
  refine ⟨PE.of (pe_tup h.pa) fun σ H Q ⟨ρ, M, al, F, G, W, s, q⟩ => ?_, fun ρ M Q Q' w q => h.mono _ _ _ _ (fun ds M1 q1 => ⟨q1.1, w _ _ q1.2⟩) q⟩
  refine h.seq W s q fun ds M1 al1 F1 H1 vs q1 e1 W1 r1 s1 => ⟨le_line (by rw [r1.length]; exact q1.1), fun p hp => kont.tup (kont.ext q1.2 e1) W1 r1 hp⟩
theorem d_lst (h : DA X es fr) : DE X (.List es pos) (dLst fr) := by
  refine ⟨PE.of (pe_lst h.pa) fun σ H Q ⟨ρ, M, al, F, G, W, s, q⟩ => ?_, fun ρ M Q Q' w q => h.mono _ _ _ _ (fun ds M1 q1 => ⟨q1.1, w _ _ q1.2⟩) q⟩
  refine h.seq W s q fun ds M1 al1 F1 H1 vs q1 e1 W1 r1 s1 => ⟨le_line (by rw [r1.length]; exact q1.1), fun p hp => kont.lst (kont.ext q1.2 e1) W1 r1 hp⟩
theorem d_lstM (h : DA X es fr) : DE X (.List es pos) (dLstM fr) := by
  refine ⟨PE.of (pe_lst h.pa) fun σ H Q ⟨ρ, M, al, F, G, W, s, q⟩ => ?_, fun ρ M Q Q' w q => h.mono _ _ _ _ (fun ds M1 q1 => ⟨q1.1, w _ _ q1.2⟩) q⟩
  refine h.seq W s q fun ds M1 al1 F1 H1 vs q1 e1 W1 r1 s1 => ⟨le_line (by rw [r1.length]; exact q1.1), fun p hp => kont.new (kont.ext q1.2 e1) W1 r1 hp⟩
/-- *e in a display -/
def itemsOf : D → Sto → Option (List D)
  | .tup ds, _ => some ds
  | d, M => seqOf d M
theorem itemsOf_ok {K : PySem.W.Frag} {al : List Addr} {F G H : Hp} {M : Sto} {v : V} {d : D} {ds : List D} (W : Wd K al F G H M) (r : Rp K F al v d) (h : itemsOf d M = some ds) : ∃ a xs, v = .ref a ∧ (H a = some (.tup xs) ∨ H a = some (.lst xs)) ∧ Rps K F al xs ds := by
  unfold itemsOf at h
  split at h
  · cases h
    cases r with
    | tup a b => exact ⟨_, _, rfl, .inl (W.sm _ _ a), b⟩
  · obtain ⟨p, xs, rfl, h1, h2⟩ := seqOf_ok W r h
    exact ⟨p, xs, rfl, .inr h1, h2⟩
@[reducible] def dStar (fa : DTE) (fr : DTA) : DTA := fun ρ M Q => fa ρ M fun d M1 => match itemsOf d M1 with
  | some xs => fr ρ M1 fun ys M2 => Q (xs ++ ys) M2
  | none => False
theorem d_star {p : Pos} (h : DE X a fa) (hr : DA X es fr) (hs : starEach (.Starred a p :: es) X.env = (true, eval a X.env) :: starEach es X.env := by rfl) : DA X (.Starred a p :: es) (dStar fa fr) := by
  refine ⟨PA.of (StX.pa_star h.pe hr.pa hs) fun σ H Q ⟨ρ, M, al, F, G, W, s, q⟩ => ?_, fun ρ M Q Q' w q => h.mono _ _ _ _ (fun d M1 q1 => ?_) q⟩
  · refine h.seq W s q fun d M1 al1 F1 H1 v q1 e1 W1 r1 s1 => ?_
    split at q1
    · next ds e =>
      obtain ⟨p, xs, rfl, h1, h2⟩ := itemsOf_ok W1 r1 e
      refine ⟨p, xs, rfl, h1.imp SqT.of SqL.of, ?_⟩
      exact hr.seq W1 s1 q1 fun ys M2 al2 F2 H2 vs q2 e2 W2 r2 s2 => q2 al2 F2 H2 _ (e1.trans e2) W2 ((h2.ext e2).append r2)
    · exact q1.elim
  · try dsimp only at q1 ⊢
    split at q1
    · exact hr.mono _ _ _ _ (fun ys M2 q2 => w _ _ q2) q1
    · exact q1.elim
@[reducible] def gIx : G2 := fun x y M Q => match x, y with
  | .str z, .int i => z.length ≤ 100000 ∧ (match atI z.cps.toList i with
    | some c => Q (.str ⟨#[c]⟩) M
    | none => False)
  | x, .int i => match itemsOf x M with
    | some ds => match atI ds i with
      | some d => Q d M
      | none => False
    | none => False
  | _, _ => False
theorem gIx_mono : Mono2 gIx := fun x y M Q Q' w q => by
  unfold gIx at q ⊢
  split at q
  · refine ⟨q.1, ?_⟩
    have q := q.2
    split at q
    · next e => exact w _ _ q
    · exact q.elim
  · split at q
    · split at q
      · exact w _ _ q
      · exact q.elim
    · exact q.elim
  · exact q.elim
theorem Rps.at {K : PySem.W.Frag} {F : Hp} {al : List Addr} {xs : List V} {ds : List D} {i : Int} {d : D} (h : Rps K F al xs ds) (e : atI ds i = some d) : ∃ v, atI xs i = some v ∧ Rp K F al v d := by
  unfold atI at e ⊢
  rw [h.length]
  cases q : ixN ds.length i with
  | none => rw [q] at e; cases e
  | some j =>
    rw [q] at e
    exact h.get e
theorem d_ix (ha : DE X a fa) (hb : DE X b fb) (hs : PlainIx b) : DE X (.Subscript a b pos) (dBin gIx fa fb) := by
  refine ⟨PE.of (pe_ix ix_seq ha.pe hb.pe hs) fun σ H Q ⟨ρ, M, al, F, G, W, s, q⟩ => ?_, dBin_mono gIx_mono ha hb⟩
  refine ha.seq W s q fun dx M1 al1 F1 H1 v q1 e1 W1 r1 s1 => ?_
  refine hb.seq W1 s1 q1 fun dy M2 al2 F2 H2 u q2 e2 W2 r2 s2 => ?_
  have r1 := r1.ext e2
  unfold gIx at q2
  split at q2
  · cases r1; cases r2
    have q3 := q2.2
    split at q3
    · next e => exact .inr (.inr ⟨_, _, _, rfl, rfl, le_line q2.1, e, kont.here (kont.ext q3 (e1.trans e2)) W2 (.str _)⟩)
    · exact q3.elim
  · cases r2
    split at q2
    · next ds e3 =>
      split at q2
      · next d e =>
        obtain ⟨p, xs, rfl, h1, h2⟩ := itemsOf_ok W2 r1 e3
        obtain ⟨z, h3, h4⟩ := h2.at (show atI ds _ = some d from e)
        have fin := kont.here (kont.ext q2 (e1.trans e2)) W2 h4
        rcases h1 with h1 | h1
        · exact .inr (.inl ⟨_, _, _, _, rfl, rfl, SqT.of h1, h3, fin⟩)
        · exact .inl ⟨_, _, _, _, rfl, rfl, SqL.of h1, h3, fin⟩
      · exact q2.elim
    · exact q2.elim
  · exact q2.elim
def cut {α : Type} (xs : List α) (lo hi : Option Int) : List α := (xs.drop (HT.sIx xs.length 0 lo)).take (HT.sIx xs.length xs.length hi - HT.sIx xs.length 0 lo)
theorem Rps.cut {K : PySem.W.Frag} {F : Hp} {al : List Addr} {xs : List V} {ds : List D} (h : Rps K F al xs ds) (lo hi : Option Int) : Rps K F al (cutV xs lo hi) (DL.cut ds lo hi) := by
  unfold cutV DL.cut
  rw [h.length]
  exact (h.drop _).take _
abbrev DTO := Dn → Sto → (Option Int → Sto → Prop) → Prop
def kontO (K : PySem.W.Frag) (al : List Addr) (F G : Hp) (Q : Option Int → Hp → Prop) : Option Int → Sto → Prop := fun b M' => ∀ al' F' H', Ext al F al' F' → Wd K al' F' G H' M' → Q b H'
def LiftO (X : Cx) (f : DTO) : TO := fun σ H Q => ∃ ρ M al F G, Wd X.K al F G H M ∧ Es X F G al σ ρ ∧ f ρ M (kontO X.K al F G Q)
structure DO (X : Cx) (e : Option Expr) (f : DTO) : Prop where
  po : PO X e (LiftO X f)
  mono : ∀ ρ M (Q Q' : Option Int → Sto → Prop), (∀ d M, Q d M → Q' d M) → f ρ M Q → f ρ M Q'
theorem PO.of {e : Option Expr} {t t' : TO} (h : PO X e t) (w : ∀ σ H Q, t' σ H Q → t σ H Q) : PO X e t' := ⟨fun pins s σ H Q I q => h.run pins s σ H Q I (w σ H Q q)⟩
@[reducible] def dNoPart : DTO := fun _ M Q => Q none M
@[reducible] def dPart (fa : DTE) : DTO := fun ρ M Q => fa ρ M fun d M1 => match d with
  | .int i => Q (some i) M1
  | _ => False
theorem do_none : DO X none dNoPart := ⟨PO.of po_none fun σ H Q ⟨ρ, M, al, F, G, W, s, q⟩ => q al F H (Ext.refl _ _) W, fun _ _ _ _ w q => w _ _ q⟩
theorem do_some (h : DE X a fa) : DO X (some a) (dPart fa) := by
  refine ⟨PO.of (po_some h.pe) fun σ H Q ⟨ρ, M, al, F, G, W, s, q⟩ => ?_, fun ρ M Q Q' w q => h.mono _ _ _ _ (fun d M1 q1 => ?_) q⟩
  · refine h.seq W s q fun d M1 al1 F1 H1 v q1 e1 W1 r1 s1 => ?_
    cases r1 <;> first | exact q1.elim | exact ⟨_, rfl, q1 al1 F1 H1 e1 W1⟩
  · cases d <;> first | exact q1.elim | exact w _ _ q1
theorem DO.seq {e : Option Expr} {f : DTO} (h : DO X e f) {ρ : Dn} {M : Sto} {al : List Addr} {F G H : Hp} {σ : L2.St} {R : Option Int → Sto → Prop} {P : Option Int → Hp → Prop} (W : Wd X.K al F G H M) (s : Es X F G al σ ρ) (q : f ρ M R)
    (k : ∀ d M1 al1 F1 H1, R d M1 → Ext al F al1 F1 → Wd X.K al1 F1 G H1 M1 → Es X F1 G al1 σ ρ → P d H1) : LiftO X f σ H P :=
  ⟨ρ, M, al, F, G, W, s, h.mono _ _ _ _ (fun d M1 r al1 F1 H1 e W1 => k d M1 al1 F1 H1 r e W1 (s.ext e)) q⟩
@[reducible] def gSl (lo hi : Option Int) : G1 := fun d M Q => match d with
  | .tup ds => Q (.tup (cut ds lo hi)) M
  | .scr ns => Q (.lst (cut (ns.map D.int) lo hi)) M
  | .str z => z.length ≤ 100000 ∧ Q (.str (cutS z lo hi)) M
  | d => match seqOf d M with
    | some ds => Q (.lst (cut ds lo hi)) M
    | none => False
theorem gSl_mono (lo hi : Option Int) : Mono1 (gSl lo hi) := fun d M Q Q' w q => by
  unfold gSl at q ⊢
  split at q
  · exact w _ _ q
  · exact w _ _ q
  · exact ⟨q.1, w _ _ q.2⟩
  · split at q
    · exact w _ _ q
    · exact q.elim
@[reducible] def dSl (fa : DTE) (lo hi : DTO) : DTE := fun ρ M Q => fa ρ M fun x M1 => lo ρ M1 fun l M2 => hi ρ M2 fun h M3 => gSl l h x M3 Q
theorem cut_whole {ds : List D} {lo hi : Option Int} (h1 : HT.sIx ds.length 0 lo = 0) (h2 : HT.sIx ds.length ds.length hi = ds.length) : cut ds lo hi = ds := by
  unfold cut
  rw [h1, h2, List.drop_zero, Nat.sub_zero, List.take_length]
theorem d_slice {lo hi : Option Expr} {fl fh : DTO} {p2 : Pos} (ha : DE X a fa) (hl : DO X lo fl) (hh : DO X hi fh) : DE X (.Subscript a (.Slice lo hi none p2) pos) (dSl fa fl fh) := by
  refine ⟨PE.of (pe_slice (SlR.or sl_tupA (SlR.or sl_list sl_str)) ha.pe hl.po hh.po) fun σ H Q ⟨ρ, M, al, F, G, W, s, q⟩ => ?_, fun ρ M Q Q' w q => ha.mono _ _ _ _ (fun d M1 q1 => hl.mono _ _ _ _ (fun l M2 q2 => hh.mono _ _ _ _ (fun h M3 q3 => gSl_mono _ _ _ _ _ _ w q3) q2) q1) q⟩
  refine ha.seq W s q fun d M1 al1 F1 H1 v q1 e1 W1 r1 s1 => ?_
  refine hl.seq W1 s1 q1 fun l M2 al2 F2 H2 q2 e2 W2 s2 => ?_
  refine hh.seq W2 s2 q2 fun h M3 al3 F3 H3 q3 e3 W3 s3 => ?_
  have r1 := r1.ext (e2.trans e3)
  have eA := e1.trans (e2.trans e3)
  unfold gSl at q3
  split at q3
  · cases r1 with
    | tup a1 b1 =>
      refine .inl ⟨_, _, rfl, SqT.of (W3.sm _ _ a1), fun z => ?_, fun _ p hp => kont.tup (kont.ext q3 eA) W3 (b1.cut _ _) hp⟩
      rw [b1.length] at z
      rw [cut_whole z.1 z.2] at q3
      exact kont.here (kont.ext q3 eA) W3 (.tup a1 b1)
  · cases r1 with
    | scr a1 => exact .inr (.inl ⟨_, _, rfl, W3.sm.l a1, fun p hp => kont.lst (kont.ext q3 eA) W3 (Rps.of_ints.cut _ _) hp⟩)
  · cases r1
    exact .inr (.inr ⟨_, rfl, le_line q3.1, kont.here (kont.ext q3.2 eA) W3 (.str _)⟩)
  · split at q3
    · next e =>
      obtain ⟨p1, xs1, rfl, h1, s1⟩ := seqOf_ok W3 r1 e
      exact .inr (.inl ⟨_, _, rfl, SqL.of h1, fun p hp => kont.lst (kont.ext q3 eA) W3 (s1.cut _ _) hp⟩)
    · exact q3.elim
theorem cell_ok {K : PySem.W.Frag} {al : List Addr} {F G H : Hp} {M : Sto} {v : V} {n : Nat} {ds : List D} (W : Wd K al F G H M) (r : Rp K F al v (.ref n)) (e : M[n]? = some (.lst ds)) : ∃ p xs, v = .ref p ∧ al[n]? = some p ∧ H p = some (.lst xs) ∧ Rps K F al xs ds := by
  cases r with
  | ref a =>
    obtain ⟨xs, q, rs⟩ := W.cel _ _ _ e a
    exact ⟨_, xs, rfl, a, q, rs⟩
def isCell (M : Sto) (n : Nat) : Prop := ∃ ds, M[n]? = some (.lst ds)
theorem isCell.ex {M : Sto} {n : Nat} (h : isCell M n) : ∃ ds, M[n]? = some (.lst ds) := h
/-- a method of a list of the store: what it makes of the list and gives back -/
@[reducible] def dMt (step : List D → List D → (List D → D → Prop) → Prop) (fo : DTE) (fr : DTA) : DTE := fun ρ M Q => fo ρ M fun o M1 => match o with
  | .ref n => isCell M1 n ∧ fr ρ M1 fun ys M2 => match M2[n]? with
    | some (.lst ds) => step ds ys fun ds' d => Q d (M2.set n (.lst ds'))
    | _ => False
  | _ => False
theorem dMt_mono {step : List D → List D → (List D → D → Prop) → Prop} (hst : ∀ ds ys (k k' : List D → D → Prop), (∀ a b, k a b → k' a b) → step ds ys k → step ds ys k') {o : Expr} {fo : DTE} (ho : DE X o fo) (hr : DA X es fr) :
    ∀ ρ M (Q Q' : DK), (∀ d M, Q d M → Q' d M) → dMt step fo fr ρ M Q → dMt step fo fr ρ M Q' := fun ρ M Q Q' w q => ho.mono _ _ _ _ (fun d M1 q1 => by
  cases d <;> first | exact q1.elim | skip
  refine ⟨q1.1, hr.mono _ _ _ _ (fun ys M2 q2 => ?_) q1.2⟩
  try dsimp only at q2 ⊢
  split at q2
  · exact hst _ _ _ _ (fun a b k => w _ _ k) q2
  · exact q2.elim) q
/-- the method's reading, from its data -/
theorem mt_ok {step : List D → List D → (List D → D → Prop) → Prop} {r : V → List V → Hp → VK → Prop} {o : Expr} {fo : DTE} (ho : DE X o fo) (hr : DA X es fr)
    (hk : ∀ (K : PySem.W.Frag) al F (H : Hp) p xs ds us ys Q, H p = some (.lst xs) → Rps K F al xs ds → Rps K F al us ys → step ds ys (fun ds' d => ∀ xs' v, Rps K F al xs' ds' → Rp K F al v d → Q v (upd H p (.lst xs'))) → r (.ref p) us H Q)
    (hst : ∀ ds ys (k k' : List D → D → Prop), (∀ a b, k a b → k' a b) → step ds ys k → step ds ys k') {σ : L2.St} {H : Hp} {Q : VK} (h : Lift X (dMt step fo fr) σ H Q) :
    tBM X.K "list" r (Lift X fo) (LiftA X fr) σ H Q := by
  obtain ⟨ρ, M, al, F, G, W, s, q⟩ := h
  refine ho.seq W s q fun d M1 al1 F1 H1 v q1 e1 W1 r1 s1 => ?_
  cases d <;> first | exact q1.elim | skip
  obtain ⟨ds, e⟩ := q1.1.ex
  obtain ⟨p, xs, rfl, hp, hx, rs⟩ := cell_ok W1 r1 e
  refine ⟨.inl ⟨rfl, xs, SqL.of hx⟩, hr.seq W1 s1 q1.2 fun ys M2 al2 F2 H2 us q2 e2 W2 r2 s2 => ?_⟩
  try dsimp only at q2
  split at q2
  · next ds2 c2 =>
    obtain ⟨p2, xs2, z, hp2, hx2, rs2⟩ := cell_ok W2 (r1.ext e2) c2
    cases z
    refine hk X.K al2 F2 H2 p xs2 ds2 us ys Q hx2 rs2 r2 (hst _ _ _ _ (fun ds' d k xs' v h1 h2 => ?_) q2)
    exact k al2 F2 _ _ (e1.trans e2) (W2.write hp2 ⟨xs', upd_same, h1⟩) h2
  · exact q2.elim
@[reducible] def stApp : List D → List D → (List D → D → Prop) → Prop := fun ds ys k => match ys with
  | [y] => ds.length < 100000 ∧ k (ds ++ [y]) .non
  | _ => False
theorem stApp_mono : ∀ ds ys (k k' : List D → D → Prop), (∀ a b, k a b → k' a b) → stApp ds ys k → stApp ds ys k' := fun ds ys k k' w q => by
  unfold stApp at q ⊢
  split at q
  · exact ⟨q.1, w _ _ q.2⟩
  · exact q.elim
theorem d_append {o e : Expr} {fo : DTE} {apos cpos : Pos} (ho : DE X o fo) (hr : DA X [e] fr) (hb : attributeBase o "append" X.env (eval o X.env) = eval o X.env := by rfl)
    (h2 : ((backTo cpos (starEach [e] X.env)).all (fun x => !x.1) && (backToKw cpos (keywordEach [] X.env)).all (fun x => x.1.isSome) && decide ([e].length + ([] : List Keyword).length + (if ([] : List Keyword).isEmpty = true then 0 else 1) < 30)) = true := by rfl)
    (h3 : (apos.endLine == cpos.line) = true := by rfl) (h4 : starEach [e] X.env = (false, eval e X.env) :: starEach [] X.env := by rfl) (h5 : (backTo cpos (starEach [] X.env)).any (·.1) = false := by rfl) :
    DE X (.Call (.Attribute o "append" apos) [e] [] cpos) (dMt stApp fo fr) :=
  ⟨PE.of (pe_bm PySem.F.plainAttrs_list PySem.F.slot_list_append PySem.F.type_list_append mt_append ho.pe hr.pa hb h2 h3 h4 h5) fun σ H Q h => mt_ok ho hr (fun K al F H p xs ds us ys Q hp rs r2 q => by
    unfold stApp at q
    split at q
    · cases r2 with
      | cons a b =>
        cases b
        exact ⟨_, _, _, rfl, rfl, hp, lt_line (by rw [rs.length]; exact q.1), q.2 _ _ (rs.append (.cons a .nil)) .non⟩
    · exact q.elim) stApp_mono h, dMt_mono stApp_mono ho hr⟩
@[reducible] def dMt0 (step : List D → (List D → D → Prop) → Prop) (fo : DTE) : DTE := fun ρ M Q => fo ρ M fun o M1 => match o with
  | .ref n => match M1[n]? with
    | some (.lst ds) => step ds fun ds' d => Q d (M1.set n (.lst ds'))
    | _ => False
  | _ => False
@[reducible] def stPop : List D → (List D → D → Prop) → Prop := fun ds k => match ds.getLast? with
  | some y => k ds.dropLast y
  | none => False
theorem Rps.dropLast {K : PySem.W.Frag} {F : Hp} {al : List Addr} {xs : List V} {ds : List D} (h : Rps K F al xs ds) : Rps K F al xs.dropLast ds.dropLast := by
  rw [List.dropLast_eq_take, List.dropLast_eq_take, h.length]
  exact h.take _
theorem d_pop {o : Expr} {fo : DTE} {apos cpos : Pos} (ho : DE X o fo) (hb : attributeBase o "pop" X.env (eval o X.env) = eval o X.env := by rfl) (h3 : (apos.endLine == cpos.line) = true := by rfl) :
    DE X (.Call (.Attribute o "pop" apos) [] [] cpos) (dMt0 stPop fo) := by
  refine ⟨PE.of (pe_bm0 PySem.F.plainAttrs_list PySem.F.slot_list_pop PySem.F.type_list_pop mt_pop ho.pe hb h3) fun σ H Q ⟨ρ, M, al, F, G, W, s, q⟩ => ?_, fun ρ M Q Q' w q => ho.mono _ _ _ _ (fun d M1 q1 => ?_) q⟩
  · refine ho.seq W s q fun d M1 al1 F1 H1 v q1 e1 W1 r1 s1 => ?_
    cases d <;> first | exact q1.elim | skip
    try dsimp only at q1
    split at q1
    · next ds e =>
      obtain ⟨p, xs, rfl, hp, hx, rs⟩ := cell_ok W1 r1 e
      unfold stPop at q1
      split at q1
      · next y ey =>
        rw [List.getLast?_eq_getElem?] at ey
        obtain ⟨v, hv, rv⟩ := rs.get ey
        rw [← rs.length] at hv
        refine ⟨.inl ⟨rfl, xs, SqL.of hx⟩, _, _, _, rfl, rfl, hx, hv, q1 al1 F1 _ _ e1 (W1.write hp ⟨_, upd_same, rs.dropLast⟩) rv⟩
      · exact q1.elim
    · exact q1.elim
  · cases d <;> first | exact q1.elim | skip
    try dsimp only at q1 ⊢
    split at q1
    · unfold stPop at q1 ⊢
      split at q1
      · exact w _ _ q1
      · exact q1.elim
    · exact q1.elim
/-- o[i] = e -/
@[reducible] def dgSub (fo fi : DTE) : DTG := fun d ρ M Q => fo ρ M fun o M1 => fi ρ M1 fun i M2 => match o, i with
  | .ref n, .int k => match M2[n]? with
    | some (.lst ds) => match ixN ds.length k with
      | some j => Q ρ (M2.set n (.lst (ds.set j d)))
      | none => False
    | _ => False
  | _, _ => False
theorem dg_sub {o i : Expr} {fo fi : DTE} (ho : DE X o fo) (hi : DE X i fi) (h1 : ∀ (v : Value), assign (.Subscript o i pos) X.env v = (do
                let ov ← holding [v] (eval o X.env)
                let iv ← holding [v, ov] (eval i X.env)
                standAt pos
                holding [v, ov, iv] (setItem ov iv v)
                release [v, ov, iv] []) := by intro _; rfl) : DG X (.Subscript o i pos) (dgSub fo fi) [] := by
  refine ⟨PG.of (pg_sub ho.pe hi.pe set_list h1) fun v σ H Q ⟨d, ρ, M, al, F, G, W, s, r, q⟩ => ?_, fun d ρ M Q Q' w q => ho.mono _ _ _ _ (fun o M1 q1 => hi.mono _ _ _ _ (fun i M2 q2 => ?_) q1) q⟩
  · refine ho.seq W s q fun od M1 al1 F1 H1 ov q1 e1 W1 r1 s1 => ?_
    refine hi.seq W1 s1 q1 fun idx M2 al2 F2 H2 iv q2 e2 W2 r2 s2 => ?_
    split at q2
    · next n k =>
      split at q2
      · next ds e =>
        split at q2
        · next j ej =>
          obtain ⟨p, xs, rfl, hp, hx, rs⟩ := cell_ok W2 (r1.ext e2) e
          cases r2
          rw [← rs.length] at ej
          refine ⟨_, _, _, _, rfl, rfl, hx, ej, ?_⟩
          exact q2 al2 F2 _ σ (e1.trans e2) (W2.write hp ⟨_, upd_same, Rps.set (r.ext (e1.trans e2)) j rs⟩) s2.sl rfl (Off.refl _ _)
        · exact q2.elim
      · exact q2.elim
    · exact q2.elim
  · try dsimp only at q2 ⊢
    split at q2
    · split at q2
      · split at q2
        · exact w _ _ q2
        · exact q2.elim
      · exact q2.elim
    · exact q2.elim
end
end DL
namespace DL
open PySem PySem.Spec PyProof.Rows L2
section
variable {X : Cx} {a b c : Expr} {fa fb fc : DTE} {pos : Pos} {ta tb : DTT} {es : List Expr} {fr : DTA}
def showOk (d : D) (M : Sto) : Prop := pu (vw d M) = true ∧ (toPy (vw d M)).showable = true ∧ (toPy (vw d M)).depth ≤ 60 ∧ (toPy (vw d M)).shown.length ≤ sizeLine
def tyNm : D → Sto → Option String
  | .non, _ => some "NoneType"
  | .bl _, _ => some "bool"
  | .int _, _ => some "int"
  | .str _, _ => some "str"
  | .tup _, _ => some "tuple"
  | .lst _, _ => some "list"
  | .dct _ _, _ => some "dict"
  | .ref n, M => match M[n]? with
    | some (.lst _) => some "list"
    | _ => none
  | .scr _, _ => none
  | .exo _ _ _ _ _, _ => none
  | .clo _ _ _ _, _ => none
theorem tyNm_ok {K : PySem.W.Frag} {al : List Addr} {F G H : Hp} {M : Sto} {v : V} {d : D} {T : String} (W : Wd K al F G H M) (r : Rp K F al v d) (h : tyNm d M = some T) : TyX K H v (.type T) := by
  cases r with
  | non => cases h; exact .base .non
  | bl b => cases h; exact .base (.bl b)
  | int i => cases h; exact .base (.int i)
  | str x => cases h; exact .base (.str x)
  | tup a b => cases h; exact .base (.tup (W.sm _ _ a))
  | lst a b => cases h; exact .base (.lst (W.sm _ _ a))
  | dct a l b => cases h; exact .base (.dK (W.sm _ _ a))
  | scr a => cases h
  | exo0 => cases h
  | exo a l b => cases h
  | clo a b => cases h
  | ref a =>
    unfold tyNm at h
    dsimp only at h
    split at h
    · next ds e =>
      cases h
      obtain ⟨xs, q, rs⟩ := W.cel _ _ _ e a
      exact .base (.lst q)
    · cases h
/-- T's name of the class; tab: which of our classes are it -/
@[reducible] def dIsi (tab : String → Bool) (fa : DTE) : DTE := fun ρ M Q => fa ρ M fun d M1 => match tyNm d M1 with
  | some t => Q (.bl (tab t)) M1
  | none => False
def tabOk (T : String) (tab : String → Bool) : Prop := ∀ t ∈ ["NoneType", "bool", "int", "str", "tuple", "list", "dict"], kitB t T = some (tab t)
theorem tyNm_in {d : D} {M : Sto} {T : String} (h : tyNm d M = some T) : T ∈ ["NoneType", "bool", "int", "str", "tuple", "list", "dict"] := by
  cases d with
  | ref n =>
    unfold tyNm at h
    dsimp only at h
    split at h
    · cases h; simp
    · cases h
  | scr ns => cases h
  | exo a c o ks ds => cases h
  | clo f fo vs ds => cases h
  | _ => cases h; simp
theorem d_isi {x : Str} {T : String} {tab : String → Bool} {p p2 : Pos} (ht : tabOk T tab) (hg : Gl X "isinstance") (hm : X.mg "isinstance" = none) (hg2 : Gl X x) (hm2 : X.mg x = none) (hv2 : bootBuiltins x = some (.type T)) (h : DE X a fa) (hn2 : x ≠ "__name__" := by decide) (hd2 : (x == ("__debug__" : Str)) = false := by decide)
    (hs : starEach [a, .Name x p2] X.env = (false, eval a X.env) :: starEach [.Name x p2] X.env := by rfl) (hs2 : starEach [.Name x p2] X.env = (false, eval (.Name x p2) X.env) :: starEach [] X.env := by rfl) (hpl : (backTo pos (starEach [.Name x p2] X.env)).any (·.1) = false := by rfl) :
    DE X (.Call (.Name "isinstance" p) [a, .Name x p2] [] pos) (dIsi tab fa) := by
  refine ⟨PE.of (pe_callB call_isi hg hm (by decide +kernel) (pa_cons h.pe (pa_cons (pe_bltn (v := .ty T) hg2 hm2 hv2 rfl hn2 hd2) pa_nil hs2) hs) (by decide) (by decide) hs hpl) fun σ H Q ⟨ρ, M, al, F, G, W, s, q⟩ => ?_, fun ρ M Q Q' w q => h.mono _ _ _ _ (fun d M1 q1 => ?_) q⟩
  · refine h.seq W s q fun d M1 al1 F1 H1 v q1 e1 W1 r1 s1 => ?_
    split at q1
    · next t e => exact ⟨v, .ty T, .type t, .type T, tab t, rfl, .ty T, tyNm_ok W1 r1 e, kit_ty (ht t (tyNm_in e)), q1 al1 F1 H1 _ e1 W1 (.bl _)⟩
    · exact q1.elim
  · try dsimp only at q1 ⊢
    split at q1
    · exact w _ _ q1
    · exact q1.elim
def tabInt : String → Bool := fun t => t == "int" || t == "bool"
def tabBool : String → Bool := fun t => t == "bool"
def tabTuple : String → Bool := fun t => t == "tuple"
def tabStr : String → Bool := fun t => t == "str"
def tabList : String → Bool := fun t => t == "list"
theorem tab_int : tabOk "int" tabInt := by unfold tabOk; decide +kernel
theorem tab_bool : tabOk "bool" tabBool := by unfold tabOk; decide +kernel
theorem tab_tuple : tabOk "tuple" tabTuple := by unfold tabOk; decide +kernel
theorem tab_str : tabOk "str" tabStr := by unfold tabOk; decide +kernel
@[reducible] def stYes : Sto → Prop := fun _ => True
/-- a list or tuple: a list of the store must stand while it is walked -/
@[reducible] def diSeq (fa : DTE) : DTI := fun ρ M R => fa ρ M fun d M1 => match d with
  | .tup ds => R ds stYes M1
  | .lst ds => R ds stYes M1
  | .ref n => match M1[n]? with
    | some (.lst ds) => R ds (fun M' => M'[n]? = some (.lst ds)) M1
    | _ => False
  | _ => False
theorem it_of {K : PySem.W.Frag} {al : List Addr} {F : Hp} {xs : List V} {ds : List D} {x : V} {d : D} {i : Nat} (rs : Rps K F al xs ds) (hd : ds[i]? = some d) (hx : xs[i]? = some x) : Rp K F al x d := by
  obtain ⟨v, h1, h2⟩ := rs.get hd
  rw [hx] at h1
  cases h1
  exact h2
theorem itl_ok {K : PySem.W.Frag} {al : List Addr} {F G : Hp} {p : Addr} {ds : List D} {st : Sto → Prop} (h : ∀ al' F' G' H' M', Ext al F al' F' → Sm G G' → Wd K al' F' G' H' M' → st M' → ∃ xs, H' p = some (.lst xs) ∧ Rps K F' al' xs ds) : ItOk K (Itl K p) ds st al F G := by
  intro al' F' G' H' M' e sg W hst i
  obtain ⟨xs, hx, rs⟩ := h al' F' G' H' M' e sg W hst
  refine ⟨fun d hd => ?_, fun hl => ⟨xs, SqL.of hx, by rw [rs.length]; exact hl⟩⟩
  obtain ⟨v, h1, h2⟩ := rs.get hd
  refine ⟨⟨xs, v, SqL.of hx, h1⟩, fun x H'' hy => ?_⟩
  obtain ⟨rfl, hy⟩ := hy
  exact ⟨F', Sm.refl _, W, it_of rs hd (hy xs (SqL.of hx))⟩
theorem itt_ok {K : PySem.W.Frag} {al : List Addr} {F G : Hp} {p : Addr} {ds : List D} {xs : List V} {st : Sto → Prop} (h : F p = some (.tup xs)) (rs : Rps K F al xs ds) : ItOk K (Itt K p) ds st al F G := by
  intro al' F' G' H' M' e sg W hst i
  have hx := W.sm _ _ (e.sm _ _ h)
  have rs := rs.ext e
  refine ⟨fun d hd => ?_, fun hl => ⟨xs, SqT.of hx, by rw [rs.length]; exact hl⟩⟩
  obtain ⟨v, h1, h2⟩ := rs.get hd
  refine ⟨⟨xs, v, SqT.of hx, h1⟩, fun x H'' hy => ?_⟩
  obtain ⟨rfl, hy⟩ := hy
  exact ⟨F', Sm.refl _, W, it_of rs hd (hy xs (SqT.of hx))⟩
theorem di_seq {tg : Expr} (h : DE X a fa) : DI X tg a (diSeq fa) := by
  refine ⟨⟨fun pins s σ H R I q => ?_⟩, fun ρ M Q Q' w q => h.mono _ _ _ _ (fun d M1 q1 => ?_) q⟩
  · obtain ⟨ρ, M, al, F, G, W, es, q⟩ := q
    have hl : Lift X fa σ H (fun v H1 => (∃ p xs, v = .ref p ∧ SqL X.K H1 p xs ∧ R (Itl X.K p) H1) ∨ (∃ p xs, v = .ref p ∧ SqT X.K H1 p xs ∧ R (Itt X.K p) H1)) := h.seq W es q fun d M1 al1 F1 H1 v q1 e1 W1 r1 s1 => by
      cases r1 with
      | tup a1 b1 => exact .inr ⟨_, _, rfl, SqT.of (W1.sm _ _ a1), q1 al1 F1 H1 _ e1 W1 (itt_ok a1 b1)⟩
      | lst a1 b1 => exact .inl ⟨_, _, rfl, SqL.of (W1.sm _ _ a1), q1 al1 F1 H1 _ e1 W1 (itl_ok fun al' F' G' H' M' e sg W' _ => ⟨_, W'.sm _ _ (e.sm _ _ a1), b1.ext e⟩)⟩
      | ref a1 =>
        dsimp only at q1
        split at q1
        · next ds e =>
          obtain ⟨xs, hx, rs⟩ := W1.cel _ _ _ e a1
          exact .inl ⟨_, _, rfl, SqL.of hx, q1 al1 F1 H1 _ e1 W1 (itl_ok fun al' F' G' H' M' e' sg W' st => by
            obtain ⟨xs', hx', rs'⟩ := W'.cel _ _ _ st (e'.get a1)
            exact ⟨xs', hx', rs'⟩)⟩
        · exact q1.elim
      | _ => exact q1.elim
    refine thn (h.pe.run pins s σ H _ I hl) fun v s1 ⟨x, H1, I1, r1, q1⟩ => ?_
    rcases q1 with ⟨p, xs, rfl, hq, q⟩ | ⟨p, xs, rfl, hq, q⟩
    · cases r1
      obtain ⟨its, rv, pl, hz⟩ := I1.list hq
      refine wpAny_pyIter_list pl.isList ⟨s1.heap.objs.size, [s1.heap.objs.size], _, _, H1, rfl, I1.kept (t' := s1.toks) fun b o e => Heap.get?_push_of_some _ e, turn_list p _, ⟨_, Heap.get?_push_size _ rfl, rfl, rfl⟩, fun b hb => ?_, q⟩
      rw [List.mem_singleton.mp hb]
      exact I1.fpOk (Nat.le_refl _) (I1.hok.fresh (Nat.le_refl _))
    · cases r1
      obtain ⟨its, rv, pl, hz⟩ := I1.tuple hq
      refine wpAny_pyIter_tuple (show s1.heap.IsTuple p its.toArray from pl) ⟨s1.heap.objs.size, [s1.heap.objs.size], _, _, H1, rfl, I1.kept (t' := s1.toks) fun b o e => Heap.get?_push_of_some _ e, turn_tuple p _, ⟨_, Heap.get?_push_size _ rfl, rfl, rfl⟩, fun b hb => ?_, q⟩
      rw [List.mem_singleton.mp hb]
      exact I1.fpOk (Nat.le_refl _) (I1.hok.fresh (Nat.le_refl _))
  · cases d <;> first | exact q1.elim | exact w _ _ _ q1 | skip
    try dsimp only at q1 ⊢
    split at q1
    · exact w _ _ _ q1
    · exact q1.elim
def rng (lo : Int) (n : Nat) : List D := (List.range n).map fun (i : Nat) => D.int (lo + i)
theorem rng_get {lo : Int} {n i : Nat} : (rng lo n)[i]? = if i < n then some (D.int (lo + i)) else none := by
  unfold rng
  rw [List.getElem?_map]
  by_cases h : i < n
  · rw [List.getElem?_range h, if_pos h]; rfl
  · rw [if_neg h, List.getElem?_eq_none (by simpa using h)]; rfl
theorem itr_ok {K : PySem.W.Frag} {al : List Addr} {F G : Hp} {st : Sto → Prop} (lo : Int) (n : Nat) : ItOk K (Itr lo n) (rng lo n) st al F G := by
  intro al' F' G' H' M' e sg W hst i
  refine ⟨fun d hd => ?_, fun hl => ?_⟩
  rotate_left
  · unfold rng at hl
    rw [List.length_map, List.length_range] at hl
    exact hl
  rw [rng_get] at hd
  split at hd
  · next h =>
    cases hd
    refine ⟨h, fun x H'' hy => ?_⟩
    obtain ⟨rfl, rfl⟩ := hy
    exact ⟨F', Sm.refl _, W, .int _⟩
  · cases hd
@[reducible] def diR1 (fr : DTA) : DTI := fun ρ M R => fr ρ M fun ds M1 => match ds with
  | [.int j] => (-(2 ^ 62) ≤ j ∧ j < 2 ^ 62) ∧ R (rng 0 j.toNat) stYes M1
  | _ => False
theorem di_range1 {tg : Expr} {p : Pos} (hg : Gl X "range") (hm : X.mg "range" = none) (h : DA X [a] fr) (hs : starEach [a] X.env = [(false, eval a X.env)] := by rfl) : DI X tg (.Call (.Name "range" p) [a] [] pos) (diR1 fr) := by
  refine ⟨PI.of (pi_range1 hg hm h.pa hs) fun σ H R ⟨ρ, M, al, F, G, W, es, q⟩ => ?_, fun ρ M Q Q' w q => h.mono _ _ _ _ (fun ds M1 q1 => ?_) q⟩
  · refine h.seq W es q fun ds M1 al1 F1 H1 vs q1 e1 W1 r1 s1 => ?_
    split at q1
    · cases r1 with
      | cons a1 b1 =>
        cases a1; cases b1
        exact ⟨_, rfl, q1.1.1, q1.1.2, q1.2 al1 F1 H1 _ e1 W1 (itr_ok 0 _)⟩
    · exact q1.elim
  · try dsimp only at q1 ⊢
    split at q1
    · exact ⟨q1.1, w _ _ _ q1.2⟩
    · exact q1.elim
@[reducible] def diR2 (fr : DTA) : DTI := fun ρ M R => fr ρ M fun ds M1 => match ds with
  | [.int i, .int j] => (-(2 ^ 62) ≤ i ∧ i < 2 ^ 62 ∧ -(2 ^ 62) ≤ j ∧ j < 2 ^ 62) ∧ R (rng i (j - i).toNat) stYes M1
  | _ => False
/-- zip of two lists, or of two tuples -/
def zipD (xs ys : List D) : List D := List.zipWith (fun x y => D.tup [x, y]) xs ys
@[reducible] def diZip (fr : DTA) : DTI := fun ρ M R => fr ρ M fun ds M1 => match ds with
  | [.tup xs, .tup ys] => R (zipD xs ys) stYes M1
  | [.lst xs, .lst ys] => R (zipD xs ys) stYes M1
  | _ => False
theorem zipD_get {xs ys : List D} {i : Nat} {d : D} (h : (zipD xs ys)[i]? = some d) : ∃ x y, xs[i]? = some x ∧ ys[i]? = some y ∧ d = .tup [x, y] := by
  unfold zipD at h
  rw [List.getElem?_zipWith] at h
  cases e1 : xs[i]? with
  | none => rw [e1] at h; cases h
  | some x =>
    cases e2 : ys[i]? with
    | none => rw [e1, e2] at h; cases h
    | some y => rw [e1, e2] at h; cases h; exact ⟨x, y, rfl, rfl, rfl⟩
theorem itz_ok {K : PySem.W.Frag} {al : List Addr} {F G : Hp} {st : Sto → Prop} {p q : Addr} {xs ys : List V} {ds es : List D} (hp : F p = some (.lst xs)) (hq : F q = some (.lst ys)) (r1 : Rps K F al xs ds) (r2 : Rps K F al ys es) : ItOk K (Itz K p q) (zipD ds es) st al F G := by
  intro al' F' G' H' M' e sg W hst i
  have h1 := W.sm _ _ (e.sm _ _ hp)
  have h2 := W.sm _ _ (e.sm _ _ hq)
  have r1 := r1.ext e
  have r2 := r2.ext e
  refine ⟨fun d hd => ?_, fun hl => ⟨xs, ys, SqL.of h1, SqL.of h2, ?_⟩⟩
  · obtain ⟨x, y, g1, g2, rfl⟩ := zipD_get hd
    obtain ⟨v1, k1, l1⟩ := r1.get g1
    obtain ⟨v2, k2, l2⟩ := r2.get g2
    refine ⟨⟨xs, ys, v1, v2, SqL.of h1, SqL.of h2, k1, k2⟩, fun z H'' hy => ?_⟩
    obtain ⟨T, u1, u2, rfl, nT, rfl, f1, f2⟩ := hy
    have q1 := it_of r1 g1 (f1 _ (SqL.of h1))
    have q2 := it_of r2 g2 (f2 _ (SqL.of h2))
    obtain ⟨W1, e1⟩ := W.newF (o := .tup [u1, u2]) nT
    exact ⟨_, e1.sm, W1, .tup upd_same (.cons (q1.ext e1) (.cons (q2.ext e1) .nil))⟩
  · unfold zipD at hl
    rw [List.length_zipWith] at hl
    rw [r1.length, r2.length]
    omega
theorem itzT_ok {K : PySem.W.Frag} {al : List Addr} {F G : Hp} {st : Sto → Prop} {p q : Addr} {xs ys : List V} {ds es : List D} (hp : F p = some (.tup xs)) (hq : F q = some (.tup ys)) (r1 : Rps K F al xs ds) (r2 : Rps K F al ys es) : ItOk K (RZ.ItzT K p q) (zipD ds es) st al F G := by
  intro al' F' G' H' M' e sg W hst i
  have h1 := W.sm _ _ (e.sm _ _ hp)
  have h2 := W.sm _ _ (e.sm _ _ hq)
  have r1 := r1.ext e
  have r2 := r2.ext e
  refine ⟨fun d hd => ?_, fun hl => ⟨xs, ys, SqT.of h1, SqT.of h2, ?_⟩⟩
  · obtain ⟨x, y, g1, g2, rfl⟩ := zipD_get hd
    obtain ⟨v1, k1, l1⟩ := r1.get g1
    obtain ⟨v2, k2, l2⟩ := r2.get g2
    refine ⟨⟨xs, ys, v1, v2, SqT.of h1, SqT.of h2, k1, k2⟩, fun z H'' hy => ?_⟩
    obtain ⟨T, u1, u2, rfl, nT, rfl, f1, f2⟩ := hy
    have q1 := it_of r1 g1 (f1 _ (SqT.of h1))
    have q2 := it_of r2 g2 (f2 _ (SqT.of h2))
    obtain ⟨W1, e1⟩ := W.newF (o := .tup [u1, u2]) nT
    exact ⟨_, e1.sm, W1, .tup upd_same (.cons (q1.ext e1) (.cons (q2.ext e1) .nil))⟩
  · unfold zipD at hl
    rw [List.length_zipWith] at hl
    rw [r1.length, r2.length]
    omega
theorem di_zip {p tpos : Pos} {elts : List Expr} {kk : Nat} (hg : Gl X "zip") (hm : X.mg "zip" = none) (h : DA X [a, b] fr) (hs : starEach [a, b] X.env = (false, eval a X.env) :: starEach [b] X.env := by rfl) (hpl : (backTo pos (starEach [b] X.env)).any (·.1) = false := by rfl) :
    DI X (.Tuple elts kk tpos) (.Call (.Name "zip" p) [a, b] [] pos) (diZip fr) := by
  refine ⟨PI.of (RZ.pi_zipA hg hm h.pa hs hpl) fun σ H R ⟨ρ, M, al, F, G, W, es, q⟩ => ?_, fun ρ M Q Q' w q => h.mono _ _ _ _ (fun ds M1 q1 => ?_) q⟩
  · refine h.seq W es q fun ds M1 al1 F1 H1 vs q1 e1 W1 r1 s1 => ?_
    split at q1
    · cases r1 with
      | cons a1 b1 =>
        cases b1 with
        | cons a2 b2 =>
          cases b2
          cases a1 with
          | tup c1 d1 =>
            cases a2 with
            | tup c2 d2 => exact ⟨_, _, _, _, rfl, .inr ⟨SqT.of (W1.sm _ _ c1), SqT.of (W1.sm _ _ c2), q1 al1 F1 H1 _ e1 W1 (itzT_ok c1 c2 d1 d2)⟩⟩
    · cases r1 with
      | cons a1 b1 =>
        cases b1 with
        | cons a2 b2 =>
          cases b2
          cases a1 with
          | lst c1 d1 =>
            cases a2 with
            | lst c2 d2 => exact ⟨_, _, _, _, rfl, .inl ⟨SqL.of (W1.sm _ _ c1), SqL.of (W1.sm _ _ c2), q1 al1 F1 H1 _ e1 W1 (itz_ok c1 c2 d1 d2)⟩⟩
    · exact q1.elim
  · try dsimp only at q1 ⊢
    split at q1
    · exact w _ _ _ q1
    · exact w _ _ _ q1
    · exact q1.elim
@[reducible] def dWhile (t : DTT) (f : DTS) : DTS := fun E ρ M => ∃ W : Nat → Dn → Sto → Prop, (∃ m, W m ρ M) ∧ ∀ m ρ M, W m ρ M → t ρ M fun b M1 => if b = true then f { nx := fun ρ' M' => ∃ m', m' < m ∧ W m' ρ' M', rt := E.rt, bk := E.nx, ct := fun ρ' M' => ∃ m', m' < m ∧ W m' ρ' M' } ρ M1 else E.nx ρ M1
theorem ds_while {body : List Stmt} {f : DTS} (hp : PassesOwn (model X.prog X.w) X.A X.env X.xe) (hc : DT X c ta) (hb : DSs X body f) : DS X (.While c body [] pos) (dWhile ta f) := by
  refine ⟨PS.of (ps_while hp hc.pt hb.ps) fun E σ H ⟨ρ, M, al, F, G, W, es, Wh, ⟨m, h0⟩, step⟩ => ?_, fun D D' ρ M w ⟨Wh, h0, step⟩ => ⟨Wh, h0, fun m ρ M h => hc.mono _ _ _ _ (fun b M1 q1 => ?_) (step m ρ M h)⟩⟩
  · refine ⟨fun m σ' H' => ∃ ρ' M' al' F', Wh m ρ' M' ∧ Ext al F al' F' ∧ Wd X.K al' F' G H' M' ∧ Es X F' G al' σ' ρ' ∧ ρ'.x = ρ.x, ⟨m, ρ, M, al, F, h0, Ext.refl _ _, W, es, rfl⟩, ?_⟩
    rintro m σ' H' ⟨ρ', M', al', F', hw, e', W', s', x'⟩
    refine hc.seq W' s' (step m ρ' M' hw) fun b M1 al1 F1 H1 q1 e1 W1 s1 => ?_
    cases b with
    | true =>
      refine ⟨fun σ2 H2 => ∃ m', m' < m ∧ ∃ ρ2 M2 al2 F2, Wh m' ρ2 M2 ∧ Ext al F al2 F2 ∧ Wd X.K al2 F2 G H2 M2 ∧ Es X F2 G al2 σ2 ρ2 ∧ ρ2.x = ρ.x, fun σ2 H2 ⟨m', hm, z⟩ => ⟨m', hm, z⟩, ?_⟩
      refine ⟨ρ', M1, al1, F1, G, W1, s1, ?_⟩
      rw [x']
      refine MonoS.up hb.mono (D := { nx := fun ρ' M' => ∃ m', m' < m ∧ Wh m' ρ' M', rt := (kontS X.K al F G ρ.x E).rt, bk := (kontS X.K al F G ρ.x E).nx, ct := fun ρ' M' => ∃ m', m' < m ∧ Wh m' ρ' M' }) q1 ⟨?_, fun d M2 k => kont.ext k (e'.trans e1), fun ρ2 M2 k => kN.ext k (e'.trans e1), ?_⟩
      · rintro ρ2 M2 ⟨m', hm, z⟩ al2 F2 H2 σ2 e2 W2 s2 x2
        exact ⟨m', hm, ρ2, M2, al2, F2, z, e'.trans (e1.trans e2), W2, s1.of e2 s2 (x2.trans x'.symm), x2⟩
      · rintro ρ2 M2 ⟨m', hm, z⟩ al2 F2 H2 σ2 e2 W2 s2 x2
        exact ⟨m', hm, ρ2, M2, al2, F2, z, e'.trans (e1.trans e2), W2, s1.of e2 s2 (x2.trans x'.symm), x2⟩
    | false => exact q1 al1 F1 H1 σ' (e'.trans e1) W1 s1.sl x'
  · cases b with
    | true => exact MonoS.up hb.mono (D := { nx := fun ρ' M' => ∃ m', m' < m ∧ Wh m' ρ' M', rt := D.rt, bk := D.nx, ct := fun ρ' M' => ∃ m', m' < m ∧ Wh m' ρ' M' }) q1 ⟨fun _ _ z => z, w.rt, w.nx, fun _ _ z => z⟩
    | false => exact w.nx _ _ q1
def pick {α : Type} (xs : List α) (lo hi st : Option Int) : List α := (sliceRange (sliceBounds lo hi st xs.length).1 (sliceBounds lo hi st xs.length).2.1 (sliceBounds lo hi st xs.length).2.2).filterMap (xs[·]?)
theorem Rps.picks {K : PySem.W.Frag} {F : Hp} {al : List Addr} {xs : List V} {ds : List D} (h : Rps K F al xs ds) : ∀ l : List Nat, Rps K F al (l.filterMap (xs[·]?)) (l.filterMap (ds[·]?))
  | [] => .nil
  | i :: l => by
    rw [List.filterMap_cons, List.filterMap_cons]
    cases e : ds[i]? with
    | none =>
      have e2 : xs[i]? = none := List.getElem?_eq_none (by rw [h.length]; exact List.getElem?_eq_none_iff.mp e)
      rw [e2]
      exact h.picks l
    | some d =>
      obtain ⟨v, h1, h2⟩ := h.get e
      rw [h1]
      exact .cons h2 (h.picks l)
theorem Rps.pick {K : PySem.W.Frag} {F : Hp} {al : List Addr} {xs : List V} {ds : List D} (h : Rps K F al xs ds) (lo hi st : Option Int) : Rps K F al (DL.pick xs lo hi st) (DL.pick ds lo hi st) := by
  unfold DL.pick
  rw [h.length]
  exact h.picks _
theorem vals_picks {xs : List V} {us : List Value} (h : Vals xs us) : ∀ l : List Nat, Vals (l.filterMap (xs[·]?)) (l.filterMap (us[·]?))
  | [] => .nil
  | i :: l => by
    rw [List.filterMap_cons, List.filterMap_cons]
    cases e : xs[i]? with
    | none =>
      rw [h.none_of e]
      exact vals_picks h l
    | some d =>
      obtain ⟨v, h1, h2⟩ := h.get e
      rw [h1]
      exact .cons h2 (vals_picks h l)
theorem pick_vals {xs : List V} {us : List Value} (h : Vals xs us) (lo hi st : Option Int) : Vals (DL.pick xs lo hi st) (slicePick us.toArray lo hi st).toList := by
  unfold DL.pick slicePick
  rw [h.length]
  simpa using vals_picks h _
@[reducible] def dSlS (fa : DTE) (lo hi st : DTO) : DTE := fun ρ M Q => fa ρ M fun x M1 => lo ρ M1 fun l M2 => hi ρ M2 fun h M3 => st ρ M3 fun k M4 => match seqOf x M4 with
  | some ds => k ≠ some 0 ∧ (pick ds l h k).length ≤ 100000 ∧ Q (.lst (pick ds l h k)) M4
  | none => False
theorem d_sliceS {lo hi : Option Expr} {st : Expr} {fl fh fs : DTO} {p2 : Pos} (ha : DE X a fa) (hl : DO X lo fl) (hh : DO X hi fh) (hs : DO X (some st) fs) (ht : ∀ o r, letTemporaryGo a o r = pure () := by intro _ _; rfl) : DE X (.Subscript a (.Slice lo hi (some st) p2) pos) (dSlS fa fl fh fs) := by
  refine ⟨⟨fun pins s σ H Q I q => ?_⟩, fun ρ M Q Q' w q => ha.mono _ _ _ _ (fun d M1 q1 => hl.mono _ _ _ _ (fun l M2 q2 => hh.mono _ _ _ _ (fun h M3 q3 => hs.mono _ _ _ _ (fun k M4 q4 => ?_) q3) q2) q1) q⟩
  · obtain ⟨ρ, M, al, F, G, W, es, q⟩ := q
    have r0 : Lift X fa σ H (fun v H1 => LiftO X fl σ H1 fun l H2 => LiftO X fh σ H2 fun h H3 => LiftO X fs σ H3 fun k H4 => ∃ p xs, v = .ref p ∧ H4 p = some (.lst xs) ∧ k ≠ some 0 ∧ (pick xs l h k).length ≤ sizeLine ∧ ∀ z, H4 z = none → Q (.ref z) (upd H4 z (.lst (pick xs l h k)))) := by
      refine ha.seq W es q fun d M1 al1 F1 H1 v q1 e1 W1 r1 s1 => ?_
      refine hl.seq W1 s1 q1 fun l M2 al2 F2 H2 q2 e2 W2 s2 => ?_
      refine hh.seq W2 s2 q2 fun h M3 al3 F3 H3 q3 e3 W3 s3 => ?_
      refine hs.seq W3 s3 q3 fun k M4 al4 F4 H4 q4 e4 W4 s4 => ?_
      split at q4
      · next ds e =>
        obtain ⟨p1, xs1, rfl, h1, rs⟩ := seqOf_ok W4 (r1.ext (e2.trans (e3.trans e4))) e
        have rp := rs.pick l h k
        exact ⟨p1, xs1, rfl, h1, q4.1, le_line (by rw [rp.length]; exact q4.2.1), fun z hz => kont.lst (kont.ext q4.2.2 (e1.trans (e2.trans (e3.trans e4)))) W4 rp hz⟩
      · exact q4.elim
    refine wpAny_Subscript_Slice_step PySem.slot_list_getitem.lookup (thn (ha.pe.run pins s σ H _ I r0) fun v s1 ⟨x, H1, I1, r1, q1⟩ => ?_) ht
    refine wpAny_Slice (thn (hl.po.run pins s1 σ H1 _ I1 q1) fun vl s2 ⟨l, H2, I2, pl, q2⟩ => ?_)
    refine thn (hh.po.run pins s2 σ H2 _ I2 q2) fun vu s3 ⟨u, H3, I3, pu, q3⟩ => ?_
    refine thn (hs.po.run pins s3 σ H3 _ I3 q3) fun vs s4 ⟨k, H4, I4, pk, p, xs, ex, hx, k0, hz, q4⟩ => ?_
    subst ex
    cases r1
    have I5 : Inv X pins σ H4 { s4 with heap := s4.heap.push { cls := .type "slice", data := .fields #[vl, vu, vs] } } := I4.kept (t' := s4.toks) fun b ob q => Heap.get?_push_of_some _ q
    obtain ⟨its, rv, pl5, hz5⟩ := I5.list (SqL.of hx)
    refine ⟨pl5.isList.typeIs, wpAny_getItem_list_slice pl5.isList (Heap.IsSliceOf.new _ vl vu vs) pl pu pk k0 ?_ (by rw [List.size_toArray, ← rv.length]; exact hz5)⟩
    refine ⟨.ref _, _, I5.laid (t' := s4.toks) (o := .lst (pick xs l u k)) (fun b ob q => Heap.get?_push_of_some _ q) (Nat.le_refl _) ?_, rfl, q4 _ (I5.hok.fresh (Nat.le_refl _))⟩
    exact ⟨hz, _, _, pick_vals rv l u k, Heap.get?_push_size _ rfl⟩
  · try dsimp only at q4 ⊢
    split at q4
    · exact ⟨q4.1, q4.2.1, w _ _ q4.2.2⟩
    · exact q4.elim
end
end DL
namespace DL
open PySem PySem.Spec PyProof.Rows L2
mutual
/-- all places that a datum names lie below n -/
def bel (n : Nat) : D → Bool
  | .ref m => decide (m < n)
  | .tup ds => bels n ds
  | .lst ds => bels n ds
  | .dct _ ds => bels n ds
  | .exo _ _ _ _ ds => bels n ds
  | .clo _ _ _ ds => bels n ds
  | .non | .bl _ | .int _ | .str _ | .scr _ => true
def bels (n : Nat) : List D → Bool
  | [] => true
  | d :: ds => bel n d && bels n ds
end
def Cell.bel (n : Nat) : Cell → Bool
  | .lst ds => bels n ds
  | .ins _ fs => bels n (fs.map (·.2))
  | .dic _ => true
  | .raw _ => true
section
variable {K : PySem.W.Frag} {F G H : Hp} {al : List Addr} {M : Sto}
mutual
theorem Rp.bel : ∀ {d : D} {v : V}, Rp K F al v d → DL.bel al.length d = true
  | .non, _, _ => rfl
  | .bl _, _, _ => rfl
  | .int _, _, _ => rfl
  | .str _, _, _ => rfl
  | .scr _, _, _ => rfl
  | .tup _, _, h => by
    cases h with
    | tup a b => exact Rps.bels b
  | .lst _, _, h => by
    cases h with
    | lst a b => exact Rps.bels b
  | .dct _ _, _, h => by
    cases h with
    | dct a l b => exact Rps.bels b
  | .exo _ _ _ _ _, _, h => by
    cases h with
    | exo0 => rfl
    | exo a l b => exact Rps.bels b
  | .clo _ _ _ _, _, h => by
    cases h with
    | clo a b => exact Rps.bels b
  | .ref _, _, h => by
    cases h with
    | ref a => exact decide_eq_true (List.getElem?_eq_some_iff.mp a).1
theorem Rps.bels : ∀ {ds : List D} {vs : List V}, Rps K F al vs ds → DL.bels al.length ds = true
  | [], _, _ => rfl
  | d :: ds, _, h => by
    cases h with
    | cons a b =>
      show (DL.bel al.length d && DL.bels al.length ds) = true
      rw [Rp.bel a, Rps.bels b]
      rfl
end
mutual
theorem Rp.cutA {n : Nat} : ∀ {d : D} {v : V}, Rp K F al v d → DL.bel n d = true → Rp K F (al.take n) v d
  | .non, _, h, _ => by cases h; exact .non
  | .bl _, _, h, _ => by cases h; exact .bl _
  | .int _, _, h, _ => by cases h; exact .int _
  | .str _, _, h, _ => by cases h; exact .str _
  | .scr _, _, h, _ => by
    cases h with
    | scr a => exact .scr a
  | .tup _, _, h, q => by
    cases h with
    | tup a b => exact .tup a (Rps.cutA b q)
  | .lst _, _, h, q => by
    cases h with
    | lst a b => exact .lst a (Rps.cutA b q)
  | .dct _ _, _, h, q => by
    cases h with
    | dct a l b => exact .dct a l (Rps.cutA b q)
  | .exo _ _ _ _ _, _, h, q => by
    cases h with
    | exo0 => exact .exo0 _ _
    | exo a l b => exact .exo a l (Rps.cutA b q)
  | .clo _ _ _ _, _, h, q => by
    cases h with
    | clo a b => exact .clo a (Rps.cutA b q)
  | .ref _, _, h, q => by
    cases h with
    | ref a => exact .ref (by rw [List.getElem?_take_of_lt (of_decide_eq_true q)]; exact a)
theorem Rps.cutA {n : Nat} : ∀ {ds : List D} {vs : List V}, Rps K F al vs ds → DL.bels n ds = true → Rps K F (al.take n) vs ds
  | [], _, h, _ => by cases h; exact .nil
  | d :: ds, _, h, q => by
    cases h with
    | cons a b =>
      have q' : DL.bel n d = true ∧ DL.bels n ds = true := by simpa [DL.bels] using q
      exact .cons (Rp.cutA a q'.1) (Rps.cutA b q'.2)
end
theorem CellOk.bel {a : Addr} {c : Cell} (h : CellOk K F al H a c) : c.bel al.length = true := by
  cases c with
  | lst ds => obtain ⟨xs, _, r⟩ := h; exact r.bels
  | ins C fs => obtain ⟨dx, vs, _, _, r⟩ := h; exact r.bels
  | dic ks => rfl
  | raw o => rfl
theorem CellOk.cutA {a : Addr} {c : Cell} {n : Nat} (h : CellOk K F al H a c) (q : c.bel n = true) : CellOk K F (al.take n) H a c := by
  cases c with
  | lst ds => obtain ⟨xs, e, r⟩ := h; exact ⟨xs, e, r.cutA q⟩
  | ins C fs => obtain ⟨dx, vs, e, z, r⟩ := h; exact ⟨dx, vs, e, z, r.cutA q⟩
  | dic ks => exact h
  | raw o => exact h
def stoBel (n : Nat) (M : Sto) : Prop := ∀ c ∈ M, Cell.bel n c = true
theorem Wd.bels (W : Wd K al F G H M) : stoBel M.length M := by
  intro c hc
  obtain ⟨n, hn, e⟩ := List.getElem_of_mem hc
  have hl : n < al.length := by rw [W.len]; exact hn
  rw [← W.len]
  exact (W.cel n c al[n] (by rw [List.getElem?_eq_getElem hn, e]) (List.getElem?_eq_getElem hl)).bel
theorem Wd.cutA (W : Wd K al F G H M) {n : Nat} (h : stoBel n (M.take n)) : Wd K (al.take n) F G H (M.take n) :=
  W.take n fun m c a hm q r => (W.cel m c a q r).cutA (h c (by
    have : (M.take n)[m]? = some c := by rw [List.getElem?_take_of_lt hm]; exact q
    exact List.mem_of_getElem? this))
/-- what a def hands back, as its caller sees it: as it is; without the places that the def has made; a list of these as a tree -/
def See (n : Nat) (Q : DK) (d : D) (M : Sto) : Prop :=
  Q d M ∨ (bel n d = true ∧ stoBel n (M.take n) ∧ Q d (M.take n)) ∨ ∃ m ds, d = .ref m ∧ n ≤ m ∧ M[m]? = some (.lst ds) ∧ bels n ds = true ∧ stoBel n (M.take n) ∧ Q (.lst ds) (M.take n)
theorem See.ok {al0 : List Addr} {F0 : Hp} {Q : VK} {d : D} {v : V} (e : Ext al0 F0 al F) (W : Wd K al F G H M) (r : Rp K F al v d) (h : See al0.length (kont K al0 F0 G Q) d M) : Q v H := by
  obtain ⟨be, rfl⟩ := e.al
  have tk : (al0 ++ be).take al0.length = al0 := List.take_left
  rcases h with h | ⟨h1, h2, h3⟩ | ⟨m, ds, rfl, hm, hc, hb, h2, h3⟩
  · exact h _ F H v e W r
  · have W' := W.cutA h2
    have r' := r.cutA h1
    rw [tk] at W' r'
    exact h3 al0 F H v ⟨⟨[], by simp⟩, e.sm⟩ W' r'
  · cases r with
    | @ref _ pa ha =>
      obtain ⟨xs, hx, rs⟩ := W.cel _ _ _ hc ha
      have W' := W.cutA h2
      have rs' := rs.cutA hb
      rw [tk] at W' rs'
      have ham := List.mem_of_getElem? ha
      have hF := W.out _ ham
      have hn : ∀ a ∈ al0, a ≠ pa := fun a ha0 z => by
        obtain ⟨i, hi, ei⟩ := List.getElem_of_mem ha0
        have h1 : (al0 ++ be)[i]? = some a := by rw [List.getElem?_append_left hi, List.getElem?_eq_getElem hi, ei]
        rw [z] at h1
        obtain ⟨hi1, e1⟩ := List.getElem?_eq_some_iff.mp h1
        obtain ⟨hi2, e2⟩ := List.getElem?_eq_some_iff.mp ha
        have := (List.getElem_inj W.nd).mp (e1.trans e2.symm)
        omega
      have eF : Ext al0 F al0 (upd F pa (.lst xs)) := ⟨⟨[], by simp⟩, Sm.new hF⟩
      refine h3 al0 (upd F pa (.lst xs)) H _ ⟨⟨[], by simp⟩, e.sm.trans eF.sm⟩ ⟨fun b o q => ?_, W.sg, fun a o q => ⟨?_, (W'.fg a o q).2⟩, W'.len, W'.nd, fun a q => ?_, fun n c a q1 q2 => (W'.cel n c a q1 q2).ext eF rfl, W.tb.to eF.sm fun P x f g y => ⟨rfl, (upd_ne (show P ≠ pa from fun z => y (by rw [z]; exact ham))).trans f, g, fun z => y (List.mem_append_left _ z)⟩⟩ (.lst upd_same (rs'.ext eF))
      · by_cases hb : b = pa
        · subst hb; rw [upd_same] at q; cases q; exact hx
        · rw [upd_ne hb] at q; exact W.sm b o q
      · rw [upd_ne (show a ≠ pa from fun z => (W.fg a o q).2 (z ▸ ham))]
        exact (W.fg a o q).1
      · rw [upd_ne (hn a q)]
        exact W'.out a q
theorem See.keep {n : Nat} {Q : DK} {d : D} (h : Q d M) : See n Q d M := .inl h
theorem See.drop {Q : DK} {d : D} {M M' : Sto} (hd : bel M.length d = true) (hb : stoBel M.length M) (h : Q d M) : See M.length Q d (M ++ M') := .inr (.inl ⟨hd, by rw [List.take_left]; exact hb, by rw [List.take_left]; exact h⟩)
theorem See.frz {Q : DK} {M M' : Sto} {m : Nat} {ds : List D} (hm : M.length ≤ m) (hc : (M ++ M')[m]? = some (.lst ds)) (hd : bels M.length ds = true) (hb : stoBel M.length M) (h : Q (.lst ds) M) : See M.length Q (.ref m) (M ++ M') :=
  .inr (.inr ⟨m, ds, rfl, hm, hc, hd, by rw [List.take_left]; exact hb, by rw [List.take_left]; exact h⟩)
end
abbrev DSp := List D → Sto → DK → DXK → Prop
def kontX (K : PySem.W.Frag) (al : List Addr) (F G : Hp) (E : XK) : DXK := fun c fs M' => ∀ al' F' H' o, Ext al F al' F' → Wd K al' F' G H' M' → FldOk K F' al' o fs → E c o H'
def spOf (K : PySem.W.Frag) (ds : DSp) : Sp := fun vs H Q E => ∃ args M al F G, Wd K al F G H M ∧ Rps K F al vs args ∧ ds args M (kont K al F G Q) (kontX K al F G E)
def MonoSp (ds : DSp) : Prop := ∀ args M (Q Q' : DK) (E E' : DXK), (∀ d M, Q d M → Q' d M) → (∀ c f M, E c f M → E' c f M) → ds args M Q E → ds args M Q' E'
def startD (N : List Str) (args : List D) : List (Option D) := args.map some ++ List.replicate (N.length - args.length) none
theorem start_es {K : PySem.W.Frag} {F : Hp} {al : List Addr} {N : List Str} {vs : List V} {args : List D} (r : Rps K F al vs args) : Sl K F al (L2.start N vs) (startD N args) := by
  have hl := r.length
  unfold L2.start startD
  refine ⟨by simp [hl], fun i d q => ?_⟩
  by_cases hi : i < args.length
  · rw [List.getElem?_append_left (by simpa using hi), List.getElem?_map] at q
    cases e : args[i]? with
    | none => rw [e] at q; cases q
    | some z =>
      rw [e] at q
      have : z = d := by simpa using q
      subst this
      obtain ⟨v, h1, h2⟩ := r.get e
      exact ⟨v, by rw [List.getElem?_append_left (by rw [List.length_map, hl]; exact hi), List.getElem?_map, h1]; rfl, h2⟩
  · rw [List.getElem?_append_right (by simpa using hi)] at q
    have := List.mem_of_getElem? q
    rw [List.mem_replicate] at this
    exact absurd this.2 (by simp)
section
variable {P : Program} {w : World} {K : PySem.W.Frag} {mg : Str → Option Value} {base : Heap}
/-- an exception, as the caller sees it -/
def SeeX (n : Nat) (E : DXK) : DXK := fun c fs M => E c fs M ∨ (bels n (fs.map (·.2)) = true ∧ stoBel n (M.take n) ∧ E c fs (M.take n))
theorem SeeX.ok {F G H : Hp} {al : List Addr} {M : Sto} {al0 : List Addr} {F0 : Hp} {E : XK} {c : Value} {o : Option Addr} {fs : List (Str × D)} (e : Ext al0 F0 al F) (W : Wd K al F G H M) (r : FldOk K F al o fs) (h : SeeX al0.length (kontX K al0 F0 G E) c fs M) : E c o H := by
  obtain ⟨be, rfl⟩ := e.al
  have tk : (al0 ++ be).take al0.length = al0 := List.take_left
  rcases h with h | ⟨h1, h2, h3⟩
  · exact h _ F H o e W r
  · have W' := W.cutA h2
    rw [tk] at W'
    refine h3 al0 F H o ⟨⟨[], by simp⟩, e.sm⟩ W' ?_
    rcases r with r | ⟨a, vs, r1, r2, r3, r4⟩
    · exact .inl r
    · have r' := r4.cutA h1
      rw [tk] at r'
      exact .inr ⟨a, vs, r1, r2, r3, r'⟩
theorem SeeX.keep {n : Nat} {E : DXK} {c : Value} {fs : List (Str × D)} {M : Sto} (h : E c fs M) : SeeX n E c fs M := .inl h
theorem SeeX.drop {E : DXK} {c : Value} {fs : List (Str × D)} {M M' : Sto} (hd : bels M.length (fs.map (·.2)) = true) (hb : stoBel M.length M) (h : E c fs M) : SeeX M.length E c fs (M ++ M') := .inr ⟨hd, by rw [List.take_left]; exact hb, by rw [List.take_left]; exact h⟩
/-- where a def's body runs -/
abbrev cx0 (P : Program) (w : World) (K : PySem.W.Frag) (mg : Str → Option Value) (base : Heap) (N : List Str) (qual : Str) (st : Stmt) (f : Addr) (cdv : Value) (A : Around) (outer : List Env) (s : Shared) (H : Hp) (E : XK) : Cx :=
  cxOf (CXd P w) P w K mg base N qual (defScope st) f cdv A outer s H E
/-- a def that lets no exception out; its code object is told -/
theorem fnDC {k : Nat} {f : Addr} {x qual : Str} {st : Stmt} {fd : FuncData} {N ps : List Str} {ds : DSp} (F : Fun K x qual st f fd) (S : FnScope N ps (defScope st)) (len : ∀ args M Q E, ds args M Q E → args.length = ps.length)
    (body : ∀ (cdv : Value), fd.code = cdv → ∀ (A : Around) (outer : List Env) (s : Shared) (H : Hp) (E : XK), (cx0 P w K mg base N qual st f cdv A outer s H E).A.guards = some [] → Room k (cx0 P w K mg base N qual st f cdv A outer s H E).A →
      ∃ fb, DSs (cx0 P w K mg base N qual st f cdv A outer s H E) (defBody st) fb ∧ ∀ args M Q E', stoBel M.length M → bels M.length args = true → ds args M Q E' → fb { nx := fun _ M' => See M.length Q .non M', rt := See M.length Q } ⟨startD N args, noX⟩ M) :
    FnG P w K mg base (CXd P w) (k + 1) f fd ps (spOf K ds) := by
  refine fnG_of F S (fun vs H Q E ⟨args, M, al, F, G, W, r, q⟩ => r.length.trans (len _ _ _ _ q)) fun cdv hcdv A outer s H vs Q E hgd hr ⟨args, M, al, F, G, W, r, q⟩ => ?_
  obtain ⟨fb, pb, h⟩ := body cdv hcdv A outer s H E hgd hr
  have W0' : al.length = M.length := W.len
  have hb := r.bels
  rw [W0'] at hb
  refine ⟨_, pb.ps, ⟨startD N args, noX⟩, M, al, F, G, W, Es.none (start_es r) rfl, MonoS.up pb.mono (h args M _ _ W.bels hb q) ⟨fun ρ' M' k al' F' H' σ' e' W' s' _ => ?_, fun d M' k al' F' H' v e' W' r' => ?_, fun _ _ z => z.elim, fun _ _ z => z.elim⟩⟩
  · exact See.ok e' W' .non (by rw [W0']; exact k)
  · exact See.ok e' W' r' (by rw [W0']; exact k)
/-- a def that lets no exception out -/
theorem fnD {k : Nat} {f : Addr} {x qual : Str} {st : Stmt} {fd : FuncData} {N ps : List Str} {ds : DSp} (F : Fun K x qual st f fd) (S : FnScope N ps (defScope st)) (len : ∀ args M Q E, ds args M Q E → args.length = ps.length)
    (body : ∀ (cdv : Value) (A : Around) (outer : List Env) (s : Shared) (H : Hp) (E : XK), (cx0 P w K mg base N qual st f cdv A outer s H E).A.guards = some [] → Room k (cx0 P w K mg base N qual st f cdv A outer s H E).A →
      ∃ fb, DSs (cx0 P w K mg base N qual st f cdv A outer s H E) (defBody st) fb ∧ ∀ args M Q E', stoBel M.length M → bels M.length args = true → ds args M Q E' → fb { nx := fun _ M' => See M.length Q .non M', rt := See M.length Q } ⟨startD N args, noX⟩ M) :
    FnG P w K mg base (CXd P w) (k + 1) f fd ps (spOf K ds) :=
  fnDC F S len fun cdv _ => body cdv
end
section
variable {X : Cx} {a b c : Expr} {fa fb fc : DTE} {pos : Pos} {es : List Expr} {fr : DTA}
@[reducible] def dCall (ds : DSp) (fr : DTA) : DTE := fun ρ M Q => fr ρ M fun args M1 => ds args M1 Q fun c fs M2 => ρ.x c fs ρ.v M2
theorem d_call {ds : DSp} {k : Nat} {f : Addr} {fd : FuncData} {ps : List Str} {x : Str} {p : Pos} (G : FnG X.prog X.w X.K X.mg X.base (CXd X.prog X.w) k f fd ps (spOf X.K ds)) (hgd : X.A.guards = some []) (hr : Room k X.A) (hg : Gl X x) (hm : X.mg x = some (.ref f)) (hk : PySem.W.keepIn X.K (.ref f) = true) (hb : Binds X.K fd ps [])
    (hmono : MonoSp ds) (ha : DA X (a :: es) fr) (hdb : (x == ("__debug__" : Str)) = false := by decide) (he : starEach (a :: es) X.env = (false, eval a X.env) :: starEach es X.env := by rfl) (hpl : (backTo pos (starEach es X.env)).any (·.1) = false := by rfl) :
    DE X (.Call (.Name x p) (a :: es) [] pos) (dCall ds fr) := by
  refine ⟨PE.of (peG_callS G hgd hr hg hm hk hb .nil (passD X) ha.pa hdb he hpl) fun σ H Q ⟨ρ, M, al, F, Gg, W, s, q⟩ => ?_, fun ρ M Q Q' w q => ha.mono _ _ _ _ (fun args M1 q1 => hmono _ _ _ _ _ _ w (fun _ _ _ z => z) q1) q⟩
  refine ha.seq W s q fun args M1 al1 F1 H1 vs q1 e1 W1 r1 s1 => ?_
  exact ⟨args, M1, al1, F1, Gg, W1, by rw [List.append_nil]; exact r1, hmono _ _ _ _ _ _ (fun d M2 k => kont.ext k e1) (fun c fs M2 z al2 F2 H2 o e2 W2 f2 => s1.xo c fs ρ.v M2 al2 F2 H2 o σ e2 W2 (s1.sl.ext e2) f2 z) q1⟩
/-- a def whose answer is a function of its arguments, and which changes nothing -/
@[reducible] def spF (f : List D → Option D) : DSp := fun args M Q _ => match f args with
  | some d => Q d M
  | none => False
/-- three names at once -/
@[reducible] def dPar3 (i j l : Nat) (fa : DTA) : DTS := fun D ρ M => fa ρ M fun ds M1 => match ds with
  | [d, e, f] => D.nx ⟨((ρ.v.set i (some d)).set j (some e)).set l (some f), ρ.x⟩ M1
  | _ => False
end
end DL
namespace DL
open PySem PySem.Spec PyProof.Rows L2
section
variable {X : Cx} {a b c : Expr} {fa fb fc : DTE} {pos : Pos} {es : List Expr} {fr : DTA}
theorem dv (i : Nat) {x : Str} {pos : Pos} (hN : X.N[i]? = some x := by rfl) (hv : Vis X.env.scope x := by first | exact Or.inl rfl | exact Or.inr (Or.inl rfl) | exact Or.inr (Or.inr rfl)) (hd : (x == ("__debug__" : Str)) = false := by decide)
    (hcd : (x == ("__classdict__" : Str)) = false := by decide) : DE X (.Name x pos) (dVar i) := d_var i hN hv hd hcd
theorem dgn (i : Nat) {x : Str} {pos : Pos} (hN : X.N.Nodup) (hi : X.N[i]? = some x := by rfl) (hx : Loc X.env.scope x := by first | exact Or.inl rfl | exact Or.inr rfl) (hf : X.fn x = true ∨ X.env.scope.names.lookup x = some .local := by first | exact .inl rfl | exact .inr rfl) : DG X (.Name x pos) (dgName i) [i] := dg_name hN hi hx hf
theorem dss (i : Nat) {x : Str} {pos' : Pos} (hN : X.N.Nodup) (h : DE X a fa) (hi : X.N[i]? = some x := by rfl) (hx : Loc X.env.scope x := by first | exact Or.inl rfl | exact Or.inr rfl) (hs : swapsWith a (some (.Name x pos')) pos.line X.env = pure false := by rfl) (hf : X.fn x = true ∨ X.env.scope.names.lookup x = some .local := by first | exact .inl rfl | exact .inr rfl) :
    DS X (.Assign [.Name x pos'] a pos) (dAsg fa (dgName i)) := ds_set hN hi hx h hs hf
theorem dsp2 (i j : Nat) {x y : Str} {px py pt : Pos} {kt k2 : Nat} {pt2 : Pos} (hN : X.N.Nodup) (ha : DA X [a, b] fr) (hc : X.calm = true := by rfl) (hi : X.N[i]? = some x := by rfl) (hj : X.N[j]? = some y := by rfl) (hij : i ≠ j := by decide) (hx : X.env.scope.names.lookup x = some .local := by rfl) (hy : X.env.scope.names.lookup y = some .local := by rfl)
    (hw : swappedStores [.Tuple [.Name x px, .Name y py] kt pt] (.Tuple [a, b] k2 pt2) X.env = pure (some [x, y]) := by rfl) (hs : swapsWithSole [.Tuple [.Name x px, .Name y py] kt pt] (.Tuple [a, b] k2 pt2) pos.line X.env = pure false := by rfl) :
    DS X (.Assign [.Tuple [.Name x px, .Name y py] kt pt] (.Tuple [a, b] k2 pt2) pos) (dPar i j fr) :=
  ds_par hc hN hi hj hij hx hy ha fun h => ps_par hc hN hi hj hij hx hy h hw hs
def r2 (K : PySem.W.Frag) (g : G2) : R2 := fun x y H Q => ∃ dx dy al F G M, Wd K al F G H M ∧ Rp K F al x dx ∧ Rp K F al y dy ∧ g dx dy M (kont K al F G Q)
theorem O2.opR {f : Value → Value → Sem Value} {g : G2} (h : O2 X f g) : OpR X f (r2 X.K g) := fun pins s σ H x y v u Q I rx ry ⟨dx, dy, al, F, G, M, W, r1, r2, q⟩ => h.run pins s σ al F G H M x y v u dx dy Q I rx ry W r1 r2 q
@[reducible] def dChain (g g' : G2) (fa fb fc : DTE) : DTE := fun ρ M Q => fa ρ M fun x M1 => fb ρ M1 fun y M2 => g x y M2 fun z M3 => match z with
  | .bl true => fc ρ M3 fun w M4 => g' y w M4 Q
  | .bl false => Q (.bl false) M3
  | _ => False
theorem d_chain {op op' : CmpOp} {g g' : G2} (ho : O2 X (compareOp op) g) (ho' : O2 X (compareOp op') g') (ha : DE X a fa) (hb : DE X b fb) (hc : DE X c fc)
    (pe : ∀ {r r' : R2} {ta tb tc : TE}, OpR X (compareOp op) r → OpR X (compareOp op') r' → PE X a ta → PE X b tb → PE X c tc → PE X (.Compare a [op, op'] [b, c] pos) (tChain r r' ta tb tc)) : DE X (.Compare a [op, op'] [b, c] pos) (dChain g g' fa fb fc) := by
  refine ⟨PE.of (pe ho.opR ho'.opR ha.pe hb.pe hc.pe) fun σ H Q ⟨ρ, M, al, F, G, W, s, q⟩ => ?_, fun ρ M Q Q' w q => ha.mono _ _ _ _ (fun x M1 q1 => hb.mono _ _ _ _ (fun y M2 q2 => ho.mono _ _ _ _ _ (fun z M3 q3 => ?_) q2) q1) q⟩
  · refine ha.seq W s q fun dx M1 al1 F1 H1 v q1 e1 W1 r1 s1 => ?_
    refine hb.seq W1 s1 q1 fun dy M2 al2 F2 H2 u q2 e2 W2 r2 s2 => ?_
    refine ⟨dx, dy, al2, F2, G, M2, W2, r1.ext e2, r2, ho.mono _ _ _ _ _ (fun z M3 q3 al3 F3 H3 zv e3 W3 r3 => ?_) q2⟩
    cases r3 with
    | bl k =>
      refine ⟨k, rfl, ?_⟩
      cases k with
      | true =>
        refine hc.seq W3 (s2.ext e3) q3 fun dw M4 al4 F4 H4 wv q4 e4 W4 r4 s4 => ?_
        exact ⟨dy, dw, al4, F4, G, M4, W4, r2.ext (e3.trans e4), r4, ho'.mono _ _ _ _ _ (fun d M5 k => kont.ext k (e1.trans (e2.trans (e3.trans e4)))) q4⟩
      | false => exact q3 al3 F3 H3 _ (e1.trans (e2.trans e3)) W3 (.bl false)
    | _ => exact q3.elim
  · try dsimp only at q3 ⊢
    split at q3
    · exact hc.mono _ _ _ _ (fun w' M4 q4 => ho'.mono _ _ _ _ _ w q4) q3
    · exact w _ _ q3
    · exact q3.elim
structure Cl (P : Program) (w : World) (K : PySem.W.Frag) (mg : Str → Option Value) (base : Heap) (x : Str) (k : Nat) (ps : List Str) (ds : DSp) : Prop where
  ex : ∃ (f : Addr) (fd : FuncData), FnG P w K mg base (CXd P w) k f fd ps (spOf K ds) ∧ mg x = some (.ref f) ∧ PySem.W.keepIn K (.ref f) = true ∧ Binds K fd ps []
  mono : MonoSp ds
theorem d_cl {ds : DSp} {k : Nat} {ps : List Str} {x : Str} {p : Pos} (C : Cl X.prog X.w X.K X.mg X.base x k ps ds) (hgd : X.A.guards = some []) (hr : Room k X.A) (ha : DA X (a :: es) fr) (hg : Gl X x := by rfl) (hdb : (x == ("__debug__" : Str)) = false := by decide)
    (he : starEach (a :: es) X.env = (false, eval a X.env) :: starEach es X.env := by rfl) (hpl : (backTo pos (starEach es X.env)).any (·.1) = false := by rfl) : DE X (.Call (.Name x p) (a :: es) [] pos) (dCall ds fr) := by
  obtain ⟨f, fd, G, hm, hk, hb⟩ := C.ex
  exact d_call G hgd hr hg hm hk hb C.mono ha hdb he hpl
/-- a def of the top -/
structure Df (K : PySem.W.Frag) (mg : Str → Option Value) (x : Str) (st : Stmt) : Prop where
  ex : ∃ (f : Addr) (fd : FuncData), Fun K x x st f fd ∧ mg x = some (.ref f)
/-- the built-in names that no text here takes -/
structure Bn (mg : Str → Option Value) : Prop where
  abs : mg "abs" = none
  all : mg "all" = none
  any : mg "any" = none
  bool : mg "bool" = none
  dict : mg "dict" = none
  enumerate : mg "enumerate" = none
  int : mg "int" = none
  isinstance : mg "isinstance" = none
  len : mg "len" = none
  list : mg "list" = none
  max : mg "max" = none
  min : mg "min" = none
  range : mg "range" = none
  repr : mg "repr" = none
  set : mg "set" = none
  sorted : mg "sorted" = none
  str : mg "str" = none
  sum : mg "sum" = none
  tuple : mg "tuple" = none
  zip : mg "zip" = none
  LookupError : mg "LookupError" = none
  ValueError : mg "ValueError" = none
theorem b_abs : bootBuiltins "abs" = some (.builtin "abs") := by decide +kernel
theorem b_all : bootBuiltins "all" = some (.builtin "all") := by decide +kernel
theorem b_bool : bootBuiltins "bool" = some (.type "bool") := by decide +kernel
theorem b_int : bootBuiltins "int" = some (.type "int") := by decide +kernel
theorem b_len : bootBuiltins "len" = some (.builtin "len") := by decide +kernel
theorem b_max : bootBuiltins "max" = some (.builtin "max") := by decide +kernel
theorem b_min : bootBuiltins "min" = some (.builtin "min") := by decide +kernel
theorem b_str : bootBuiltins "str" = some (.type "str") := by decide +kernel
theorem b_sum : bootBuiltins "sum" = some (.builtin "sum") := by decide +kernel
theorem b_tuple : bootBuiltins "tuple" = some (.type "tuple") := by decide +kernel
/-- a comprehension's list that will be changed -/
@[reducible] def dLcM (fi : DTI) (g : DTG) (t : DTT) (fe : DTE) (vs : List Nat) : DTE := fun ρ M Q => fi ρ M fun ds st M1 => lcGo st (lcStep ρ vs g t fe) ds [] M1 fun acc M2 => Q (.ref M2.length) (M2 ++ [Cell.lst acc])
theorem Wd.thawM {K : PySem.W.Frag} {al : List Addr} {F G H : Hp} {M : Sto} {p : Addr} {xs : List V} {ds : List D} (W : Wd K al F (upd G p (.lst xs)) H M) (hg : G p = none) (rs : Rps K F al xs ds) : Wd K (al ++ [p]) F G H (M ++ [.lst ds]) ∧ Ext al F (al ++ [p]) F := by
  have hp := W.hidF (fun _ z => by cases z)
  have e : Ext al F (al ++ [p]) F := ⟨⟨[p], rfl⟩, Sm.refl F⟩
  refine ⟨⟨W.sm, fun b u q => W.sg b u (Sm.new hg b u q), fun a u q => ?_, by simp [W.len], ?_, fun a q => ?_, fun n c a q r => ?_, W.tb.to (Sm.refl F) fun P x f g y => ?_⟩, e⟩
  rotate_right
  · have np : P ≠ p := fun z => by rw [z, upd_same] at g; cases g
    exact ⟨rfl, f, (upd_ne np).symm.trans g, fun z => (List.mem_append.mp z).elim y fun z => np (by simpa using z)⟩
  · have hn : a ≠ p := fun z => by subst z; rw [hg] at q; cases q
    obtain ⟨h1, h2⟩ := W.fg a u (Sm.new hg a u q)
    refine ⟨h1, fun z => ?_⟩
    rcases List.mem_append.mp z with z | z
    · exact h2 z
    · exact hn (by simpa using z)
  · rw [List.nodup_append]
    refine ⟨W.nd, by simp, fun a ha b hb => ?_⟩
    have hb' : b = p := by simpa using hb
    subst hb'
    exact fun z => hp.2 (z ▸ ha)
  · rcases List.mem_append.mp q with q | q
    · exact W.out a q
    · have q' : a = p := by simpa using q
      subst q'
      exact hp.1
  · by_cases hn : n < M.length
    · rw [List.getElem?_append_left hn] at q
      rw [List.getElem?_append_left (by rw [W.len]; exact hn)] at r
      exact (W.cel n c a q r).ext e rfl
    · have hn' : n = M.length := by
        have := (List.getElem?_eq_some_iff.mp q).1
        rw [List.length_append, List.length_singleton] at this
        omega
      subst hn'
      rw [List.getElem?_append_right (Nat.le_refl _)] at q
      rw [← W.len, List.getElem?_append_right (Nat.le_refl _)] at r
      simp at q r
      subst q
      subst r
      exact ⟨xs, W.sg _ _ upd_same, rs.ext e⟩
theorem lcM_ok {Y : Cx} {wi : DTI} {g : DTG} {t : DTT} {fe : DTE} {vs js : List Nat} {σ : L2.St} {H : Hp} {Q : VK} (hi : ∀ ρ M (Q Q' : List D → (Sto → Prop) → Sto → Prop), (∀ ds st M, Q ds st M → Q' ds st M) → wi ρ M Q → wi ρ M Q')
    (hg : MonoG g) (ht : ∀ ρ M (Q Q' : Bool → Sto → Prop), (∀ d M, Q d M → Q' d M) → t ρ M Q → t ρ M Q') (he : ∀ ρ M (Q Q' : DK), (∀ d M, Q d M → Q' d M) → fe ρ M Q → fe ρ M Q') (hj : ∀ j ∈ js, j ∈ vs)
    (h : Lift Y (dLcM wi g t fe vs) σ H Q) : tLc (LiftI Y wi) (LiftGN Y.K g js) (LiftTN Y.K t) (LiftN Y.K fe) vs σ H Q := by
  obtain ⟨ρ, M, al, F, G, W, es, q⟩ := h
  refine ⟨ρ, M, al, F, G, W, es, hi _ _ _ _ (fun ds st M1 q1 al1 F1 H1 J e1 W1 ok => ?_) q⟩
  intro Dd hD
  have hGD : G Dd = none := W1.sg.free hD
  refine ⟨fun i m H' => ∃ M' al' F' acc xs, i + m = ds.length ∧ Ext al1 F1 al' F' ∧ Wd Y.K al' F' (upd G Dd (.lst xs)) H' M' ∧ Rps Y.K F' al' xs acc ∧ lcGo st (lcStep ρ vs g t fe) (ds.drop i) acc M' (fun acc M2 => kont Y.K al F G Q (.ref M2.length) (M2 ++ [Cell.lst acc])),
    ⟨ds.length, M1, al1, F1, [], [], by omega, Ext.refl _ _, W1.hide hD, .nil, q1⟩, ?_⟩
  rintro i m H' ⟨M', al', F', acc, xs, em, e', W', rs, q'⟩
  have smG : Sm G (upd G Dd (.lst xs)) := Sm.new hGD
  by_cases hil : i < ds.length
  · rw [List.drop_eq_getElem_cons hil] at q'
    obtain ⟨hst, q'⟩ := q'
    obtain ⟨go, yl⟩ := (ok al' F' _ H' M' e' smG W' hst i).1 ds[i] (List.getElem?_eq_getElem hil)
    refine .inr ⟨go, fun H2 => ∃ M2 al2 F2 acc2 xs2, Ext al1 F1 al2 F2 ∧ Wd Y.K al2 F2 (upd G Dd (.lst xs2)) H2 M2 ∧ Rps Y.K F2 al2 xs2 acc2 ∧ lcGo st (lcStep ρ vs g t fe) (ds.drop (i + 1)) acc2 M2 (fun acc M2 => kont Y.K al F G Q (.ref M2.length) (M2 ++ [Cell.lst acc])), ?_, fun x H2 hy => ?_⟩
    · rintro H2 ⟨M2, al2, F2, acc2, xs2, e2, W2, r2, q2⟩
      exact ⟨m - 1, by omega, M2, al2, F2, acc2, xs2, by omega, e2, W2, r2, q2⟩
    · obtain ⟨F2, sm2, W2, r2⟩ := yl x H2 hy
      have e2 : Ext al' F' al' F2 := ⟨⟨[], by simp⟩, sm2⟩
      have esw : Sl Y.K F2 al' (wipe σ vs) (wipeD ρ.v vs) := (es.sl.ext (e1.trans (e'.trans e2))).wipe vs
      refine ⟨ds[i], ⟨wipeD ρ.v vs, noX⟩, M', al', F2, _, W2, esw, rfl, r2, hg _ _ _ _ _ (fun ρ3 M3 q3 al3 F3 H3 σ3 e3 W3 s3 x3 o3 => ?_) q'⟩
      refine ⟨(wipe_eq o3 hj).trans wipe_wipe, ρ3, M3, al3, F3, _, W3, s3, x3, ht _ _ _ _ (fun b M4 q4 al4 F4 H4 e4 W4 => ?_) q3⟩
      cases b with
      | false =>
        exact ⟨M4, al4, F4, acc, xs, e'.trans (e2.trans (e3.trans e4)), W4, rs.ext (e2.trans (e3.trans e4)), q4⟩
      | true =>
        refine ⟨ρ3, M4, al4, F4, _, W4, s3.ext e4, x3, he _ _ _ _ (fun y M5 q5 al5 F5 H5 v5 e5 W5 r5 => ?_) q4⟩
        have eA : Ext al' F' al5 F5 := e2.trans (e3.trans (e4.trans e5))
        have rl := rs.length
        refine ⟨xs, W5.sg _ _ upd_same, Nat.lt_of_lt_of_le (by have := q5.1; omega : xs.length < 100000) (by decide), M5, al5, F5, acc ++ [y], xs ++ [v5], e'.trans eA, W5.rehide, (rs.ext eA).append (.cons r5 .nil), q5.2⟩
  · rw [List.drop_eq_nil_of_le (by omega)] at q'
    refine .inl ⟨(ok al' F' _ H' M' e' smG W' q'.1 i).2 (by omega), ?_⟩
    obtain ⟨W2, e2⟩ := W'.thawM hGD rs
    exact q'.2 _ _ H' _ (e1.trans (e'.trans e2)) W2 (.ref (by rw [← W'.len, List.getElem?_append_right (Nat.le_refl _)]; simp))
theorem d_lcM {elt tg iter : Expr} {ifs : List Expr} {scope : Scope} {own : List (Str × Nat)} {fi : DTI} {g : DTG} {t : DTT} {fe : DTE} {js : List Nat} (hc : X.calm = true) (hN : X.N.Nodup) (hi : DI X tg iter fi) (ok : BlkOk X.N X.env.scope scope own) (hj : ∀ j ∈ js, j ∈ own.map (·.2))
    (hg : ∀ (s : Shared) (H : Hp) (C : Addr) (cl : List (Str × Addr)) (fp : List Addr), DG (X.blk s H scope (compEnvC scope cl C X.env) fp) tg g js)
    (ht : ∀ (s : Shared) (H : Hp) (C : Addr) (cl : List (Str × Addr)) (fp : List Addr), DTTs (X.blk s H scope (compEnvC scope cl C X.env) fp) ifs t)
    (he : ∀ (s : Shared) (H : Hp) (C : Addr) (cl : List (Str × Addr)) (fp : List Addr), DE (X.blk s H scope (compEnvC scope cl C X.env) fp) elt fe)
    (hfs : ∀ x : Value, foldedSetIterable iter X.env x = pure x := by intro _; rfl) : DE X (.ListComp elt [⟨tg, iter, ifs, 0⟩] scope pos) (dLcM fi g t fe (own.map (·.2))) := by
  have g0 := (hg X.s_0 (fun _ => none) 0 [] []).mono
  have t0 := (ht X.s_0 (fun _ => none) 0 [] []).2
  have e0 := (he X.s_0 (fun _ => none) 0 [] []).mono
  refine ⟨PE.of (pe_lc hc hN hi.pi ok (fun s H C cl fp => PG.of (hg s H C cl fp).pg fun _ _ _ _ z => LiftGN.of (hg s H C cl fp).mono z) (fun s H C cl fp => PTs.of (ht s H C cl fp).1 fun _ _ _ z => LiftTN.of z) (fun s H C cl fp => PE.of (he s H C cl fp).pe fun _ _ _ z => LiftN.of z) hfs) fun σ H Q h => lcM_ok (Y := X) hi.mono g0 t0 e0 hj h, fun ρ M Q Q' w q => ?_⟩
  exact hi.mono _ _ _ _ (fun ds st M1 q1 => lcGo_mono (lcStep_mono g0 t0 e0) _ _ (fun a M2 q2 => w _ _ q2) ds [] M1 q1) q
end
end DL
namespace DL
open PySem PySem.Spec PyProof.Rows L2
theorem itemsOf_tup (ds : List D) (M : Sto) : itemsOf (.tup ds) M = some ds := rfl
theorem itemsOf_lst (ds : List D) (M : Sto) : itemsOf (.lst ds) M = some ds := rfl
theorem itemsOf_ref (n : Nat) (M : Sto) : itemsOf (.ref n) M = match M[n]? with
    | some (.lst ds) => some ds
    | _ => none := rfl
theorem seqOf_lst (ds : List D) (M : Sto) : seqOf (.lst ds) M = some ds := rfl
theorem seqOf_ref (n : Nat) (M : Sto) : seqOf (.ref n) M = match M[n]? with
    | some (.lst ds) => some ds
    | _ => none := rfl
theorem lenOf_tup (ds : List D) (M : Sto) : lenOf (.tup ds) M = some ds.length := rfl
theorem lenOf_lst (ds : List D) (M : Sto) : lenOf (.lst ds) M = some ds.length := rfl
theorem lenOf_ref (n : Nat) (M : Sto) : lenOf (.ref n) M = match M[n]? with
    | some (.lst ds) => some ds.length
    | _ => none := by
  show (match (match M[n]? with | some (.lst ds) => some ds | _ => none) with | some ds => some ds.length | none => none) = _
  cases M[n]? with
  | none => rfl
  | some c => cases c <;> rfl
theorem atI_0 {α : Type} (x : α) (xs : List α) : atI (x :: xs) 0 = some x := atI_nat (xs := x :: xs) (j := 0) rfl
theorem atI_1 {α : Type} (x y : α) (xs : List α) : atI (x :: y :: xs) 1 = some y := atI_nat (xs := x :: y :: xs) (j := 1) rfl
theorem atI_2 {α : Type} (x y z : α) (xs : List α) : atI (x :: y :: z :: xs) 2 = some z := atI_nat (xs := x :: y :: z :: xs) (j := 2) rfl
theorem atI_3 {α : Type} (x y z u : α) (xs : List α) : atI (x :: y :: z :: u :: xs) 3 = some u := atI_nat (xs := x :: y :: z :: u :: xs) (j := 3) rfl
theorem ixN_0 (n : Nat) : ixN (n + 1) 0 = some 0 := by unfold ixN; rw [if_pos (by decide), if_pos (by omega)]; rfl
theorem ixN_1 (n : Nat) : ixN (n + 1 + 1) 1 = some 1 := by unfold ixN; rw [if_pos (by decide), if_pos (by omega)]; rfl
/-- an item at an index that is known to lie within -/
theorem atI_of {α : Type} {xs : List α} {i : Int} {j : Nat} {x : α} (e : i = (j : Int)) (h : xs[j]? = some x) : atI xs i = some x := by rw [e]; exact atI_nat h
theorem ixN_of {n : Nat} {i : Int} (h0 : 0 ≤ i) (h1 : i < n) : ixN n i = some i.toNat := by unfold ixN; rw [if_pos h0, if_pos h1]
theorem atI_ints {ns : List Int} {i : Int} (h0 : 0 ≤ i) (h1 : i < ns.length) : ∃ x, x ∈ ns ∧ ns[i.toNat]? = some x ∧ atI (ns.map D.int) i = some (.int x) := by
  have hl : i.toNat < ns.length := by omega
  refine ⟨ns[i.toNat], List.getElem_mem hl, List.getElem?_eq_getElem hl, ?_⟩
  refine atI_of (j := i.toNat) (by omega) ?_
  rw [List.getElem?_map, List.getElem?_eq_getElem hl]
  rfl
theorem ite_dec {p : Prop} [Decidable p] {A B : Prop} (h1 : p → A) (h2 : ¬ p → B) : if decide p = true then A else B := by
  by_cases h : p
  · rw [if_pos (decide_eq_true h)]; exact h1 h
  · rw [if_neg (by rw [decide_eq_false h]; decide)]; exact h2 h
theorem ite_no {p : Prop} [Decidable p] {A B : Prop} (h : ¬ p) (b : B) : if decide p = true then A else B := by rw [if_neg (by rw [decide_eq_false h]; decide)]; exact b
def forI (st : Sto → Prop) (g : DTG) (body : DTS) (ds : List D) (E : DEnds) (ρ : Dn) (M : Sto) : Prop := ∃ I : List D → List D → Dn → Sto → Prop, I [] ds ρ M ∧ (∀ done todo ρ M, I done todo ρ M → st M) ∧
  (∀ done d todo ρ M, I done (d :: todo) ρ M → g d ρ M fun ρ1 M1 => body { nx := fun ρ2 M2 => I (done ++ [d]) todo ρ2 M2, rt := E.rt, bk := E.nx, ct := fun ρ2 M2 => I (done ++ [d]) todo ρ2 M2 } ρ1 M1) ∧ ∀ done ρ M, I done [] ρ M → E.nx ρ M
theorem for_go {st : Sto → Prop} {g : DTG} {body : DTS} {E : DEnds} {I : List D → List D → Dn → Sto → Prop} (hst : ∀ done todo ρ M, I done todo ρ M → st M)
      (step : ∀ done d todo ρ M, I done (d :: todo) ρ M → g d ρ M fun ρ1 M1 => body { nx := fun ρ2 M2 => I (done ++ [d]) todo ρ2 M2, rt := E.rt, bk := E.nx, ct := fun ρ2 M2 => I (done ++ [d]) todo ρ2 M2 } ρ1 M1)
      (hend : ∀ done ρ M, I done [] ρ M → E.nx ρ M) (mg : MonoG g) (mb : MonoS body) : ∀ (done todo : List D) (ρ : Dn) (M : Sto), I done todo ρ M → forGo st g body todo E ρ M
  | done, [], ρ, M, h => ⟨hst _ _ _ _ h, hend _ _ _ h⟩
  | done, d :: todo, ρ, M, h => by
    refine ⟨hst _ _ _ _ h, mg _ _ _ _ _ (fun ρ1 M1 q1 => ?_) (step done d todo ρ M h)⟩
    exact MonoS.up mb (D := { nx := fun ρ2 M2 => I (done ++ [d]) todo ρ2 M2, rt := E.rt, bk := E.nx, ct := fun ρ2 M2 => I (done ++ [d]) todo ρ2 M2 }) q1
      ⟨fun ρ2 M2 q2 => for_go hst step hend mg mb (done ++ [d]) todo ρ2 M2 q2, fun _ _ z => z, fun _ _ z => z, fun ρ2 M2 q2 => for_go hst step hend mg mb (done ++ [d]) todo ρ2 M2 q2⟩
@[reducible] def dForI (fi : DTI) (g : DTG) (body : DTS) : DTS := fun E ρ M => fi ρ M fun ds st M1 => forI st g body ds E ρ M1
theorem forI_mono {st : Sto → Prop} {g : DTG} {body : DTS} (hg : MonoG g) (hb : MonoS body) (ds : List D) : MonoS (forI st g body ds) := by
  rintro D D' ρ M w ⟨I, h0, h1, h2, h3⟩
  refine ⟨I, h0, h1, fun done d todo ρ M h => hg _ _ _ _ _ (fun ρ1 M1 q1 => ?_) (h2 done d todo ρ M h), fun done ρ M h => w.nx _ _ (h3 done ρ M h)⟩
  exact MonoS.up hb (D := { nx := fun ρ2 M2 => I (done ++ [d]) todo ρ2 M2, rt := D.rt, bk := D.nx, ct := fun ρ2 M2 => I (done ++ [d]) todo ρ2 M2 }) q1 ⟨fun _ _ z => z, w.rt, w.nx, fun _ _ z => z⟩
def lcI (st : Sto → Prop) (step : D → Sto → (Option D → Sto → Prop) → Prop) (ds : List D) (M : Sto) (Q : List D → Sto → Prop) : Prop := ∃ I : List D → List D → List D → Sto → Prop, I [] ds [] M ∧ (∀ done todo acc M, I done todo acc M → st M) ∧
  (∀ done d todo acc M, I done (d :: todo) acc M → step d M fun o M1 => match o with
      | some y => acc.length < 100000 ∧ I (done ++ [d]) todo (acc ++ [y]) M1
      | none => I (done ++ [d]) todo acc M1) ∧ ∀ done acc M, I done [] acc M → Q acc M
theorem lc_go {st : Sto → Prop} {step : D → Sto → (Option D → Sto → Prop) → Prop} {Q : List D → Sto → Prop} {I : List D → List D → List D → Sto → Prop} (hst : ∀ done todo acc M, I done todo acc M → st M)
    (hs : ∀ done d todo acc M, I done (d :: todo) acc M → step d M fun o M1 => match o with
      | some y => acc.length < 100000 ∧ I (done ++ [d]) todo (acc ++ [y]) M1
      | none => I (done ++ [d]) todo acc M1)
    (hm : ∀ d M (k k' : Option D → Sto → Prop), (∀ o M, k o M → k' o M) → step d M k → step d M k') (hend : ∀ done acc M, I done [] acc M → Q acc M) :
    ∀ (done todo acc : List D) (M : Sto), I done todo acc M → lcGo st step todo acc M Q
  | done, [], acc, M, h => ⟨hst _ _ _ _ h, hend _ _ _ h⟩
  | done, d :: todo, acc, M, h => ⟨hst _ _ _ _ h, hm _ _ _ _ (fun o M1 q => by
    cases o with
    | none => exact lc_go hst hs hm hend (done ++ [d]) todo acc M1 q
    | some y => exact ⟨q.1, lc_go hst hs hm hend (done ++ [d]) todo (acc ++ [y]) M1 q.2⟩) (hs done d todo acc M h)⟩
theorem lcI_go {st : Sto → Prop} {step : D → Sto → (Option D → Sto → Prop) → Prop} {ds : List D} {M : Sto} {Q : List D → Sto → Prop} (hm : ∀ d M (k k' : Option D → Sto → Prop), (∀ o M, k o M → k' o M) → step d M k → step d M k') (h : lcI st step ds M Q) : lcGo st step ds [] M Q :=
  let ⟨I, h0, h1, h2, h3⟩ := h
  lc_go (I := I) h1 h2 hm h3 [] ds [] M h0
@[reducible] def dLcI (fi : DTI) (g : DTG) (t : DTT) (fe : DTE) (vs : List Nat) : DTE := fun ρ M Q => fi ρ M fun ds st M1 => lcI st (lcStep ρ vs g t fe) ds M1 fun acc M2 => Q (.lst acc) M2
@[reducible] def dLcMI (fi : DTI) (g : DTG) (t : DTT) (fe : DTE) (vs : List Nat) : DTE := fun ρ M Q => fi ρ M fun ds st M1 => lcI st (lcStep ρ vs g t fe) ds M1 fun acc M2 => Q (.ref M2.length) (M2 ++ [Cell.lst acc])
section
variable {X : Cx} {pos : Pos}
theorem DE.weak {e : Expr} {f f' : DTE} (h : DE X e f) (w : ∀ ρ M Q, f' ρ M Q → f ρ M Q) (m : ∀ ρ M (Q Q' : DK), (∀ d M, Q d M → Q' d M) → f' ρ M Q → f' ρ M Q') : DE X e f' :=
  ⟨PE.of h.pe fun σ H Q ⟨ρ, M, al, F, G, W, s, q⟩ => ⟨ρ, M, al, F, G, W, s, w _ _ _ q⟩, m⟩
theorem DS.weak {e : Stmt} {f f' : DTS} (h : DS X e f) (w : ∀ E ρ M, f' E ρ M → f E ρ M) (m : MonoS f') : DS X e f' :=
  ⟨PS.of h.ps fun E σ H ⟨ρ, M, al, F, G, W, s, q⟩ => ⟨ρ, M, al, F, G, W, s, w _ _ _ q⟩, m⟩
theorem ds_forI {tg iter : Expr} {body : List Stmt} {fi : DTI} {g : DTG} {js : List Nat} {f : DTS} (hp : PassesOwn (model X.prog X.w) X.A X.env X.xe) (hc : X.calm = true) (hi : DI X tg iter fi) (hg : DG X tg g js) (hb : DSs X body f)
    (hfs : ∀ x : Value, foldedSetIterable iter X.env x = pure x := by intro _; rfl) : DS X (.For tg iter body [] pos) (dForI fi g f) :=
  (ds_for hp hc hi hg hb hfs).weak (fun E ρ M q => hi.mono _ _ _ _ (fun ds st M1 ⟨I, h0, h1, h2, h3⟩ => for_go (I := I) h1 h2 h3 hg.mono hb.mono [] ds ρ M1 h0) q)
    fun D D' ρ M w q => hi.mono _ _ _ _ (fun ds st M1 q1 => forI_mono hg.mono hb.mono ds D D' ρ M1 w q1) q
theorem d_lcI {elt tg iter : Expr} {ifs : List Expr} {scope : Scope} {own : List (Str × Nat)} {fi : DTI} {g : DTG} {t : DTT} {fe : DTE} {js : List Nat} (hc : X.calm = true) (hN : X.N.Nodup) (hi : DI X tg iter fi) (ok : BlkOk X.N X.env.scope scope own) (hj : ∀ j ∈ js, j ∈ own.map (·.2))
    (hg : ∀ (s : Shared) (H : Hp) (C : Addr) (cl : List (Str × Addr)) (fp : List Addr), DG (X.blk s H scope (compEnvC scope cl C X.env) fp) tg g js)
    (ht : ∀ (s : Shared) (H : Hp) (C : Addr) (cl : List (Str × Addr)) (fp : List Addr), DTTs (X.blk s H scope (compEnvC scope cl C X.env) fp) ifs t)
    (he : ∀ (s : Shared) (H : Hp) (C : Addr) (cl : List (Str × Addr)) (fp : List Addr), DE (X.blk s H scope (compEnvC scope cl C X.env) fp) elt fe)
    (hfs : ∀ x : Value, foldedSetIterable iter X.env x = pure x := by intro _; rfl) : DE X (.ListComp elt [⟨tg, iter, ifs, 0⟩] scope pos) (dLcI fi g t fe (own.map (·.2))) := by
  have g0 := (hg X.s_0 (fun _ => none) 0 [] []).mono
  have t0 := (ht X.s_0 (fun _ => none) 0 [] []).2
  have e0 := (he X.s_0 (fun _ => none) 0 [] []).mono
  exact (d_lc hc hN hi ok hj hg ht he hfs).weak (fun ρ M Q q => hi.mono _ _ _ _ (fun ds st M1 q1 => lcI_go (lcStep_mono g0 t0 e0) q1) q)
    fun ρ M Q Q' w q => hi.mono _ _ _ _ (fun ds st M1 ⟨I, h0, h1, h2, h3⟩ => ⟨I, h0, h1, h2, fun done acc M h => w _ _ (h3 done acc M h)⟩) q
theorem d_lcMI {elt tg iter : Expr} {ifs : List Expr} {scope : Scope} {own : List (Str × Nat)} {fi : DTI} {g : DTG} {t : DTT} {fe : DTE} {js : List Nat} (hc : X.calm = true) (hN : X.N.Nodup) (hi : DI X tg iter fi) (ok : BlkOk X.N X.env.scope scope own) (hj : ∀ j ∈ js, j ∈ own.map (·.2))
    (hg : ∀ (s : Shared) (H : Hp) (C : Addr) (cl : List (Str × Addr)) (fp : List Addr), DG (X.blk s H scope (compEnvC scope cl C X.env) fp) tg g js)
    (ht : ∀ (s : Shared) (H : Hp) (C : Addr) (cl : List (Str × Addr)) (fp : List Addr), DTTs (X.blk s H scope (compEnvC scope cl C X.env) fp) ifs t)
    (he : ∀ (s : Shared) (H : Hp) (C : Addr) (cl : List (Str × Addr)) (fp : List Addr), DE (X.blk s H scope (compEnvC scope cl C X.env) fp) elt fe)
    (hfs : ∀ x : Value, foldedSetIterable iter X.env x = pure x := by intro _; rfl) : DE X (.ListComp elt [⟨tg, iter, ifs, 0⟩] scope pos) (dLcMI fi g t fe (own.map (·.2))) := by
  have g0 := (hg X.s_0 (fun _ => none) 0 [] []).mono
  have t0 := (ht X.s_0 (fun _ => none) 0 [] []).2
  have e0 := (he X.s_0 (fun _ => none) 0 [] []).mono
  exact (d_lcM hc hN hi ok hj hg ht he hfs).weak (fun ρ M Q q => hi.mono _ _ _ _ (fun ds st M1 q1 => lcI_go (lcStep_mono g0 t0 e0) q1) q)
    fun ρ M Q Q' w q => hi.mono _ _ _ _ (fun ds st M1 ⟨I, h0, h1, h2, h3⟩ => ⟨I, h0, h1, h2, fun done acc M h => w _ _ (h3 done acc M h)⟩) q
theorem ds_setLcI {i : Nat} {y : Str} {py spos : Pos} {elt tg iter : Expr} {ifs : List Expr} {scope : Scope} {own : List (Str × Nat)} {fi : DTI} {g : DTG} {t : DTT} {fe : DTE} {js : List Nat} (hc : X.calm = true) (hN : X.N.Nodup) (hy : X.N[i]? = some y) (hl : X.env.scope.names.lookup y = some .local)
    (hsw : swapsWith (.ListComp elt [⟨tg, iter, ifs, 0⟩] scope pos) (some (.Name y py)) spos.line X.env = pure true) (hi : DI X tg iter fi) (ok : BlkOk X.N X.env.scope scope own) (hj : ∀ j ∈ js, j ∈ own.map (·.2))
    (hg : ∀ (s : Shared) (H : Hp) (C : Addr) (cl : List (Str × Addr)) (fp : List Addr), DG (X.blk s H scope (compEnvC scope cl C X.env) fp) tg g js)
    (ht : ∀ (s : Shared) (H : Hp) (C : Addr) (cl : List (Str × Addr)) (fp : List Addr), DTTs (X.blk s H scope (compEnvC scope cl C X.env) fp) ifs t)
    (he : ∀ (s : Shared) (H : Hp) (C : Addr) (cl : List (Str × Addr)) (fp : List Addr), DE (X.blk s H scope (compEnvC scope cl C X.env) fp) elt fe)
    (hfs : ∀ x : Value, foldedSetIterable iter X.env x = pure x := by intro _; rfl) : DS X (.Assign [.Name y py] (.ListComp elt [⟨tg, iter, ifs, 0⟩] scope pos) spos) (dAsg (dLcI fi g t fe (own.map (·.2))) (dgName i)) := by
  have g0 := (hg X.s_0 (fun _ => none) 0 [] []).mono
  have t0 := (ht X.s_0 (fun _ => none) 0 [] []).2
  have e0 := (he X.s_0 (fun _ => none) 0 [] []).mono
  have hd := d_lcI (pos := pos) hc hN hi ok hj hg ht he hfs
  exact (ds_setLc hc hN hy hl hsw hi ok hj hg ht he hfs).weak (fun E ρ M q => hi.mono _ _ _ _ (fun ds st M1 q1 => lcI_go (lcStep_mono g0 t0 e0) q1) q)
    fun D D' ρ M w q => hd.mono _ _ _ _ (fun d M1 q1 => w.nx _ _ q1) q
end
/-- a comprehension whose turns change nothing: element by element a function -/
theorem lc_map {st : Sto → Prop} {step : D → Sto → (Option D → Sto → Prop) → Prop} (f : D → D) {ds : List D} {M : Sto} {Q : List D → Sto → Prop} (hst : st M) (hl : ds.length ≤ 100000) (hs : ∀ d ∈ ds, ∀ k : Option D → Sto → Prop, k (some (f d)) M → step d M k) (q : Q (ds.map f) M) : lcI st step ds M Q := by
  refine ⟨fun done todo acc M' => M' = M ∧ acc = done.map f ∧ done ++ todo = ds, ⟨rfl, rfl, rfl⟩, ?_, ?_, ?_⟩
  · rintro done todo acc M' ⟨rfl, _⟩
    exact hst
  · rintro done d todo acc M' ⟨rfl, rfl, e⟩
    refine hs d (by rw [← e]; simp) _ ⟨?_, rfl, by rw [List.map_append]; rfl, by rw [← e]; simp⟩
    rw [← e, List.length_append, List.length_cons] at hl
    rw [List.length_map]
    omega
  · rintro done acc M' ⟨rfl, rfl, e⟩
    rw [List.append_nil] at e
    rw [e]
    exact q
theorem rng_mid {lo : Int} {n : Nat} {done todo : List D} {d : D} (e : done ++ d :: todo = rng lo n) : d = .int (lo + done.length) ∧ done.length < n := by
  have h : (rng lo n)[done.length]? = some d := by rw [← e, List.getElem?_append_right (Nat.le_refl _)]; simp
  rw [rng_get] at h
  split at h
  · next hl => exact ⟨(Option.some.inj h).symm, hl⟩
  · cases h
theorem rng_length (lo : Int) (n : Nat) : (rng lo n).length = n := by unfold rng; rw [List.length_map, List.length_range]
theorem rng_mem {lo : Int} {n : Nat} {d : D} (h : d ∈ rng lo n) : ∃ i, i < n ∧ d = .int (lo + i) := by
  unfold rng at h
  obtain ⟨i, hi, rfl⟩ := List.mem_map.mp h
  exact ⟨i, List.mem_range.mp hi, rfl⟩
theorem cut_map {α β : Type} (f : α → β) (xs : List α) (lo hi : Option Int) : cut (xs.map f) lo hi = (cut xs lo hi).map f := by
  unfold cut
  rw [List.length_map, List.map_take, List.map_drop]
theorem cut_len {α : Type} (xs : List α) (lo hi : Option Int) : (cut xs lo hi).length ≤ xs.length := by
  unfold cut
  rw [List.length_take, List.length_drop]
  omega
/-- data without places: n bounds the signs of its text, h its depth -/
inductive Sh : Nat → Nat → D → Prop
  | non : Sh 4 0 .non
  | bl (b : Bool) : Sh 5 0 (.bl b)
  | int {i : Int} (h : i.natAbs < 10 ^ 12) : Sh 13 0 (.int i)
  | intB {i : Int} {n : Nat} (h : i.natAbs.log2 < 1920) (hn : (PyData.shown (.int i)).length ≤ n) : Sh n 0 (.int i)
  | str {x : Str} {n : Nat} (h : (reprText x).length ≤ n) : Sh n 0 (.str x)
  | tup {n h m : Nat} {ds : List D} (hd : ∀ d ∈ ds, Sh n h d) (hl : ds.length ≤ m) : Sh (m * (n + 2) + 3) (h + 1) (.tup ds)
  | lst {n h m : Nat} {ds : List D} (hd : ∀ d ∈ ds, Sh n h d) (hl : ds.length ≤ m) : Sh (m * (n + 2) + 3) (h + 1) (.lst ds)
  | up {n h n' h' : Nat} {d : D} (s : Sh n h d) (hn : n ≤ n') (hh : h ≤ h') : Sh n' h' d
structure ShOk (n h : Nat) (d : D) : Prop where
  pu : DL.pu d = true
  showable : (toPy d).showable = true
  depth : (toPy d).depth ≤ h
  len : (toPy d).shown.length ≤ n
theorem shAll {n h : Nat} : ∀ {ds : List D}, (∀ d ∈ ds, ShOk n h d) → DL.pus ds = true ∧ PyData.showableAll (toPys ds) = true ∧ PyData.depthAll (toPys ds) ≤ h ∧ ((PyData.shownAll (toPys ds)).map (·.length)).sum ≤ ds.length * n ∧ (PyData.shownAll (toPys ds)).length = ds.length
  | [], _ => ⟨rfl, rfl, Nat.zero_le _, Nat.zero_le _, rfl⟩
  | d :: ds, hd => by
    obtain ⟨a1, a2, a3, a4⟩ := hd d List.mem_cons_self
    obtain ⟨b1, b2, b3, b4, b5⟩ := shAll (ds := ds) fun x hx => hd x (List.mem_cons_of_mem _ hx)
    refine ⟨?_, ?_, ?_, ?_, ?_⟩
    · show (DL.pu d && DL.pus ds) = true
      rw [a1, b1]; rfl
    · show (PyData.showable (toPy d) && PyData.showableAll (toPys ds)) = true
      rw [a2, b2]; rfl
    · show max (PyData.depth (toPy d)) (PyData.depthAll (toPys ds)) ≤ h
      exact Nat.max_le.mpr ⟨a3, b3⟩
    · show (PyData.shown (toPy d)).length + ((PyData.shownAll (toPys ds)).map (·.length)).sum ≤ (ds.length + 1) * n
      rw [Nat.add_mul]
      omega
    · show (PyData.shownAll (toPys ds)).length + 1 = ds.length + 1
      rw [b5]
theorem Sh.ok' {n h : Nat} {d : D} (s : Sh n h d) : ShOk n h d := by
  induction s with
  | non => exact ⟨rfl, rfl, Nat.le_refl _, by decide +kernel⟩
  | bl b => exact ⟨rfl, rfl, Nat.zero_le _, by cases b <;> decide +kernel⟩
  | @int i h =>
    refine ⟨rfl, ?_, Nat.zero_le _, PyData.shown_int_le h⟩
    show decide _ = true
    refine decide_eq_true ?_
    by_cases h0 : i.natAbs = 0
    · rw [h0]; decide
    · exact Nat.lt_of_lt_of_le ((Nat.log2_lt h0).mpr (Nat.lt_of_lt_of_le h (by decide : 10 ^ 12 ≤ 2 ^ 40))) (by decide)
  | intB h hn => exact ⟨rfl, decide_eq_true h, Nat.zero_le _, hn⟩
  | str h => exact ⟨rfl, rfl, Nat.zero_le _, h⟩
  | @tup n h m ds hd hl ih =>
    obtain ⟨b1, b2, b3, b4, b5⟩ := shAll ih
    refine ⟨b1, b2, Nat.succ_le_succ b3, ?_⟩
    show (tupleText (PyData.shownAll (toPys ds))).length ≤ _
    refine Nat.le_trans (tupleText_len_le _) ?_
    rw [b5, Nat.mul_add]
    have := Nat.mul_le_mul_right n hl
    omega
  | @lst n h m ds hd hl ih =>
    obtain ⟨b1, b2, b3, b4, b5⟩ := shAll ih
    refine ⟨b1, b2, Nat.succ_le_succ b3, ?_⟩
    show (listText (PyData.shownAll (toPys ds))).length ≤ _
    refine Nat.le_trans (listText_len_le _) ?_
    rw [b5, Nat.mul_add]
    have := Nat.mul_le_mul_right n hl
    omega
  | up s hn hh ih => exact ⟨ih.pu, ih.showable, Nat.le_trans ih.depth hh, Nat.le_trans ih.len hn⟩
theorem Sh.vw {n h : Nat} {d : D} (s : Sh n h d) (M : Sto) : DL.vw d M = d := by
  have := s.ok'.pu
  cases d <;> first | rfl | (cases this)
theorem Sh.ok {n h : Nat} {d : D} (s : Sh n h d) (hn : n ≤ 16000000) (hh : h ≤ 60) (M : Sto) : showOk d M := by
  unfold showOk
  rw [s.vw M]
  exact ⟨s.ok'.pu, s.ok'.showable, Nat.le_trans s.ok'.depth hh, Nat.le_trans s.ok'.len (Nat.le_trans hn (by decide))⟩
theorem get_new (M : Sto) (c : Cell) : (M ++ [c])[M.length]? = some c := by rw [List.getElem?_append_right (Nat.le_refl _)]; simp
theorem get_new1 (M : Sto) (a b : Cell) : (M ++ [a] ++ [b])[M.length]? = some a := by rw [List.getElem?_append_left (by simp), get_new]
theorem set_new (M : Sto) (c d : Cell) : (M ++ [c]).set M.length d = M ++ [d] := by rw [List.set_append_right _ _ (Nat.le_refl _)]; simp
theorem set_new1 (M : Sto) (a b d : Cell) : (M ++ [a] ++ [b]).set M.length d = M ++ [d] ++ [b] := by rw [List.set_append_left _ _ (by simp), set_new]
theorem atI_back {α : Type} (xs : List α) (x : α) : atI (xs ++ [x]) (-1) = some x := atI_last xs x
theorem atI_back2 {α : Type} (xs : List α) (x y : α) : atI (xs ++ [x] ++ [y]) (-2) = some x := by
  unfold atI ixN
  rw [if_neg (by omega), if_pos (by simp; omega)]
  have e : (-2 + ((xs ++ [x] ++ [y]).length : Int)).toNat = xs.length := by simp; omega
  show (xs ++ [x] ++ [y])[(-2 + ((xs ++ [x] ++ [y]).length : Int)).toNat]? = some x
  rw [e, List.getElem?_append_left (by simp), List.getElem?_append_right (Nat.le_refl _)]
  simp
theorem fm_range {α : Type} (xs : List α) : ∀ m : Nat, (List.range m).filterMap (xs[·]?) = xs.take m
  | 0 => by simp
  | m + 1 => by
    rw [List.range_succ, List.filterMap_append, fm_range xs m, List.take_add_one]
    congr 1
/-- [-2::-1] of a list that isn't empty: all but the last, backwards -/
theorem pick_back2 {α : Type} (xs : List α) (h : xs ≠ []) : pick xs (some (-2)) none (some (-1)) = xs.dropLast.reverse := by
  have hn : 0 < xs.length := List.length_pos_iff.mpr h
  unfold pick
  have hb : sliceBounds (some (-2)) none (some (-1)) xs.length = ((xs.length : Int) - 2, -1, -1) := by
    unfold sliceBounds
    simp only [Option.getD_some]
    rw [if_neg (by decide), if_pos (by decide), if_neg (by decide)]
    refine Prod.ext ?_ rfl
    show max (-1) (min (-2 + (xs.length : Int)) ((xs.length : Int) - 1)) = (xs.length : Int) - 2
    omega
  rw [hb]
  have hr : sliceRange ((xs.length : Int) - 2) (-1) (-1) = (List.range (xs.length - 1)).map fun k => xs.length - 1 - 1 - k := by
    have := PySem.W.krv_sliceRange (xs.length - 1)
    rw [← this]
    congr 1
    omega
  show (sliceRange ((xs.length : Int) - 2) (-1) (-1)).filterMap (xs[·]?) = _
  rw [hr, PySem.W.krv_range, List.filterMap_reverse]
  rw [List.dropLast_eq_take, fm_range]
theorem len_snoc (M : Sto) (c : Cell) : (M ++ [c]).length = M.length + 1 := by simp
theorem get_newS (M : Sto) (a b : Cell) : (M ++ [a] ++ [b])[M.length + 1]? = some b := by rw [← len_snoc M a, get_new]
theorem set_newS (M : Sto) (a b d : Cell) : (M ++ [a] ++ [b]).set (M.length + 1) d = M ++ [a] ++ [d] := by rw [← len_snoc M a, set_new]
theorem See.drop2 {Q : DK} {d : D} {M : Sto} {a b : Cell} (hd : bel M.length d = true) (hb : stoBel M.length M) (h : Q d M) : See M.length Q d (M ++ [a] ++ [b]) := by
  rw [List.append_assoc]
  exact See.drop hd hb h
theorem bels_of {n : Nat} : ∀ {ds : List D}, (∀ d ∈ ds, bel n d = true) → bels n ds = true
  | [], _ => rfl
  | d :: ds, h => by
    show (bel n d && bels n ds) = true
    rw [h d List.mem_cons_self, bels_of fun x hx => h x (List.mem_cons_of_mem _ hx)]
    rfl
theorem two_back {α : Type} {xs : List α} (h : 1 < xs.length) : ∃ r x y, xs = r ++ [x] ++ [y] := by
  have h0 : xs ≠ [] := by intro e; rw [e] at h; simp at h
  have h1 : xs.dropLast ≠ [] := by
    intro e
    have := congrArg List.length e
    rw [List.length_dropLast] at this
    simp at this
    omega
  exact ⟨xs.dropLast.dropLast, xs.dropLast.getLast h1, xs.getLast h0, by rw [List.dropLast_concat_getLast, List.dropLast_concat_getLast]⟩
theorem rng_two : rng 0 2 = [.int 0, .int 1] := rfl
/-- all but the tables (ahead of the law) -/
def offT (H : Hp) : Hp := fun b => match H b with
  | some (.tbl _) => none
  | o => o
theorem offT_of {H : Hp} {b : Addr} {o : HO} (h : offT H b = some o) : H b = some o := by
  unfold offT at h
  split at h
  · cases h
  · exact h
theorem offT_eq {H : Hp} {b : Addr} {o : HO} (h : H b = some o) (n : ∀ ps, o ≠ .tbl ps) : offT H b = some o := by
  unfold offT
  rw [h]
  cases o <;> first | rfl | exact (n _ rfl).elim
theorem scr_start {K : PySem.W.Frag} {H : Hp} {a : Addr} {ns : List Int} {ds : DSp} {E : XK} (hT : ∀ p ∈ Tk K, H p.1 = some (.tbl #[])) (hS : SqL K H a (ns.map V.int)) (h : ∀ Q : DK, (∀ M, Q (.bl true) M) → ∀ E', ds [.scr ns] [] Q E') : spOf K ds [.ref a] H (fun v _ => v = .bl true) E := by
  have hS' : SqL K (offT H) a (ns.map V.int) := by
    rcases hS with (h | ⟨o, h⟩) | h
    · exact .inl (.inl (offT_eq h fun _ z => by cases z))
    · exact .inl (.inr ⟨o, offT_eq h fun _ z => by cases z⟩)
    · exact .inr h
  refine ⟨[.scr ns], [], [], offT H, fun _ => none, ⟨fun _ _ e => offT_of e, (fun _ _ e => by cases e), (fun _ _ e => by cases e), rfl, List.nodup_nil, (fun _ h => (List.not_mem_nil h).elim), (fun n c a e _ => by simp at e), fun p hp => ⟨⟨#[], hT p hp, trivial, fun pos cv hc => ?_⟩, ?_, rfl, List.not_mem_nil⟩⟩, .cons (.scr hS') .nil, h _ (fun M al' F' H' v _ _ r => by cases r; rfl) _⟩
  · have z : codeAmong pos [] = some cv := hc
    simp [codeAmong] at z
  · unfold offT
    rw [hT p hp]
theorem lc_rng {st : Sto → Prop} {step : D → Sto → (Option D → Sto → Prop) → Prop} (f : Nat → D) {n : Nat} {M : Sto} {Q : List D → Sto → Prop} (hst : st M) (hn : n ≤ 100000) (hs : ∀ j : Nat, j < n → ∀ k : Option D → Sto → Prop, k (some (f j)) M → step (.int (j : Int)) M k) (q : Q ((List.range n).map f) M) : lcI st step (rng 0 n) M Q := by
  refine lc_map (fun d => match d with | .int z => f z.toNat | d => d) hst (by rw [rng_length]; exact hn) (fun d hd kk hk => ?_) ?_
  · obtain ⟨j, hj, rfl⟩ := rng_mem hd
    have e : (0 + (j : Int)).toNat = j := by omega
    rw [Int.zero_add]
    have hk' : kk (some (f (0 + (j : Int)).toNat)) M := hk
    rw [e] at hk'
    exact hs j hj kk hk'
  · have e : (rng 0 n).map (fun d => match d with | .int z => f z.toNat | d => d) = (List.range n).map f := by
      unfold rng
      rw [List.map_map]
      apply List.map_congr_left
      intro j _
      show f (0 + (j : Int)).toNat = f j
      rw [show (0 + (j : Int)).toNat = j by omega]
    rw [e]
    exact q
end DL
namespace DL
open PySem PySem.Spec PyProof.Rows L2
/-- the tuple at a, each item in a new pair with its count -/
def IteT (K : PySem.W.Frag) (a : Addr) (k : Int) : It :=
  ⟨fun i H => ∃ (xs : List V) (x : V), SqT K H a xs ∧ xs[i]? = some x,
    fun i H v H' => ∃ T x, v = .ref T ∧ H T = none ∧ H' = upd H T (.tup [.int (k + (i : Int)), x]) ∧ ∀ xs, SqT K H a xs → xs[i]? = some x,
    fun i H => ∃ xs : List V, SqT K H a xs ∧ xs.length ≤ i⟩
theorem turn_enumT {P : Program} {w : World} {K : PySem.W.Frag} {elts : List Expr} {kk : Nat} {tpos : Pos} (a e it : Addr) (k : Int) :
    Turn P w K (.Tuple elts kk tpos) (IteT K a k) [e, it] e (fun i h => (∃ old, IsEnum h e it (k + (i : Int)) old) ∧ h.IsTupleIter it a i ∧ e ≠ it ∧ a ≠ it ∧ a ≠ e) where
  mem := by simp
  obj := fun i h ⟨⟨old, he⟩, ⟨o, ho, hc, hd⟩, _⟩ b hb => by
    rcases List.mem_cons.mp hb with z | z
    · exact z ▸ ⟨_, he, fun v q => nomatch q⟩
    · rw [List.mem_singleton.mp z]; exact ⟨o, ho, fun v q => by rw [hd] at q; cases q⟩
  keep := fun i h h' ⟨⟨old, he⟩, hi, hne⟩ kp => ⟨⟨old, kp e (by simp) _ he⟩, hi.at fun o q => kp it (by simp) o q, hne⟩
  item := by
    intro X hP hw hK hc i pins s σ H E I hf ⟨⟨old, he⟩, hit, hne, hai, hae⟩ ⟨xs, x, hq, hx⟩
    subst hP hw hK
    obtain ⟨its, rv, p, hz⟩ := I.tuple hq
    obtain ⟨u, hu, ru⟩ := rv.get hx
    have p' : s.heap.IsTuple a its.toArray := p
    have hel : e < s.heap.objs.size := Heap.lt_size he
    have hil : it < s.heap.objs.size := by
      obtain ⟨_, q, _⟩ := hit
      exact Heap.lt_size q
    have hlt : i < its.toArray.size := by
      obtain ⟨h1, _⟩ := List.getElem?_eq_some_iff.mp hu
      simpa using h1
    refine wpAny_pyNext_enum_itemC (Draws.tuple (A := X.A.in1) (I.ok.hd hc) it a hai its.toArray) he ⟨hit, p'⟩ hlt hne (by simp [hne, Ne.symm hae]) fun y h' tk hy ho ⟨hit', _⟩ hT hsz hk => ?_
    have hyu : y = u := by
      have h1 : its.toArray[i]? = some u := by simpa using hu
      rw [h1] at hy
      exact (Option.some.inj hy).symm
    subst hyu
    refine ⟨_, rfl, wpAny_letOwnedTupleGo_enum (s := { s with heap := h', toks := tk + 1 }) ho fun h'' he' sb => ?_⟩
    have hT2 : h''.get? s.heap.objs.size = some { cls := .type "tuple", data := .seq #[.int (k + (i : Int)) tk, y] } := (sb.2 _ (Nat.ne_of_gt hel)).trans hT
    have I1 : Inv X pins σ (upd H s.heap.objs.size (.tup [.int (k + (i : Int)), x])) { s with heap := h'', toks := tk + 1 } :=
      I.turnedNew (ch := [e, it]) (fun b ob hb q => by
        have hb1 : b ≠ e := fun z => hb (by simp [z])
        have hb2 : b ≠ it := fun z => hb (by simp [z])
        exact (sb.2 b hb1).trans (hk b ob hb1 hb2 q)) hf (Nat.le_refl _) ⟨by show 2 ≤ sizeLine; decide, [.int (k + (i : Int)) tk, y], .cons ⟨_, rfl⟩ (.cons ru .nil), ⟨_, hT2, rfl, _, rfl⟩⟩
    refine ⟨.ref s.heap.objs.size, _, I1, rfl, ⟨_, x, rfl, I.hok.fresh (Nat.le_refl _), rfl, fun ys hy => by rw [I.tuple_inj hy hq]; exact hx⟩, ⟨⟨y, ?_⟩, hit'.at fun o q => (sb.2 it (Ne.symm hne)).trans q, hne, hai, hae⟩, fun b hb => ?_⟩
    · rw [show k + ((i + 1 : Nat) : Int) = k + (i : Int) + 1 by omega]
      exact he'
    · have hb' : b < s.heap.objs.size := by
        rcases List.mem_cons.mp hb with z | z
        · exact z ▸ hel
        · rw [List.mem_singleton.mp z]; exact hil
      rw [upd_ne (Nat.ne_of_lt hb')]
      exact (hf b hb).1
  done := by
    intro X hP hw hK hc i pins s σ H E I hf ⟨⟨old, he⟩, hit, hne, hai, hae⟩ ⟨xs, hq, hx⟩
    subst hP hw hK
    obtain ⟨its, rv, p, hz⟩ := I.tuple hq
    obtain ⟨f0, f1, f2, f3, f4, f5⟩ := hf it (by simp)
    have hl := rv.length
    have hT : s.TypeIs (.ref e) "enumerate" := ⟨_, he, rfl⟩
    unfold pyNext
    refine wpAny_bind (wpAny_attempt (wpAny_callSpecial?_slot (name := Str.ofString "__next__") hT F.slot_enumerate_next (wpAny_call_entry F.slot_enumerate_next hT F.entry_enumerate_next ?_ (F.args_enumerate_next_1 _))))
    show wpAny _ _ (field (.ref e) 2 >>= _) _ _ _
    refine wpAny_bind (wpAny_field he rfl (x := .ref it) rfl (wpAny_bind (wpAny_nextOf_tuple_end (I.ok.hd hc) hit (show s.heap.IsTuple a its.toArray from p) (by simp; omega) fun h' x he' hx' => ?_)))
    obtain ⟨o, ho, hcc⟩ := hx'
    refine wpAny_bind (wpAny_isInstance (T := "StopIteration") (b := true) ⟨o, ho, hcc⟩ isSubtype_stop (wpAny_pure ⟨rfl, ?_⟩))
    exact I.turned (t' := s.toks) (fun b o hb q => he' b o hb q) f0 f1 f3 f4 f5
  self := fun A i s Q E ⟨⟨_, he⟩, _⟩ h => wpAny_pyIter_enum he h
set_option maxHeartbeats 1000000 in
theorem meets_enum1 {v : Value} {o : Obj} {H : Heap → Prop} (B : Begins v o H) :
    Meets (Builtin.«enumerate.__new__» ⟨[.type "enumerate", v], []⟩) (fun _ R s => H s.heap ∧
      R (.ok (.ret (.ref (s.heap.push o).objs.size))) { s with heap := (s.heap.push o).push { cls := .type "enumerate", data := .fields #[.none, .bool false, .ref s.heap.objs.size, rawInt 0, .none, .none] } }) :=
  .of_wp fun prog w A R s h => by
    obtain ⟨hp, g, d, tk, os⟩ := s
    obtain ⟨h1, h⟩ := h
    have hsub := sub_enumerate
    have q1 : ∀ {A' : Around} {E : Value → Shared → Prop} {Q : Value → Shared → Prop}, Q (.ref hp.objs.size) ⟨hp.push o, g, d, tk, os⟩ → wpAny (model prog w) A' (pyIter v) Q E ⟨hp, g, d, tk, os⟩ := fun q => B.iter prog w _ _ ⟨hp, g, d, tk, os⟩ _ h1 q
    wp_walk using q1
    refine wpAny_stack_any fun st => wpAny_pure ?_
    split
    · rename_i c _ _ _ _ _
      cases (c == Value.type "enumerate") <;> (wp_walk using q1; exact ⟨_, rfl, h⟩)
    · wp_walk using q1
      exact ⟨_, rfl, h⟩
theorem enum1_begins {prog : Program} {w : World} {A : Around} {E : Value → Shared → Prop} {s : Shared} {v : Value} {o : Obj} {H : Heap → Prop} {Q : Value → Shared → Prop} (B : Begins v o H) (h1 : H s.heap)
    (h : ∀ h', IsEnum h' (s.heap.objs.size + 1) s.heap.objs.size 0 .none → h'.get? s.heap.objs.size = some o → (∀ b o, s.heap.get? b = some o → h'.get? b = some o) → Q (.ref (s.heap.objs.size + 1)) { s with heap := h' }) :
    wpAny (model prog w) A (call (.type "enumerate") [v]) Q E s := by
  refine callType_new F.called_enumerate (by decide) (F.typeCall_enumerate_1 _) (F.newCall_enumerate_1 _) (fun obj => F.args_object_init_2 obj _) F.entry_enumerate_new (meets_enum1 B) ⟨h1, ?_⟩
  have hz : (s.heap.push o).objs.size = s.heap.objs.size + 1 := Heap.size_push ..
  show _ ∧ _
  rw [hz]
  have he := Heap.get?_push_size (s.heap.push o) (o := { cls := .type "enumerate", data := .fields #[.none, .bool false, .ref s.heap.objs.size, rawInt 0, .none, .none] }) rfl
  rw [hz] at he
  exact ⟨⟨_, he, rfl⟩, h _ he (Heap.get?_push_of_some _ (Heap.get?_push_size _ B.free)) fun b o x => Heap.get?_push_of_some _ (Heap.get?_push_of_some _ x)⟩
def enumD (k : Int) (xs : List D) : List D := xs.mapIdx fun i x => D.tup [.int (k + (i : Int)), x]
theorem enumD_length {k : Int} {xs : List D} : (enumD k xs).length = xs.length := by unfold enumD; simp
theorem enumD_get {k : Int} {xs : List D} {i : Nat} {d : D} (h : (enumD k xs)[i]? = some d) : ∃ x, xs[i]? = some x ∧ d = .tup [.int (k + (i : Int)), x] := by
  unfold enumD at h
  rw [List.getElem?_mapIdx] at h
  cases e : xs[i]? with
  | none => rw [e] at h; cases h
  | some x => rw [e] at h; cases h; exact ⟨x, rfl, rfl⟩
section
variable {X : Cx} {a b : Expr} {fr : DTA} {pos : Pos}
theorem iteT_ok {K : PySem.W.Frag} {al : List Addr} {F G : Hp} {p : Addr} {ds : List D} {xs : List V} {st : Sto → Prop} {k : Int} (h : F p = some (.tup xs)) (rs : Rps K F al xs ds) : ItOk K (IteT K p k) (enumD k ds) st al F G := by
  intro al' F' G' H' M' e sg W hst i
  have hx := W.sm _ _ (e.sm _ _ h)
  have rs := rs.ext e
  refine ⟨fun d hd => ?_, fun hl => ⟨xs, SqT.of hx, by rw [rs.length]; rw [enumD_length] at hl; exact hl⟩⟩
  obtain ⟨x, hx1, rfl⟩ := enumD_get hd
  obtain ⟨v, h1, h2⟩ := rs.get hx1
  refine ⟨⟨xs, v, SqT.of hx, h1⟩, fun z H'' hy => ?_⟩
  obtain ⟨T, u, rfl, nT, rfl, f⟩ := hy
  have q2 := it_of rs hx1 (f _ (SqT.of hx))
  obtain ⟨W1, e1⟩ := W.newF (o := .tup [.int (k + (i : Int)), u]) nT
  exact ⟨_, e1.sm, W1, .tup upd_same (.cons (.int _) (.cons (q2.ext e1) .nil))⟩
theorem ite_ok {K : PySem.W.Frag} {al : List Addr} {F G : Hp} {p : Addr} {ds : List D} {st : Sto → Prop} (h : ∀ al' F' G' H' M', Ext al F al' F' → Sm G G' → Wd K al' F' G' H' M' → st M' → ∃ xs, H' p = some (.lst xs) ∧ Rps K F' al' xs ds) : ItOk K (Ite K p) (enumD 0 ds) st al F G := by
  intro al' F' G' H' M' e sg W hst i
  obtain ⟨xs, hx, rs⟩ := h al' F' G' H' M' e sg W hst
  refine ⟨fun d hd => ?_, fun hl => ⟨xs, SqL.of hx, by rw [rs.length]; rw [enumD_length] at hl; exact hl⟩⟩
  obtain ⟨x, hx1, rfl⟩ := enumD_get hd
  obtain ⟨v, h1, h2⟩ := rs.get hx1
  refine ⟨⟨xs, v, SqL.of hx, h1⟩, fun z H'' hy => ?_⟩
  obtain ⟨T, u, rfl, nT, rfl, f⟩ := hy
  have q2 := it_of rs hx1 (f _ (SqL.of hx))
  obtain ⟨W1, e1⟩ := W.newF (o := .tup [.int ((i : Nat) : Int), u]) nT
  refine ⟨_, e1.sm, W1, .tup upd_same (.cons ?_ (.cons (q2.ext e1) .nil))⟩
  rw [Int.zero_add]
  exact .int _
@[reducible] def diEnum (fr : DTA) : DTI := fun ρ M R => fr ρ M fun ds M1 => match ds with
  | [.tup xs] => R (enumD 0 xs) stYes M1
  | [.lst xs] => R (enumD 0 xs) stYes M1
  | _ => False
theorem di_enum {p tpos : Pos} {elts : List Expr} {kk : Nat} (hg : Gl X "enumerate") (hm : X.mg "enumerate" = none) (h : DA X [a] fr) (hs : starEach [a] X.env = [(false, eval a X.env)] := by rfl) :
    DI X (.Tuple elts kk tpos) (.Call (.Name "enumerate" p) [a] [] pos) (diEnum fr) := by
  refine ⟨⟨fun pins s σ H R I q => ?_⟩, fun ρ M Q Q' w q => h.mono _ _ _ _ (fun ds M1 q1 => ?_) q⟩
  · obtain ⟨ρ, M, al, F, G, W, es, q⟩ := q
    have hl : LiftA X fr σ H (fun vs H1 => ∃ p, vs = [.ref p] ∧ ((∃ xs, SqL X.K H1 p xs ∧ R (Ite X.K p) H1) ∨ (∃ xs, SqT X.K H1 p xs ∧ R (IteT X.K p 0) H1))) := h.seq W es q fun ds M1 al1 F1 H1 vs q1 e1 W1 r1 s1 => by
      split at q1
      · cases r1 with
        | cons a1 b1 =>
          cases b1
          cases a1 with
          | tup c1 d1 => exact ⟨_, rfl, .inr ⟨_, SqT.of (W1.sm _ _ c1), q1 al1 F1 H1 _ e1 W1 (iteT_ok c1 d1)⟩⟩
      · cases r1 with
        | cons a1 b1 =>
          cases b1
          cases a1 with
          | lst c1 d1 => exact ⟨_, rfl, .inl ⟨_, SqL.of (W1.sm _ _ c1), q1 al1 F1 H1 _ e1 W1 (ite_ok fun al' F' G' H' M' e sg W' _ => ⟨_, W'.sm _ _ (e.sm _ _ c1), d1.ext e⟩)⟩⟩
      · exact q1.elim
    refine Call_ (ld_blt I hg hm boot_enumerate (PyProof.Rows.callWith_type1 (thn (h.pa.run pos pins s σ H _ I hl) fun us s1 ⟨vs, H1, I1, r1, q1⟩ => ?_) hs rfl))
    obtain ⟨a, rfl, q1⟩ := q1
    cases r1 with
    | cons r rr =>
      cases rr
      cases r
      have go : ∀ b ∈ [s1.heap.objs.size + 1, s1.heap.objs.size], s1.heap.objs.size ≤ b := fun b hb => by
        have e' : b = s1.heap.objs.size + 1 ∨ b = s1.heap.objs.size := by simpa using hb
        omega
      rcases q1 with ⟨xs, hq, q⟩ | ⟨xs, hq, q⟩
      · obtain ⟨its, rv, p', hz⟩ := I1.list hq
        refine call_enumerate_list p'.isList fun h' he hit hsz hk => wpAny_pyIter_enum he ?_
        exact ⟨_, [s1.heap.objs.size + 1, s1.heap.objs.size], _, _, H1, rfl, I1.kept (t' := s1.toks) hk, turn_enum a _ s1.heap.objs.size, ⟨⟨.none, he⟩, hit, Nat.succ_ne_self _⟩, fun b hb => I1.fpOk (go b hb) (I1.hok.fresh (go b hb)), q⟩
      · obtain ⟨its, rv, p', hz⟩ := I1.tuple hq
        have p2 : s1.heap.IsTuple a its.toArray := p'
        have hal : a < s1.heap.objs.size := by
          obtain ⟨o, ho, _⟩ := p2
          exact Heap.lt_size ho
        refine enum1_begins (begins_tuple a its.toArray) p2 fun h' he hit hk => wpAny_pyIter_enum he ?_
        exact ⟨_, [s1.heap.objs.size + 1, s1.heap.objs.size], _, _, H1, rfl, I1.kept (t' := s1.toks) hk, turn_enumT a _ s1.heap.objs.size 0, ⟨⟨.none, he⟩, ⟨_, hit, rfl, rfl⟩, Nat.succ_ne_self _, Nat.ne_of_lt hal, Nat.ne_of_lt (Nat.lt_succ_of_lt hal)⟩, fun b hb => I1.fpOk (go b hb) (I1.hok.fresh (go b hb)), q⟩
  · try dsimp only at q1 ⊢
    split at q1
    · exact w _ _ _ q1
    · exact w _ _ _ q1
    · exact q1.elim
@[reducible] def diEnum2 (fr : DTA) : DTI := fun ρ M R => fr ρ M fun ds M1 => match ds with
  | [.tup xs, .int k] => (-(2 ^ 62) ≤ k ∧ k < 2 ^ 62) ∧ R (enumD k xs) stYes M1
  | _ => False
end
end DL
set_option maxHeartbeats 1000000
namespace DL
open PySem PySem.Spec PyProof.Rows L2
open PySem.AutoSeq1 (wpAny_loadPart')
theorem tuple_once (l : Addr) (items : Array Value) (n : Nat) (dd : Option Addr) (sl : Array (Option Value)) (u : Tok) :
    Meets (Builtin.«tuple.__mul__» ⟨[.ref l, .int 1 u], []⟩) (fun _ R s => s.heap.get? l = some { cls := .type "tuple", dict := dd, data := .seq items n, slots := sl } ∧ R (.ok (.ret (Value.ref l))) s) :=
  .of_wp fun prog w A R s ⟨hl, h⟩ => by
    obtain ⟨hp, g, d, tk, os⟩ := s
    have f1 := AutoSeq1.idx_int
    have c1 : (items.isEmpty || (1 : Int) == 1) = true := by simp
    wp_walk using wpAny_loadPart' hl
    exact ⟨_, rfl, h⟩
def rOnce (K : PySem.W.Frag) : R2 := fun x y H Q => ∃ l xs, x = .ref l ∧ y = .int 1 ∧ SqT K H l xs ∧ Q (.ref l) H
section
variable {X : Cx} {a b c : Expr} {fa fb fc : DTE} {pos : Pos} {ta tb : DTT} {es : List Expr} {fr : DTA}
theorem op_once : OpR X (binaryOp .Mult) (rOnce X.K) := by
  intro pins s σ H x y v u Q I rx ry ⟨l, xs, ex, ey, hT, q⟩
  subst ex ey
  cases rx
  obtain ⟨t, rfl⟩ := ry
  obtain ⟨its, r, ⟨⟨cls, dd, data, sl⟩, ho, hc, n, hd⟩, hs⟩ := I.tuple hT
  simp only at hc hd
  subst hc hd
  refine wpAny_binaryOp_repeat_ref (T := "tuple") (U := "int") (by decide) ⟨_, ho, rfl⟩ (fun s' => typeIs_int s' 1 t) noFill_tuple_mul F.fills_int_mul F.slot_int_rmul repeat_tuple F.slot_int_index.lookup (call_meets F.slot_int_rmul (typeIs_int s 1 t) F.entry_int_rmul (F.args_int_rmul_2 _ _) (int_rmul_tuple 1 t l its.toArray n dd sl) ⟨ho, rfl, ⟨_, ho, rfl⟩, ?_⟩)
  exact call_meets F.slot_tuple_mul ⟨_, ho, rfl⟩ F.entry_tuple_mul (F.args_tuple_mul_2 _ _) (tuple_once l its.toArray n dd sl t) ⟨ho, ⟨.ref l, H, I, rfl, q⟩⟩
/-- * : a tuple once, too -/
@[reducible] def gMulA : G2 := fun x y M Q => match x, y with
  | .int i, .int j => CMul i j ∧ Q (.int (i * j)) M
  | .tup ds, .int k => ds ≠ [] ∧ 1 ≤ k ∧ k ≤ 1000 ∧ ds.length ≤ 1000 ∧ Q (.tup (List.replicate k.toNat ds).flatten) M
  | x, .int k => match seqOf x M with
    | some ds => 0 ≤ k ∧ k < 100000 ∧ ds.length * k.toNat ≤ 100000 ∧ Q (.lst (List.replicate k.toNat ds).flatten) M
    | none => False
  | _, _ => False
theorem gMulA_mono : Mono2 gMulA := fun x y M Q Q' w q => by
  unfold gMulA at q ⊢
  split at q
  · exact ⟨q.1, w _ _ q.2⟩
  · exact ⟨q.1, q.2.1, q.2.2.1, q.2.2.2.1, w _ _ q.2.2.2.2⟩
  · split at q
    · exact ⟨q.1, q.2.1, q.2.2.1, w _ _ q.2.2.2⟩
    · exact q.elim
  · exact q.elim
theorem o_mulA : O2 X (binaryOp .Mult) gMulA := O2.of (OpR.or op_once (OpR.or op_mul (OpR.or op_repT op_rep))) gMulA_mono fun al F G H M x y dx dy Q W r1 r2 q => by
  unfold gMulA at q
  split at q
  · cases r1; cases r2
    exact .inr (.inl ⟨_, _, rfl, rfl, q.1, kont.here q.2 W (.int _)⟩)
  · cases r2
    cases r1 with
    | tup a1 b1 =>
      have l1 := b1.length
      rename_i ds1 k xs1 p1
      by_cases hk : k = 1
      · subst hk
        refine .inl ⟨_, _, rfl, rfl, SqT.of (W.sm _ _ a1), kont.here q.2.2.2.2 W ?_⟩
        have e : (List.replicate (1 : Int).toNat ds1).flatten = ds1 := by simp
        rw [e]
        exact .tup a1 b1
      · refine .inr (.inr (.inl ⟨_, _, _, rfl, rfl, SqT.of (W.sm _ _ a1), fun z => ?_, by omega, q.2.2.1, by have := q.2.2.2.1; omega, fun p hp => kont.tup q.2.2.2.2 W (b1.rep _) hp⟩))
        subst z
        cases b1
        exact q.1 rfl
  · cases r2
    split at q
    · next e =>
      obtain ⟨p1, xs1, rfl, h1, s1⟩ := seqOf_ok W r1 e
      have l1 := s1.length
      exact .inr (.inr (.inr ⟨_, _, _, rfl, rfl, h1, by have := q.1; omega, by have := q.2.1; omega, le_line (by rw [l1]; exact q.2.2.1), fun p hp => kont.lst q.2.2.2 W (s1.rep _) hp⟩))
    · exact q.elim
  · exact q.elim
/-- o.extend(e) of a list of the store, by a list that nobody changes -/
@[reducible] def dExt (fo : DTE) (fr : DTA) : DTE := fun ρ M Q => fo ρ M fun o M1 => match o with
  | .ref n => isCell M1 n ∧ fr ρ M1 fun ys M2 => match M2[n]?, ys with
    | some (.lst ds), [.lst zs] => ds.length + zs.length ≤ 100000 ∧ Q .non (M2.set n (.lst (ds ++ zs)))
    | _, _ => False
  | _ => False
end
end DL
set_option maxHeartbeats 1000000
namespace DL
open PySem PySem.Spec PyProof.Rows L2
section
variable {X : Cx} {a b c : Expr} {fa fb fc : DTE} {pos : Pos} {ta tb : DTT} {es : List Expr} {fr : DTA}
theorem ints_at {us : List Value} {ns : List Int} (h : IntsAre us ns) : ∀ (i : Nat) (v : Value), us.toArray[i]? = some v → ∃ t, v = Value.int (ns.getD i 0) t := by
  induction h with
  | nil => intro i v e; simp at e
  | cons n t h ih =>
    intro i v e
    cases i with
    | zero => exact ⟨t, by simpa using e.symm⟩
    | succ i => exact ih i v (by simpa using e)
theorem getD_at {ns : List Int} {j : Nat} {y : Int} (hj : j < ns.length) (e : ns[j] = y) : ns.getD j 0 = y := by rw [List.getD_eq_getElem?_getD, List.getElem?_eq_getElem hj, e]; rfl
def rMinT (K : PySem.W.Frag) : List V → Hp → VK → Prop := fun vs H Q => ∃ (a : Addr) (ns : List Int), vs = [V.ref a] ∧ SqT K H a (ns.map V.int) ∧ 0 < ns.length ∧ ∀ m, m ∈ ns → (∀ y, y ∈ ns → m ≤ y) → Q (.int m) H
theorem cr_minT (hc : X.calm = true) : CallR X (.builtin "min") (rMinT X.K) := by
  intro pins s σ H vs us Q I r ⟨a, ns, ev, hs, hne, q⟩
  subst ev
  obtain ⟨its, rv, hl, _⟩ := I.tuple hs
  rw [Vals.ref1 r]
  have hl : s.heap.IsTuple a its.toArray := hl
  have hsz : its.toArray.size = ns.length := by
    have := rv.length
    rw [List.length_map] at this
    rw [List.size_toArray, this]
  have ha : a < s.heap.objs.size := by
    obtain ⟨o, ho, _⟩ := hl
    exact Heap.lt_size ho
  refine call_min_walk (wpAny_pyIter_tuple hl ⟨s.heap.objs.size, _, _, _, _, _, _, rfl, Walks.tuple (show X.A.in1.handled = none from I.ok.hd hc) s.heap.objs.size a (Nat.ne_of_lt ha) its.toArray, ⟨⟨_, Heap.get?_push_size _ rfl, rfl, rfl⟩, hl.at fun o e => Heap.get?_push_of_some _ e⟩, fun b hb => ?_, by omega, CmpOf.ints_lt (fun i => ns.getD i 0) (ints_at rv.ints), fun v h' tk hv' hk => ?_⟩)
  · show b < (s.heap.push _).objs.size
    rw [size_push']
    have : b = s.heap.objs.size ∨ b = a := by simpa using hb
    rcases this with z | z
    · rw [z]; exact Nat.lt_succ_self _
    · rw [z]; exact Nat.lt_succ_of_lt ha
  · obtain ⟨t, rfl⟩ := ints_at rv.ints _ _ hv'
    obtain ⟨m1, m2⟩ := argBest_lt (fun i => ns.getD i 0) (its.toArray.size - 1)
    refine ⟨.int _, H, I.kept (t' := tk) (fun b o e => hk b o (fun z => ?_) (Heap.get?_push_of_some _ e)), ⟨t, rfl⟩, q _ (PySem.getD_mem (by omega)) fun y hy => ?_⟩
    · rw [List.mem_singleton.mp z] at e
      exact absurd (Heap.lt_size e) (Nat.lt_irrefl _)
    · obtain ⟨j, hj, e⟩ := List.mem_iff_getElem.mp hy
      have z := m2 j (by omega)
      rw [getD_at hj e] at z
      exact z
@[reducible] def gIntsA (f : List Int → Sto → DK → Prop) : G1 := fun d M Q => match itemsOf d M with
  | some ds => match intsOf ds with
    | some ns => f ns M Q
    | none => False
  | none => False
theorem gIntsA_mono {f : List Int → Sto → DK → Prop} (h : ∀ ns M (Q Q' : DK), (∀ d M, Q d M → Q' d M) → f ns M Q → f ns M Q') : Mono1 (gIntsA f) := fun d M Q Q' w q => by
  unfold gIntsA at q ⊢
  split at q
  · split at q
    · exact h _ _ _ _ w q
    · exact q.elim
  · exact q.elim
theorem gIntsA_ok {f : List Int → Sto → DK → Prop} {K : PySem.W.Frag} {al : List Addr} {F G H : Hp} {M : Sto} {v : V} {d : D} {Q : DK} (W : Wd K al F G H M) (r : Rp K F al v d) (h : gIntsA f d M Q) : ∃ a ns, v = .ref a ∧ (SqT K H a (ns.map V.int) ∨ SqL K H a (ns.map V.int)) ∧ f ns M Q := by
  unfold gIntsA at h
  split at h
  · next ds e2 =>
    split at h
    · next ns e =>
      have e3 := intsOf_eq e
      subst e3
      obtain ⟨p1, xs1, rfl, h1, s1⟩ := itemsOf_ok W r e2
      rw [s1.ints] at h1
      rcases h1 with h1 | h1
      · exact ⟨_, ns, rfl, .inl (SqT.of h1), h⟩
      · exact ⟨_, ns, rfl, .inr (SqL.of h1), h⟩
    · exact h.elim
  · exact h.elim
theorem o_minA (hc : X.calm = true) : ON X (.builtin "min") (g1 (gIntsA fMin)) := ON.of1 (CallR.or (cr_minT hc) (cr_min hc)) (gIntsA_mono fun _ _ _ _ w q => ⟨q.1, w _ _ q.2⟩) fun al F G H M x d Q W r q => by
  obtain ⟨p, ns, rfl, h, n0, k⟩ := gIntsA_ok W r q
  have fin : ∀ m, m ∈ ns → (∀ y, y ∈ ns → m ≤ y) → _ := fun m hm hl => by rw [minI_uniq hm hl] at k; exact kont.here k W (.int _)
  rcases h with h | h
  · exact .inl ⟨p, ns, rfl, h, len_pos n0, fin⟩
  · exact .inr ⟨p, ns, rfl, h, len_pos n0, fin⟩
end
theorem map_mid {α β : Type} {f : α → β} {L : List α} {done todo : List β} {d : β} (e : done ++ d :: todo = L.map f) : ∃ x, L[done.length]? = some x ∧ d = f x ∧ done.length < L.length := by
  have h : (L.map f)[done.length]? = some d := by rw [← e, List.getElem?_append_right (Nat.le_refl _)]; simp
  rw [List.getElem?_map] at h
  cases q : L[done.length]? with
  | none => rw [q] at h; cases h
  | some x =>
    rw [q] at h
    exact ⟨x, rfl, (Option.some.inj h).symm, (List.getElem?_eq_some_iff.mp q).1⟩
theorem take_more {α : Type} {L : List α} {n : Nat} {x : α} (h : L[n]? = some x) : L.take (n + 1) = L.take n ++ [x] := by
  rw [List.take_succ, h]
  rfl
theorem map_done {α β : Type} {f : α → β} {L : List α} {done : List β} (e : done ++ [] = L.map f) : L.take done.length = L := by
  rw [List.append_nil] at e
  rw [e, List.length_map, List.take_length]
theorem enum_map {α : Type} (k : Int) (f : α → D) (L : List α) : enumD k (L.map f) = L.zipIdx.map fun q => D.tup [.int (k + (q.2 : Int)), f q.1] := by
  unfold enumD
  apply List.ext_getElem?
  intro i
  rw [List.getElem?_mapIdx, List.getElem?_map, List.getElem?_map, List.getElem?_zipIdx]
  cases L[i]? with
  | none => rfl
  | some x => simp
theorem idx_at {α : Type} {L : List α} {n : Nat} {q : α × Nat} (h : L.zipIdx[n]? = some q) : q.2 = n ∧ L[n]? = some q.1 := by
  rw [List.getElem?_zipIdx] at h
  cases e : L[n]? with
  | none => rw [e] at h; cases h
  | some x => rw [e] at h; cases h; exact ⟨by simp, rfl⟩
end DL
set_option maxHeartbeats 1000000
namespace DL
open PySem PySem.Spec PyProof.Rows L2
section
variable {prog : Program} {w : World} {A : Around} {E : Value → Shared → Prop}
theorem draw_lst {it l : Addr} {items : Array Value} (hne : l ≠ it) : ∀ (n i : Nat) (s : Shared) (Q : List Value → Shared → Prop), s.heap.IsListIter it l i → s.heap.IsList l items → i + n ≤ items.size →
    (∀ h', h'.IsListIter it l (i + n) → h'.IsList l items → Heap.SameBut it s.heap h' → Q ((items.toList.drop i).take n) { s with heap := h' }) → wpAny (model prog w) A (draw (.ref it) n) Q E s
  | 0, i, s, Q, hit, hl, _, hQ => by
    show wpAny _ _ (pure []) Q E s
    have := hQ s.heap hit hl (Heap.SameBut.refl ..)
    rw [List.take_zero] at this
    exact wpAny_pure this
  | n + 1, i, s, Q, hit, hl, hle, hQ => by
    have hi : i < items.size := by omega
    show wpAny _ _ (pyNext (.ref it) >>= _) Q E s
    refine wpAny_bind (wpAny_pyNext_list_item hit hl (x := items[i]) (by simp [hi]) fun h1 hit1 hs1 => wpAny_bind (wpAny_holding (draw_lst hne n (i + 1) _ _ hit1 (hl.extBut hs1.extBut hne) (by omega) fun h2 hit2 hl2 hs2 => wpAny_pure ?_)))
    have q := hQ h2 (by rw [show i + (n + 1) = i + 1 + n by omega]; exact hit2) hl2 (hs1.trans hs2)
    rw [show items.toList.drop i = items[i] :: items.toList.drop (i + 1) by simp [List.drop_eq_getElem_cons, hi], List.take_succ_cons] at q
    exact q
theorem unpack_lst {s : Shared} {l : Addr} {items : Array Value} {targets : List (Bool × (Value → Sem Unit))} {Q : Unit → Shared → Prop} (hh : A.handled = none) (hl : s.heap.IsList l items) (hn : targets.length = items.size) (hstar : targets.findIdx? (·.1) = none)
    (h : ∀ h', Heap.ExtBut s.heap.objs.size s.heap h' → wpAny (model prog w) A (assignInOrder (targets.map (·.2)) items.toList) Q E { s with heap := h' }) : wpAny (model prog w) A (unpack (.ref l) targets) Q E s := by
  have hlt : l ≠ s.heap.objs.size := by
    obtain ⟨o, ho, _⟩ := hl
    exact Nat.ne_of_lt (Heap.lt_size ho)
  unfold unpack
  rw [hn, hstar]
  refine wpAny_bind (wpAny_holding ?_)
  unfold unpackItems notIterableAtAll
  refine wpAny_bind (wpAny_bind (wpAny_specialOf hl.typeIs F.slot_list_iter.lookup (wpAny_pure ?_)))
  simp only [Bool.false_eq_true, if_false]
  have hl1 : ∀ o, (s.heap.push o).IsList l items := fun o => hl.at fun _ e => Heap.get?_push_of_some _ e
  refine wpAny_bind (wpAny_holding (wpAny_pyIter_list hl (wpAny_bind (wpAny_holding (draw_lst hlt items.size 0 _ _ ⟨_, Heap.get?_push_size _ rfl, rfl, rfl⟩ (hl1 _) (by omega) fun h1 hit1 hl2 hs1 => ?_)))))
  rw [show List.take items.size (List.drop 0 items.toList) = items.toList by rw [List.drop_zero]; exact List.take_of_length_le (by simp), if_neg (by simp)]
  refine wpAny_bind (wpAny_holding (wpAny_pyNext_list_end hh hit1 hl2 (by simp) fun h2 he2 => ?_))
  simp only [Option.isSome_none, Bool.false_eq_true, if_false]
  exact wpAny_pure (h h2 fun b o hb e => he2 b o hb (hs1.extBut b o hb (Heap.get?_push_of_some _ e)))
end
section
variable {X : Cx} {a b c : Expr} {fa fb fc : DTE} {pos : Pos} {es : List Expr} {fr : DTA}
def gTupL (K : PySem.W.Frag) (n : Nat) (t : TGs) : TG := fun v σ H Q => ∃ a xs, v = .ref a ∧ (SqT K H a xs ∨ SqL K H a xs) ∧ xs.length = n ∧ t xs σ H Q
theorem pg_tupL {k : Nat} {t : TGs} {n : Nat} (hc : X.calm = true) (h : PGs X es t) (hn : (assignEach es X.env).length = n := by rfl) (hst : (assignEach es X.env).findIdx? (·.1) = none := by rfl) : PG X (.Tuple es k pos) (gTupL X.K n t) := by
  refine ⟨fun pins s σ H v u Q I r ⟨a, xs, e1, hq, hl, hw⟩ => ?_⟩
  subst e1
  cases r
  rcases hq with hq | hq
  · obtain ⟨its, rv, ht, hz⟩ := I.tuple hq
    refine assign_Tuple_tuple (I.ok.hd hc) ht (by simp [hn, ← hl, rv.length]) hst fun h' hx => ?_
    exact h.run pins _ σ H xs _ Q (I.kept (t' := s.toks) fun b o e => hx b o (Nat.ne_of_lt (Heap.lt_size e)) e) (by simpa using rv) hw
  · obtain ⟨its, rv, ht, hz⟩ := I.list hq
    rw [assign_Tuple]
    refine wpAny_bind (wpAny_standAt (unpack_lst (I.ok.hd hc) ht.isList (by simp [hn, ← hl, rv.length]) hst fun h' hx => ?_))
    exact h.run pins _ σ H xs _ Q (I.kept (t' := s.toks) fun b o e => hx b o (Nat.ne_of_lt (Heap.lt_size e)) e) (by simpa using rv) hw
/-- a tuple or a list, unpacked -/
@[reducible] def dgTupL (n : Nat) (g : DTGs) : DTG := fun d ρ M Q => match itemsOf d M with
  | some ds => ds.length = n ∧ g ds ρ M Q
  | none => False
theorem dg_tupL {k n : Nat} {g : DTGs} {js : List Nat} (hc : X.calm = true) (h : DGs X es g js) (hn : (assignEach es X.env).length = n := by rfl) (hst : (assignEach es X.env).findIdx? (·.1) = none := by rfl) : DG X (.Tuple es k pos) (dgTupL n g) js := by
  refine ⟨PG.of (pg_tupL hc h.pg hn hst) fun v σ H Q ⟨d, ρ, M, al, F, G, W, es, r, q⟩ => ?_, fun d ρ M Q Q' w q => ?_⟩
  · unfold dgTupL at q
    split at q
    · next ds e =>
      obtain ⟨p, xs, rfl, h1, rs⟩ := itemsOf_ok W r e
      rcases h1 with h1 | h1
      · exact ⟨_, _, rfl, .inl (SqT.of h1), rs.length.trans q.1, _, ρ, M, al, F, G, W, es, rs, q.2⟩
      · exact ⟨_, _, rfl, .inr (SqL.of h1), rs.length.trans q.1, _, ρ, M, al, F, G, W, es, rs, q.2⟩
    · exact q.elim
  · unfold dgTupL at q ⊢
    split at q
    · exact ⟨q.1, h.mono _ _ _ _ _ w q.2⟩
    · exact q.elim
end
end DL
namespace DL
open PySem PySem.Spec PyProof.Rows L2
inductive Pl : Nat → D → Prop
  | non : Pl 0 .non
  | bl (b : Bool) : Pl 0 (.bl b)
  | int (i : Int) : Pl 0 (.int i)
  | tup {h : Nat} {ds : List D} (hd : ∀ d ∈ ds, Pl h d) : Pl (h + 1) (.tup ds)
  | lst {h : Nat} {ds : List D} (hd : ∀ d ∈ ds, Pl h d) : Pl (h + 1) (.lst ds)
def PlOk (h : Nat) (d : D) : Prop := pu d = true ∧ (toPy d).canLay0 = true ∧ (toPy d).depth ≤ h
theorem plAll {h : Nat} : ∀ {ds : List D}, (∀ d ∈ ds, PlOk h d) → DL.pus ds = true ∧ PyData.canLayAll0 (toPys ds) = true ∧ PyData.depthAll (toPys ds) ≤ h
  | [], _ => ⟨rfl, rfl, Nat.zero_le _⟩
  | d :: ds, hd => by
    obtain ⟨a1, a2, a3⟩ := hd d (by simp)
    obtain ⟨b1, b2, b3⟩ := plAll fun x hx => hd x (List.mem_cons_of_mem _ hx)
    refine ⟨?_, ?_, ?_⟩
    · show (pu d && DL.pus ds) = true
      rw [a1, b1]; rfl
    · show ((toPy d).canLay0 && PyData.canLayAll0 (toPys ds)) = true
      rw [a2, b2]; rfl
    · show max (toPy d).depth (PyData.depthAll (toPys ds)) ≤ h
      exact Nat.max_le.mpr ⟨a3, b3⟩
theorem Pl.ok' {h : Nat} {d : D} (s : Pl h d) : PlOk h d := by
  induction s with
  | non => exact ⟨rfl, rfl, Nat.zero_le _⟩
  | bl b => exact ⟨rfl, rfl, Nat.zero_le _⟩
  | int i => exact ⟨rfl, rfl, Nat.zero_le _⟩
  | tup hd ih =>
    obtain ⟨b1, b2, b3⟩ := plAll ih
    exact ⟨b1, b2, Nat.succ_le_succ b3⟩
  | lst hd ih =>
    obtain ⟨b1, b2, b3⟩ := plAll ih
    exact ⟨b1, b2, Nat.succ_le_succ b3⟩
theorem Pl.vw {h : Nat} {d : D} (s : Pl h d) (M : Sto) : DL.vw d M = d := by
  have := s.ok'.1
  cases d <;> first | rfl | (cases this)
theorem PlOk.eq {h : Nat} {d : D} (s : PlOk h d) (hh : h ≤ 60) : pu d = true ∧ SeqAt.shaped (toPy d) = true := ⟨s.1, by
  unfold SeqAt.shaped
  rw [s.2.1, Bool.true_and]
  exact decide_eq_true (Nat.le_trans s.2.2 (by omega))⟩
theorem Pl.eqOk {h : Nat} {d : D} (s : Pl h d) (hh : h ≤ 60) (M : Sto) : DL.eqOk d M := by
  unfold DL.eqOk
  rw [s.vw M]
  exact s.ok'.eq hh
theorem vw_ref {n : Nat} {ds : List D} {M : Sto} (e : M[n]? = some (.lst ds)) : DL.vw (.ref n) M = .lst ds := by
  show (match M[n]? with
    | some (.lst ds) => D.lst ds
    | _ => D.ref n) = _
  rw [e]
theorem Pl.eqRef {h n : Nat} {ds : List D} {M : Sto} (s : Pl h (.lst ds)) (hh : h ≤ 60) (e : M[n]? = some (.lst ds)) : DL.eqOk (.ref n) M := by
  have e2 := vw_ref e
  unfold DL.eqOk
  rw [e2]
  exact s.ok'.eq hh
theorem eqv_nil (ds : List D) : PyData.eqv (toPy (.lst ds)) (toPy (.lst [])) = decide (ds = []) := by
  cases ds with
  | nil => rfl
  | cons d ds => rfl
end DL
namespace DL
open PySem PySem.Spec PyProof.Rows L2
section
variable {X : Cx} {a b c : Expr} {fa fb fc : DTE} {pos : Pos}
@[reducible] def gMulM : G2 := fun x y M Q => match y with
  | .int k => match seqOf x M with
    | some ds => 0 ≤ k ∧ k < 100000 ∧ ds.length * k.toNat ≤ 100000 ∧ Q (.ref M.length) (M ++ [.lst (List.replicate k.toNat ds).flatten])
    | none => False
  | _ => False
@[reducible] def gAddM : G2 := fun x y M Q => match seqOf x M, seqOf y M with
    | some i, some j => i.length + j.length ≤ 100000 ∧ Q (.ref M.length) (M ++ [.lst (i ++ j)])
    | _, _ => False
theorem gAddM_mono : Mono2 gAddM := fun x y M Q Q' w q => by
  unfold gAddM at q ⊢
  split at q
  · exact ⟨q.1, w _ _ q.2⟩
  · exact q.elim
theorem o_addM : O2 X (binaryOp .Add) gAddM := O2.of op_cat gAddM_mono fun al F G H M x y dx dy Q W r1 r2 q => by
  unfold gAddM at q
  split at q
  · next e1 e2 =>
    obtain ⟨p1, xs1, rfl, h1, s1⟩ := seqOf_ok W r1 e1
    obtain ⟨p2, xs2, rfl, h2, s2⟩ := seqOf_ok W r2 e2
    have l1 := s1.length
    have l2 := s2.length
    exact ⟨_, _, _, _, rfl, rfl, h1, h2, le_line (by have := q.1; omega), fun p hp => kont.new q.2 W (s1.append s2) hp⟩
  · exact q.elim
end
section
variable {X : Cx} {a b c : Expr} {fa fb fc : DTE} {pos : Pos}
theorem chain_ok {op op' : CmpOp} {g g' : G2} (ho : O2 X (compareOp op) g) (ho' : O2 X (compareOp op') g') (ha : DE X a fa) (hb : DE X b fb) (hc : DE X c fc) {σ : L2.St} {H : Hp} {Q : VK} (h : Lift X (dChain g g' fa fb fc) σ H Q) :
    tChain (r2 X.K g) (r2 X.K g') (Lift X fa) (Lift X fb) (Lift X fc) σ H Q := by
  obtain ⟨ρ, M, al, F, G, W, s, q⟩ := h
  refine ha.seq W s q fun dx M1 al1 F1 H1 v q1 e1 W1 r1 s1 => ?_
  refine hb.seq W1 s1 q1 fun dy M2 al2 F2 H2 u q2 e2 W2 r2 s2 => ?_
  refine ⟨dx, dy, al2, F2, G, M2, W2, r1.ext e2, r2, ho.mono _ _ _ _ _ (fun z M3 q3 al3 F3 H3 zv e3 W3 r3 => ?_) q2⟩
  cases r3 with
  | bl k =>
    refine ⟨k, rfl, ?_⟩
    cases k with
    | true =>
      refine hc.seq W3 (s2.ext e3) q3 fun dw M4 al4 F4 H4 wv q4 e4 W4 r4 s4 => ?_
      exact ⟨dy, dw, al4, F4, G, M4, W4, r2.ext (e3.trans e4), r4, ho'.mono _ _ _ _ _ (fun d M5 k => kont.ext k (e1.trans (e2.trans (e3.trans e4)))) q4⟩
    | false => exact q3 al3 F3 H3 _ (e1.trans (e2.trans e3)) W3 (.bl false)
  | _ => exact q3.elim
theorem dt_chain {op op' : CmpOp} {g g' : G2} (ho : O2 X (compareOp op) g) (ho' : O2 X (compareOp op') g') (ha : DE X a fa) (hb : DE X b fb) (hc : DE X c fc) (hm : lastMarks [op, op'] [b, c] = false := by with_unfolding_all rfl) :
    DT X (.Compare a [op, op'] [b, c] pos) (dBl (dChain g g' fa fb fc)) := by
  have hd : DE X (.Compare a [op, op'] [b, c] pos) (dChain g g' fa fb fc) := d_chain ho ho' ha hb hc fun h1 h2 h3 h4 h5 => pe_chain h1 h2 h3 h4 h5 hm
  refine ⟨PT.of (pt_chain ho.opR ho'.opR ha.pe hb.pe hc.pe hm) fun σ H Q ⟨ρ, M, al, F, G, W, s, q⟩ => ?_, dBl_mono hd⟩
  refine chain_ok ho ho' ha hb hc ⟨ρ, M, al, F, G, W, s, hd.mono _ _ _ _ (fun d M1 q1 al1 F1 H1 v e1 W1 r1 => ?_) q⟩
  cases r1 with
  | bl k => exact ⟨k, rfl, q1 al1 F1 H1 e1 W1⟩
  | _ => exact q1.elim
end
end DL
set_option maxHeartbeats 2000000
namespace PySem
end PySem
namespace DL
open PySem PySem.Spec PyProof.Rows L2
/-- the class that a name of the module holds -/
def cls (mg : Str → Option Value) (x : Str) : Addr := match mg x with
  | some (.ref a) => a
  | _ => 0
theorem cls_of {mg : Str → Option Value} {x : Str} {C : Addr} (h : mg x = some (.ref C)) : cls mg x = C := by unfold cls; rw [h]
section
variable {X : Cx} {a b c e : Expr} {fa fb fc : DTE} {pos : Pos} {es : List Expr} {fr : DTA} {ta : TA}
/-- a statement that is never reached -/
@[reducible] def dNever : DTS := fun _ _ _ => False
theorem ds_never {st : Stmt} : DS X st dNever := ⟨⟨fun pins s σ H D I ⟨_, _, _, _, _, _, _, q⟩ => q.elim⟩, fun _ _ _ _ _ q => q⟩
end
def LiftSN (K : PySem.W.Frag) (f : DTS) : TS := fun E σ H => ∃ ρ M al F G, Wd K al F G H M ∧ Sl K F al σ ρ.v ∧ ρ.x = noX ∧ f (kontS K al F G noX E) ρ M
theorem LiftSN.of {Y : Cx} {f : DTS} {E : Ends} {σ : L2.St} {H : Hp} (h : LiftSN Y.K f E σ H) : LiftS Y f E σ H := by
  obtain ⟨ρ, M, al, F, G, W, s, x, q⟩ := h
  exact ⟨ρ, M, al, F, G, W, Es.none s x, by rw [x]; exact q⟩
/-- the ends of a part whose wish of an exception is another one -/
@[reducible] def endsX (D : DEnds) (x : DXS) : DEnds := ⟨fun ρ M => D.nx ⟨ρ.v, x⟩ M, D.rt, fun ρ M => D.bk ⟨ρ.v, x⟩ M, fun ρ M => D.ct ⟨ρ.v, x⟩ M⟩
end DL
set_option maxHeartbeats 2000000
namespace DL
open PySem PySem.Spec PyProof.Rows L2
/-- the exception at a is handled: its object is pinned -/
structure Pin (Y : Cx) (a : Addr) (cls : Value) (d : Option Addr) : Prop where
  ex : ∃ oe : Obj, (a, oe) ∈ Y.pn ∧ L2N.Zn cls d oe ∧ ∃ vs, oe.data = .fields vs
/-- .. whatever its context is -/
structure PinC (Y : Cx) (a : Addr) (cls : Value) (d : Option Addr) : Prop where
  ex : ∃ oe : Obj, (a, oe) ∈ Y.pn ∧ L2.Zc cls d oe ∧ ∃ vs, oe.data = .fields vs
theorem Pin.c {Y : Cx} {a : Addr} {cls : Value} {d : Option Addr} (p : Pin Y a cls d) : PinC Y a cls d := by
  obtain ⟨oe, h1, h2, h3⟩ := p.ex
  exact ⟨oe, h1, h2.zc, h3⟩
/-- an expression that names a class -/
def NmC (Y : Cx) (e : Expr) (cv : Value) : Prop := ∃ v, PE Y e (tC v) ∧ ClsV v cv
inductive NmCs (Y : Cx) : List Expr → List Value → Prop
  | nil : NmCs Y [] []
  | cons {e : Expr} {es : List Expr} {c : Value} {cs : List Value} : NmC Y e c → (starEach (e :: es) Y.env = (false, eval e Y.env) :: starEach es Y.env) → NmCs Y es cs → NmCs Y (e :: es) (c :: cs)
theorem NmCs.pa {Y : Cx} : ∀ {es : List Expr} {cs : List Value}, NmCs Y es cs → ∃ vs t, PA Y es t ∧ Paired ClsV vs cs ∧ ∀ σ H (Q : List V → Hp → Prop), Q vs H → t σ H Q
  | _, _, .nil => ⟨[], _, pa_nil, .nil, fun _ _ _ q => q⟩
  | _, _, .cons ⟨v, hv, k⟩ hs r => by
    obtain ⟨vs, t, ht, kk, w⟩ := r.pa
    exact ⟨v :: vs, _, pa_cons hv ht hs, .cons k kk, fun σ H Q q => w σ H _ q⟩
theorem Paired.len {α β : Type} {R : α → β → Prop} : ∀ {xs : List α} {ys : List β}, Paired R xs ys → xs.length = ys.length
  | _, _, .nil => rfl
  | _, _, .cons _ r => by rw [List.length_cons, List.length_cons, Paired.len r]
section
variable {Y : Cx} {e : Expr} {fe : DTE} {pos : Pos} {a : Addr} {cls : Value} {d : Option Addr}
theorem look_rps {K : PySem.W.Frag} {F : Hp} {al : List Addr} (n : Str) : ∀ {ks : List Str} {xs : List V} {ds : List D} {v : D}, Rps K F al xs ds → (ks.zip ds).lookup n = some v → ∃ u, (ks.zip xs).lookup n = some u ∧ Rp K F al u v
  | [], _, _, _, _, h => by cases h
  | k :: ks, _, [], _, _, h => by cases h
  | k :: ks, _, d :: ds, v, .cons r rs, h => by
    rw [List.zip_cons_cons, List.lookup_cons] at h
    rw [List.zip_cons_cons, List.lookup_cons]
    split at h
    · next e => cases h; exact ⟨_, rfl, r⟩
    · next e =>
      obtain ⟨u, h1, h2⟩ := look_rps n rs h
      exact ⟨u, h1, h2⟩
end
end DL
set_option maxHeartbeats 2000000
namespace DL
open PySem PySem.Spec PyProof.Rows L2
open L2H (RoomH Hot1 PinOk cxH inv_startH)
end DL
set_option maxHeartbeats 2000000
namespace DL
open PySem PySem.Spec PyProof.Rows L2
/-- what an except clause asks for: one class or a tuple of some -/
inductive Tst (X : Cx) : Expr → List Value → Prop
  | one {x : Str} {np : Pos} {c : Value} : Names X x c → Tst X (.Name x np) [c]
  | two {x1 x2 : Str} {p1 p2 p : Pos} {c1 c2 : Value} {k : Nat} : Names X x1 c1 → Names X x2 c2 → Tst X (.Tuple [.Name x1 p1, .Name x2 p2] k p) [c1, c2]
  | three {x1 x2 x3 : Str} {p1 p2 p3 p : Pos} {c1 c2 c3 : Value} {k : Nat} : Names X x1 c1 → Names X x2 c2 → Names X x3 c3 → Tst X (.Tuple [.Name x1 p1, .Name x2 p2, .Name x3 p3] k p) [c1, c2, c3]
  | four {x1 x2 x3 x4 : Str} {p1 p2 p3 p4 p : Pos} {c1 c2 c3 c4 : Value} {k : Nat} : Names X x1 c1 → Names X x2 c2 → Names X x3 c3 → Names X x4 c4 → Tst X (.Tuple [.Name x1 p1, .Name x2 p2, .Name x3 p3, .Name x4 p4] k p) [c1, c2, c3, c4]
abbrev Cla : Type := List Value × Nat × (Addr → Value → Option Addr → TS)
inductive HdA (X : Cx) : List ExceptHandler → List Cla → Prop
  | nil : HdA X [] []
  | cons {t : Expr} {n : Str} {i : Nat} {cs : List Value} {ts : Addr → Value → Option Addr → TS} {b₀ : Stmt} {suite : List Stmt} {pos' : Pos} {hds : List ExceptHandler} {l : List Cla} (T : Tst X t cs) (hi : X.N[i]? = some n) (hln : X.env.kindOf n = some .local)
      (hsu : ∀ (a : Addr) (oe : Obj) (cls : Value) (d : Option Addr) (pn : List (Addr × Obj)), L2N.Zn cls d oe → (∃ vs, oe.data = .fields vs) → PSs (X.suite a ((a, oe) :: pn)) (b₀ :: suite) (ts a cls d)) (r : HdA X hds l) :
      HdA X (.ExceptHandler (some t) (some n) (b₀ :: suite) pos' :: hds) ((cs, i, ts) :: l)
abbrev Dcl : Type := List Value × Nat × (Addr → Value → Option Addr → DTS)
inductive DHd (X : Cx) : List ExceptHandler → List Dcl → Prop
  | nil : DHd X [] []
  | cons {t : Expr} {n : Str} {i : Nat} {cs : List Value} {fs : Addr → Value → Option Addr → DTS} {b₀ : Stmt} {suite : List Stmt} {pos' : Pos} {hds : List ExceptHandler} {l : List Dcl} (T : Tst X t cs) (hi : X.N[i]? = some n) (hln : X.env.kindOf n = some .local)
      (hsu : ∀ (a : Addr) (oe : Obj) (cls : Value) (d : Option Addr) (pn : List (Addr × Obj)), L2N.Zn cls d oe → (∃ vs, oe.data = .fields vs) → DSs (X.suite a ((a, oe) :: pn)) (b₀ :: suite) (fs a cls d)) (r : DHd X hds l) :
      DHd X (.ExceptHandler (some t) (some n) (b₀ :: suite) pos' :: hds) ((cs, i, fs) :: l)
def liftC (K : PySem.W.Frag) (c : Dcl) : Cla := (c.1, c.2.1, fun a cls d => LiftSN K (c.2.2 a cls d))
theorem DHd.hd {X : Cx} {hds : List ExceptHandler} {l : List Dcl} (h : DHd X hds l) : HdA X hds (l.map (liftC X.K)) := by
  induction h with
  | nil => exact .nil
  | cons T hi hln hsu r ih => exact .cons T hi hln (fun a oe cls d pn hz hd => PSs.of (hsu a oe cls d pn hz hd).ps fun E σ H h => LiftSN.of h) ih
theorem DHd.mono {X : Cx} {hds : List ExceptHandler} {l : List Dcl} (h : DHd X hds l) : ∀ c ∈ l, ∀ a cls d, MonoS (c.2.2 a cls d) := by
  induction h with
  | nil => exact fun c hc => nomatch hc
  | cons T hi hln hsu r ih =>
    intro c hc a cls d
    rcases List.mem_cons.mp hc with rfl | hc
    · exact (hsu a { cls := cls, dict := d, data := .fields #[.none, .none, .none] } cls d [] ⟨rfl, rfl, fun vs e => by cases e; rfl⟩ ⟨_, rfl⟩).mono
    · exact ih c hc a cls d
end DL
set_option maxHeartbeats 2000000
namespace DL
open PySem PySem.Spec PyProof.Rows L2
/-- a flat datum's value -/
def fV : D → Option V
  | .non => some .non
  | .bl b => some (.bl b)
  | .int i => some (.int i)
  | .str x => some (.str x)
  | _ => none
def fVs : List D → Option (List V)
  | [] => some []
  | d :: ds => match fV d, fVs ds with
    | some v, some vs => some (v :: vs)
    | _, _ => none
theorem fV_ok {K : PySem.W.Frag} {F : Hp} {al : List Addr} {v u : V} {d : D} (r : Rp K F al v d) (h : fV d = some u) : v = u ∧ flatV u = true := by
  cases r <;> cases h <;> exact ⟨rfl, rfl⟩
theorem fVs_ok {K : PySem.W.Frag} {F : Hp} {al : List Addr} : ∀ {ds : List D} {vs us : List V}, Rps K F al vs ds → fVs ds = some us → vs = us ∧ us.all flatV = true
  | [], _, _, .nil, h => by cases h; exact ⟨rfl, rfl⟩
  | d :: ds, _, _, .cons r rs, h => by
    unfold fVs at h
    split at h
    · next v vs e1 e2 =>
      cases h
      obtain ⟨rfl, h1⟩ := fV_ok r e1
      obtain ⟨rfl, h2⟩ := fVs_ok rs e2
      exact ⟨rfl, by rw [List.all_cons, h1, h2]; rfl⟩
    · cases h
@[reducible] def gIn (neg : Bool) : G2 := fun x y M Q => match fV x, (itemsOf y M).bind fVs with
  | some v, some vs => Q (.bl (if neg then !inV v vs else inV v vs)) M
  | _, _ => False
theorem gIn_mono (neg : Bool) : Mono2 (gIn neg) := fun x y M Q Q' w q => by
  unfold gIn at q ⊢
  split at q
  · exact w _ _ q
  · exact q.elim
section
variable {X : Cx}
theorem gIn_ok {neg : Bool} {K : PySem.W.Frag} {al : List Addr} {F G H : Hp} {M : Sto} {x y : V} {dx dy : D} {Q : VK} (W : Wd K al F G H M) (r1 : Rp K F al x dx) (r2 : Rp K F al y dy) (q : gIn neg dx dy M (kont K al F G Q)) : rIn K neg x y H Q := by
  unfold gIn at q
  split at q
  · next v vs e1 e2 =>
    obtain ⟨rfl, f1⟩ := fV_ok r1 e1
    cases e3 : itemsOf dy M with
    | none => rw [e3] at e2; cases e2
    | some ds =>
      rw [e3, Option.bind_some] at e2
      obtain ⟨a, xs, rfl, hs, rs⟩ := itemsOf_ok W r2 e3
      obtain ⟨rfl, f2⟩ := fVs_ok rs e2
      exact ⟨a, xs, rfl, hs.elim (fun h => .inr (SqT.of h)) (fun h => .inl (SqL.of h)), f1, f2, kont.here q W (.bl _)⟩
  · exact q.elim
theorem o_in (hu : X.A.units + 64 < cLine) : O2 X (compareOp .In) (gIn false) := O2.of op_in_seq (gIn_mono _) fun al F G H M x y dx dy Q W r1 r2 q => gIn_ok W r1 r2 q
theorem o_notin (hu : X.A.units + 64 < cLine) : O2 X (compareOp .NotIn) (gIn true) := O2.of op_notIn_seq (gIn_mono _) fun al F G H M x y dx dy Q W r1 r2 q => gIn_ok W r1 r2 q
end
end DL
namespace MT
abbrev Tr := List (Nat × Nat)
def TreeOk (t : Tr) : Prop := t.length ≤ 11 ∧ ∀ (k : Nat) (p : Nat × Nat), t[k]? = some p → p.1 ≤ k ∧ 1 ≤ p.2 ∧ p.2 ≤ 1000000
/-- the parent of a mark from 1 on; the length of its row -/
def par (t : Tr) (m : Nat) : Nat := min (t.getD (m - 1) (0, 0)).1 (m - 1)
def ln (t : Tr) (m : Nat) : Nat := (t.getD (m - 1) (0, 0)).2
theorem par_lt (t : Tr) {m : Nat} (h : 0 < m) : par t m < m := by unfold par; omega
theorem par_of {t : Tr} (ht : TreeOk t) {k : Nat} {p : Nat × Nat} (h : t[k]? = some p) : par t (k + 1) = p.1 ∧ ln t (k + 1) = p.2 := by
  have e : t.getD k (0, 0) = p := by rw [List.getD_eq_getElem?_getD, h]; rfl
  unfold par ln
  rw [Nat.add_sub_cancel, e]
  have := (ht.2 k p h).1
  exact ⟨by omega, rfl⟩
def above (t : Tr) (m : Nat) : List Nat := if h : m = 0 then [0] else m :: above t (par t m)
termination_by m
decreasing_by exact par_lt t (by omega)
theorem above_0 (t : Tr) : above t 0 = [0] := by rw [above, dif_pos rfl]
theorem above_s (t : Tr) {m : Nat} (h : m ≠ 0) : above t m = m :: above t (par t m) := by rw [above, dif_neg h]
def dist (t : Tr) (i j : Nat) : Int := if i = j then 0 else if h : j < i then (ln t i : Int) + dist t (par t i) j else dist t i (par t j) + ln t j
termination_by i + j
decreasing_by
  · have := par_lt t (show 0 < i by omega); omega
  · have := par_lt t (show 0 < j by omega); omega
theorem dist_self (t : Tr) (i : Nat) : dist t i i = 0 := by rw [dist, if_pos rfl]
theorem dist_gt (t : Tr) {i j : Nat} (h : j < i) : dist t i j = ln t i + dist t (par t i) j := by rw [dist, if_neg (by omega), dif_pos h]
theorem dist_lt (t : Tr) {i j : Nat} (h : i < j) : dist t i j = dist t i (par t j) + ln t j := by rw [dist, if_neg (by omega), dif_neg (by omega)]
theorem dist_comm (t : Tr) (i j : Nat) : dist t i j = dist t j i := by
  rcases Nat.lt_trichotomy i j with h | h | h
  · have := par_lt t (show 0 < j by omega)
    rw [dist_lt t h, dist_gt t h, dist_comm t i (par t j)]
    omega
  · subst h; rfl
  · have := par_lt t (show 0 < i by omega)
    rw [dist_gt t h, dist_lt t h, dist_comm t (par t i) j]
    omega
termination_by i + j
theorem ln_le {t : Tr} (ht : TreeOk t) (m : Nat) : ln t m ≤ 1000000 := by
  unfold ln
  rw [List.getD_eq_getElem?_getD]
  cases e : t[m - 1]? with
  | none => exact Nat.zero_le _
  | some p => exact (ht.2 _ _ e).2.2
theorem dist_le {t : Tr} (ht : TreeOk t) (i j : Nat) : dist t i j ≤ (i + j : Nat) * 1000000 := by
  have hi := ln_le ht i
  have hj := ln_le ht j
  rcases Nat.lt_trichotomy i j with h | h | h
  · have h1 := par_lt t (show 0 < j by omega)
    have h2 := dist_le ht i (par t j)
    rw [dist_lt t h]
    omega
  · subst h; rw [dist_self]; omega
  · have h1 := par_lt t (show 0 < i by omega)
    have h2 := dist_le ht (par t i) j
    rw [dist_gt t h]
    omega
termination_by i + j
/-- the law's own way -/
def lway (t : Tr) (i j : Nat) : List Nat := if i = j then [i] else if h : j < i then i :: lway t (par t i) j else lway t i (par t j) ++ [j]
termination_by i + j
decreasing_by
  · have := par_lt t (show 0 < i by omega); omega
  · have := par_lt t (show 0 < j by omega); omega
theorem lway_self (t : Tr) (i : Nat) : lway t i i = [i] := by rw [lway, if_pos rfl]
theorem lway_gt (t : Tr) {i j : Nat} (h : j < i) : lway t i j = i :: lway t (par t i) j := by rw [lway, if_neg (by omega), dif_pos h]
theorem lway_lt (t : Tr) {i j : Nat} (h : i < j) : lway t i j = lway t i (par t j) ++ [j] := by rw [lway, if_neg (by omega), dif_neg (by omega)]
theorem lway_len (t : Tr) (i j : Nat) : (lway t i j).length ≤ i + j + 1 := by
  rcases Nat.lt_trichotomy i j with h | h | h
  · have := par_lt t (show 0 < j by omega)
    have := lway_len t i (par t j)
    rw [lway_lt t h, List.length_append, List.length_singleton]
    omega
  · subst h; rw [lway_self, List.length_singleton]; omega
  · have := par_lt t (show 0 < i by omega)
    have := lway_len t (par t i) j
    rw [lway_gt t h, List.length_cons]
    omega
termination_by i + j
theorem lway_mem (t : Tr) (i j : Nat) : ∀ x ∈ lway t i j, x ≤ max i j := by
  intro x hx
  rcases Nat.lt_trichotomy i j with h | h | h
  · have h1 := par_lt t (show 0 < j by omega)
    rw [lway_lt t h, List.mem_append, List.mem_singleton] at hx
    rcases hx with hx | hx
    · have := lway_mem t i (par t j) x hx; omega
    · omega
  · subst h; rw [lway_self, List.mem_singleton] at hx; omega
  · have h1 := par_lt t (show 0 < i by omega)
    rw [lway_gt t h, List.mem_cons] at hx
    rcases hx with hx | hx
    · omega
    · have := lway_mem t (par t i) j x hx; omega
termination_by i + j
theorem lway_head (t : Tr) (i j : Nat) : ∃ r, lway t i j = i :: r := by
  rcases Nat.lt_trichotomy i j with h | h | h
  · have := par_lt t (show 0 < j by omega)
    obtain ⟨r, e⟩ := lway_head t i (par t j)
    rw [lway_lt t h, e]
    exact ⟨r ++ [j], rfl⟩
  · subst h; rw [lway_self]; exact ⟨[], rfl⟩
  · rw [lway_gt t h]; exact ⟨_, rfl⟩
termination_by i + j
theorem lway_last (t : Tr) (i j : Nat) : ∃ r, lway t i j = r ++ [j] := by
  rcases Nat.lt_trichotomy i j with h | h | h
  · rw [lway_lt t h]; exact ⟨_, rfl⟩
  · subst h; rw [lway_self]; exact ⟨[], rfl⟩
  · have := par_lt t (show 0 < i by omega)
    obtain ⟨r, e⟩ := lway_last t (par t i) j
    rw [lway_gt t h, e]
    exact ⟨i :: r, rfl⟩
termination_by i + j
/-- of two lists, the last ones dropped while the second last ones are equal; root first here -/
def strip : List Nat → List Nat → List Nat × List Nat
  | c :: x :: xs, d :: y :: ys => if x = y then strip (x :: xs) (y :: ys) else (c :: x :: xs, d :: y :: ys)
  | a, b => (a, b)
def join (p : List Nat × List Nat) : List Nat := p.1.reverse ++ p.2.tail
theorem strip_snoc (i : Nat) : ∀ (a b : List Nat), a ≠ [] → i ∉ b → strip (a ++ [i]) b = ((strip a b).1 ++ [i], (strip a b).2)
  | [], b, h, _ => absurd rfl h
  | [c], [], _, _ => by simp [strip]
  | [c], [d], _, _ => by simp [strip]
  | [c], d :: y :: ys, _, hi => by
    have : i ≠ y := fun e => hi (by simp [e])
    simp [strip, this]
  | c :: x :: xs, [], _, _ => by simp [strip]
  | c :: x :: xs, [d], _, _ => by simp [strip]
  | c :: x :: xs, d :: y :: ys, _, hi => by
    show strip (c :: x :: (xs ++ [i])) (d :: y :: ys) = _
    by_cases e : x = y
    · have e1 : strip (c :: x :: (xs ++ [i])) (d :: y :: ys) = strip (x :: (xs ++ [i])) (y :: ys) := by rw [strip, if_pos e]
      have e2 : strip (c :: x :: xs) (d :: y :: ys) = strip (x :: xs) (y :: ys) := by rw [strip, if_pos e]
      rw [e1, e2]
      exact strip_snoc i (x :: xs) (y :: ys) (by simp) (fun z => hi (List.mem_cons_of_mem _ z))
    · have e1 : strip (c :: x :: (xs ++ [i])) (d :: y :: ys) = (c :: x :: (xs ++ [i]), d :: y :: ys) := by rw [strip, if_neg e]
      have e2 : strip (c :: x :: xs) (d :: y :: ys) = (c :: x :: xs, d :: y :: ys) := by rw [strip, if_neg e]
      rw [e1, e2]
      rfl
theorem strip_swap : ∀ (a b : List Nat), strip b a = ((strip a b).2, (strip a b).1)
  | [], [] => by simp [strip]
  | [], [d] => by simp [strip]
  | [], d :: y :: ys => by simp [strip]
  | [c], [] => by simp [strip]
  | [c], [d] => by simp [strip]
  | [c], d :: y :: ys => by simp [strip]
  | c :: x :: xs, [] => by simp [strip]
  | c :: x :: xs, [d] => by simp [strip]
  | c :: x :: xs, d :: y :: ys => by
    by_cases e : x = y
    · have e1 : strip (d :: y :: ys) (c :: x :: xs) = strip (y :: ys) (x :: xs) := by rw [strip, if_pos e.symm]
      have e2 : strip (c :: x :: xs) (d :: y :: ys) = strip (x :: xs) (y :: ys) := by rw [strip, if_pos e]
      rw [e1, e2]
      exact strip_swap (x :: xs) (y :: ys)
    · have e1 : strip (d :: y :: ys) (c :: x :: xs) = (d :: y :: ys, c :: x :: xs) := by rw [strip, if_neg (Ne.symm e)]
      have e2 : strip (c :: x :: xs) (d :: y :: ys) = (c :: x :: xs, d :: y :: ys) := by rw [strip, if_neg e]
      rw [e1, e2]
theorem above_le (t : Tr) (m : Nat) : ∀ x ∈ above t m, x ≤ m := by
  intro x hx
  by_cases h : m = 0
  · subst h; rw [above_0, List.mem_singleton] at hx; omega
  · rw [above_s t h, List.mem_cons] at hx
    have := par_lt t (show 0 < m by omega)
    rcases hx with hx | hx
    · omega
    · have := above_le t (par t m) x hx; omega
termination_by m
theorem above_ne (t : Tr) (m : Nat) : above t m ≠ [] := by
  by_cases h : m = 0
  · subst h; rw [above_0]; simp
  · rw [above_s t h]; simp
theorem above_len (t : Tr) (m : Nat) : (above t m).length ≤ m + 1 := by
  by_cases h : m = 0
  · subst h; rw [above_0]; simp
  · have := par_lt t (show 0 < m by omega)
    have := above_len t (par t m)
    rw [above_s t h, List.length_cons]
    omega
termination_by m
theorem strip_self : ∀ (a : List Nat) (i : Nat), strip (a ++ [i]) (a ++ [i]) = ([i], [i])
  | [], i => by simp [strip]
  | [c], i => by
    show strip (c :: i :: []) (c :: i :: []) = _
    rw [strip, if_pos rfl]
    simp [strip]
  | c :: x :: xs, i => by
    show strip (c :: x :: (xs ++ [i])) (c :: x :: (xs ++ [i])) = _
    rw [strip, if_pos rfl]
    exact strip_self (x :: xs) i
theorem strip_snd_ne (a b : List Nat) (h : b ≠ []) : (strip a b).2 ≠ [] := by
  match a, b with
  | [], b => cases b <;> simp [strip] at h ⊢
  | [c], b => cases b with
    | nil => exact absurd rfl h
    | cons d ys => cases ys <;> simp [strip]
  | c :: x :: xs, [] => exact absurd rfl h
  | c :: x :: xs, [d] => simp [strip]
  | c :: x :: xs, d :: y :: ys =>
    by_cases e : x = y
    · have e2 : strip (c :: x :: xs) (d :: y :: ys) = strip (x :: xs) (y :: ys) := by rw [strip, if_pos e]
      rw [e2]
      exact strip_snd_ne (x :: xs) (y :: ys) (by simp)
    · have e2 : strip (c :: x :: xs) (d :: y :: ys) = (c :: x :: xs, d :: y :: ys) := by rw [strip, if_neg e]
      rw [e2]
      simp
/-- the way that the program finds is the law's -/
theorem way_eq (t : Tr) (i j : Nat) : join (strip (above t i).reverse (above t j).reverse) = lway t i j := by
  rcases Nat.lt_trichotomy i j with h | h | h
  · have h1 := par_lt t (show 0 < j by omega)
    rw [lway_lt t h, ← way_eq t i (par t j), above_s t (show j ≠ 0 by omega), List.reverse_cons, strip_swap, strip_snoc j _ _ (by simpa using above_ne t (par t j)) (fun z => by
      have := above_le t i j (by simpa using z)
      omega), strip_swap (above t i).reverse]
    unfold join
    have hne := strip_snd_ne (above t i).reverse (above t (par t j)).reverse (by simpa using above_ne t (par t j))
    show (strip (above t i).reverse (above t (par t j)).reverse).1.reverse ++ ((strip (above t i).reverse (above t (par t j)).reverse).2 ++ [j]).tail = _
    rw [List.tail_append_of_ne_nil hne, List.append_assoc]
  · subst h
    have : ∃ a, (above t i).reverse = a ++ [i] := by
      by_cases h : i = 0
      · subst h; rw [above_0]; exact ⟨[], rfl⟩
      · rw [above_s t h, List.reverse_cons]; exact ⟨_, rfl⟩
    obtain ⟨a, e⟩ := this
    rw [lway_self, e, strip_self]
    rfl
  · have h1 := par_lt t (show 0 < i by omega)
    rw [lway_gt t h, ← way_eq t (par t i) j, above_s t (show i ≠ 0 by omega), List.reverse_cons, strip_snoc i _ _ (by simpa using above_ne t (par t i)) (fun z => by
      have := above_le t j i (by simpa using z)
      omega)]
    unfold join
    show ((strip (above t (par t i)).reverse (above t j).reverse).1 ++ [i]).reverse ++ _ = _
    rw [List.reverse_append]
    rfl
termination_by i + j
/-- the lengths along a way -/
def legs (t : Tr) : List Nat → List Int
  | x :: y :: r => (ln t (max x y) : Int) :: legs t (y :: r)
  | _ => []
theorem legs_snoc (t : Tr) : ∀ (r : List Nat) (x y : Nat), legs t (r ++ [x] ++ [y]) = legs t (r ++ [x]) ++ [(ln t (max x y) : Int)]
  | [], x, y => rfl
  | [a], x, y => rfl
  | a :: b :: r, x, y => by
    show (ln t (max a b) : Int) :: legs t ((b :: r) ++ [x] ++ [y]) = (ln t (max a b) : Int) :: legs t ((b :: r) ++ [x]) ++ [_]
    rw [legs_snoc t (b :: r) x y]
    rfl
theorem legs_sum (t : Tr) (i j : Nat) : (legs t (lway t i j)).sum = dist t i j := by
  rcases Nat.lt_trichotomy i j with h | h | h
  · have h1 := par_lt t (show 0 < j by omega)
    have ih := legs_sum t i (par t j)
    obtain ⟨r, e⟩ := lway_last t i (par t j)
    rw [lway_lt t h, dist_lt t h, ← ih, e, legs_snoc, List.sum_append, show max (par t j) j = j by omega]
    simp
  · subst h; rw [lway_self, dist_self]; rfl
  · have h1 := par_lt t (show 0 < i by omega)
    have ih := legs_sum t (par t i) j
    obtain ⟨r, e⟩ := lway_head t (par t i) j
    rw [lway_gt t h, dist_gt t h, ← ih, e]
    show ((ln t (max i (par t i)) : Int) :: legs t (par t i :: r)).sum = _
    rw [List.sum_cons, show max i (par t i) = i by omega]
termination_by i + j
/-- neighbours on a list differ -/
def Ok2 : List Nat → Prop
  | x :: y :: r => x ≠ y ∧ Ok2 (y :: r)
  | _ => True
theorem Ok2_snoc : ∀ (r : List Nat) (x y : Nat), Ok2 (r ++ [x]) → x ≠ y → Ok2 (r ++ [x] ++ [y])
  | [], x, y, _, h => ⟨h, trivial⟩
  | [a], x, y, h1, h => ⟨h1.1, h, trivial⟩
  | a :: b :: r, x, y, h1, h => ⟨h1.1, Ok2_snoc (b :: r) x y h1.2 h⟩
theorem Ok2_get : ∀ {w : List Nat} {i x y : Nat}, Ok2 w → w[i]? = some x → w[i + 1]? = some y → x ≠ y
  | [], _, _, _, _, h, _ => by simp at h
  | [a], _, _, _, _, _, h => by simp at h
  | a :: b :: r, 0, x, y, h, h1, h2 => by
    simp at h1 h2
    rw [← h1, ← h2]
    exact h.1
  | a :: b :: r, i + 1, x, y, h, h1, h2 => Ok2_get (w := b :: r) (i := i) h.2 (by simpa using h1) (by simpa using h2)
theorem lway_ok2 (t : Tr) (i j : Nat) : Ok2 (lway t i j) := by
  rcases Nat.lt_trichotomy i j with h | h | h
  · have h1 := par_lt t (show 0 < j by omega)
    have ih := lway_ok2 t i (par t j)
    obtain ⟨r, e⟩ := lway_last t i (par t j)
    rw [lway_lt t h, e]
    rw [e] at ih
    exact Ok2_snoc r _ _ ih (by omega)
  · subst h; rw [lway_self]; trivial
  · have h1 := par_lt t (show 0 < i by omega)
    have ih := lway_ok2 t (par t i) j
    obtain ⟨r, e⟩ := lway_head t (par t i) j
    rw [lway_gt t h, e]
    rw [e] at ih
    exact ⟨by omega, ih⟩
termination_by i + j
theorem strip_stop {A B : List Nat} (h : ∀ a x y b z u, A = a ++ [x] ++ [y] → B = b ++ [z] ++ [u] → x ≠ z) : join (strip A.reverse B.reverse) = A ++ B.dropLast.reverse := by
  have key : strip A.reverse B.reverse = (A.reverse, B.reverse) := by
    match ea : A.reverse, eb : B.reverse with
    | [], b => cases b <;> simp [strip]
    | [c], b => cases b with
      | nil => simp [strip]
      | cons d ys => cases ys <;> simp [strip]
    | c :: x :: xs, [] => simp [strip]
    | c :: x :: xs, [d] => simp [strip]
    | c :: x :: xs, d :: y :: ys =>
      have e1 : A = xs.reverse ++ [x] ++ [c] := by rw [← List.reverse_reverse A, ea]; simp
      have e2 : B = ys.reverse ++ [y] ++ [d] := by rw [← List.reverse_reverse B, eb]; simp
      have := h _ _ _ _ _ _ e1 e2
      rw [strip, if_neg this]
  unfold join
  rw [key, List.reverse_reverse, List.tail_reverse]
theorem strip_step (a : List Nat) (x y : Nat) (b : List Nat) (u : Nat) : join (strip (a ++ [x] ++ [y]).reverse (b ++ [x] ++ [u]).reverse) = join (strip (a ++ [x]).reverse (b ++ [x]).reverse) := by
  have e1 : (a ++ [x] ++ [y]).reverse = y :: x :: a.reverse := by simp
  have e2 : (b ++ [x] ++ [u]).reverse = u :: x :: b.reverse := by simp
  have e3 : (a ++ [x]).reverse = x :: a.reverse := by simp
  have e4 : (b ++ [x]).reverse = x :: b.reverse := by simp
  rw [e1, e2, e3, e4, strip, if_pos rfl]
end MT
namespace MT
def steps (t : Tr) (i j : Nat) : Nat := (lway t i j).length - 1
theorem steps_self (t : Tr) (i : Nat) : steps t i i = 0 := by unfold steps; rw [lway_self]; rfl
/-- the last row of a way -/
theorem last_edge (t : Tr) (i v : Nat) (h : i ≠ v) : ∃ q, lway t i v = lway t i q ++ [v] ∧ ((0 < v ∧ q = par t v ∧ dist t i v = dist t i q + ln t v) ∨ (0 < q ∧ q ≤ max i v ∧ v = par t q ∧ dist t i v = dist t i q + ln t q)) := by
  induction i using Nat.strongRecOn with
  | _ i ih =>
    by_cases h1 : i < v
    · exact ⟨par t v, lway_lt t h1, .inl ⟨by omega, rfl, dist_lt t h1⟩⟩
    · have hi : v < i := by omega
      have hp := par_lt t (show 0 < i by omega)
      by_cases h2 : par t i = v
      · refine ⟨i, ?_, .inr ⟨by omega, by omega, h2.symm, ?_⟩⟩
        · rw [lway_gt t hi, h2, lway_self, lway_self]
          rfl
        · rw [dist_gt t hi, h2, dist_self, dist_self]
          omega
      · obtain ⟨q, e, hq⟩ := ih _ hp h2
        have hqm : q ∈ lway t (par t i) v := by
          rw [e]
          obtain ⟨r, er⟩ := lway_last t (par t i) q
          rw [er]
          simp
        have hql := lway_mem t _ _ q hqm
        have hqi : q < i := by omega
        refine ⟨q, ?_, ?_⟩
        · rw [lway_gt t hi, e, lway_gt t hqi]
          rfl
        · rw [dist_gt t hi, dist_gt t hqi]
          rcases hq with ⟨a, b, c⟩ | ⟨a, b, c, d⟩
          · exact .inl ⟨a, b, by omega⟩
          · exact .inr ⟨a, by omega, c, by omega⟩
theorem lway_pos (t : Tr) (i j : Nat) : 0 < (lway t i j).length := by
  obtain ⟨r, e⟩ := lway_head t i j
  rw [e]; simp
theorem steps_last {t : Tr} {i v q : Nat} (e : lway t i v = lway t i q ++ [v]) : steps t i v = steps t i q + 1 := by
  unfold steps
  have := lway_pos t i q
  rw [e, List.length_append, List.length_singleton]
  omega
theorem getD_set (xs : List Int) (i j : Nat) (v : Int) : (xs.set i v).getD j 0 = if i = j ∧ j < xs.length then v else xs.getD j 0 := by
  rw [List.getD_eq_getElem?_getD, List.getD_eq_getElem?_getD]
  by_cases h : i = j
  · subst h
    by_cases hl : i < xs.length
    · rw [List.getElem?_set_self hl, if_pos ⟨rfl, hl⟩]; rfl
    · rw [if_neg (fun z => hl z.2), List.getElem?_eq_none (by rw [List.length_set]; omega), List.getElem?_eq_none (by omega)]
  · rw [List.getElem?_set_ne h, if_neg (fun z => h z.1)]
structure FarInv (t : Tr) (m j k : Nat) (xs : List Int) : Prop where
  len : xs.length = t.length + 1
  low : ∀ v, v ≤ t.length → dist t m v ≤ xs.getD v 0
  top : ∀ v, v ≤ t.length → xs.getD v 0 ≤ 1000000000000
  fit : ∀ v, v ≤ t.length → steps t m v ≤ j → xs.getD v 0 = dist t m v
  row : ∀ k', k' < k → (steps t m (par t (k' + 1)) ≤ j → xs.getD (k' + 1) 0 ≤ dist t m (par t (k' + 1)) + ln t (k' + 1)) ∧ (steps t m (k' + 1) ≤ j → xs.getD (par t (k' + 1)) 0 ≤ dist t m (k' + 1) + ln t (k' + 1))
theorem steps_zero {t : Tr} {m v : Nat} (h : steps t m v = 0) : m = v := by
  by_cases hk : m = v
  · exact hk
  · obtain ⟨q, e, _⟩ := last_edge t m v hk
    have := steps_last e
    omega
theorem FarInv.start {t : Tr} (ht : TreeOk t) {m : Nat} (hm : m ≤ t.length) : FarInv t m 0 0 ((List.replicate (t.length + 1) 1000000000000).set m 0) := by
  have hg : ∀ v, v ≤ t.length → ((List.replicate (t.length + 1) (1000000000000 : Int)).set m 0).getD v 0 = if m = v then 0 else 1000000000000 := by
    intro v hv
    rw [getD_set]
    by_cases h : m = v
    · rw [if_pos ⟨h, by rw [List.length_replicate]; omega⟩, if_pos h]
    · rw [if_neg (fun z => h z.1), if_neg h, List.getD_eq_getElem?_getD, List.getElem?_replicate, if_pos (by omega)]
      rfl
  have ht1 := ht.1
  refine ⟨by simp, fun v hv => ?_, fun v hv => ?_, fun v hv hs => ?_, fun k' h => by omega⟩
  · rw [hg v hv]
    split
    · next h => subst h; rw [dist_self]; omega
    · have := dist_le ht m v; omega
  · rw [hg v hv]; split <;> omega
  · have h := steps_zero (Nat.le_zero.mp hs)
    rw [hg v hv, if_pos h, ← h, dist_self]
theorem FarInv.next {t : Tr} (ht : TreeOk t) {m j : Nat} (hm : m ≤ t.length) {xs : List Int} (F : FarInv t m j t.length xs) : FarInv t m (j + 1) 0 xs := by
  refine ⟨F.len, F.low, F.top, fun v hv hs => ?_, fun k' h => by omega⟩
  by_cases hk : m = v
  · subst hk
    exact F.fit _ hv (by rw [steps_self]; omega)
  · obtain ⟨q, e, hq⟩ := last_edge t m v hk
    have h1 := steps_last e
    have lo := F.low v hv
    rcases hq with ⟨a, b, c⟩ | ⟨a, b, c, d⟩
    · subst b
      have := (F.row (v - 1) (by omega)).1
      rw [show v - 1 + 1 = v by omega] at this
      have := this (by omega)
      omega
    · have := (F.row (q - 1) (by omega)).2
      rw [show q - 1 + 1 = q by omega, ← c] at this
      have := this (by omega)
      omega
end MT
namespace MT
open DL (minI maxI minI_le minI_mem le_maxI maxI_mem minI_uniq maxI_uniq)
abbrev Wn := List (Int × Option Int)
def Win1 (w : Int × Option Int) : Prop := 0 ≤ w.1 ∧ w.1 ≤ 1000000000 ∧ ∀ l, w.2 = some l → w.1 ≤ l ∧ l ≤ 1000000000
def WinOk (t : Tr) (ws : Wn) : Prop := ws.length = t.length + 1 ∧ ∀ w ∈ ws, Win1 w
def lowsAt (t : Tr) (ws : Wn) (i : Nat) : List Int := ws.zipIdx.map fun q => q.1.1 - dist t i q.2
def earl (t : Tr) (ws : Wn) (i : Nat) : Int := maxI (lowsAt t ws i)
theorem mem_lows {t : Tr} {ws : Wn} {i : Nat} {x : Int} : x ∈ lowsAt t ws i ↔ ∃ k w, ws[k]? = some w ∧ x = w.1 - dist t i k := by
  unfold lowsAt
  rw [List.mem_map]
  constructor
  · rintro ⟨⟨w, k⟩, h, rfl⟩
    exact ⟨k, w, by
      obtain ⟨n, hn, e⟩ := List.getElem_of_mem h
      have h2 : ws.zipIdx[n]? = some (w, k) := by rw [List.getElem?_eq_getElem hn, e]
      rw [List.getElem?_zipIdx] at h2
      cases e3 : ws[n]? with
      | none => rw [e3] at h2; cases h2
      | some v =>
        rw [e3] at h2
        simp at h2
        rw [← h2.2, e3, h2.1], rfl⟩
  · rintro ⟨k, w, h, rfl⟩
    refine ⟨(w, k), ?_, rfl⟩
    have : ws.zipIdx[k]? = some (w, k) := by rw [List.getElem?_zipIdx, h]; simp
    exact List.mem_of_getElem? this
theorem lows_ne {t : Tr} {ws : Wn} {i : Nat} (h : 0 < ws.length) : lowsAt t ws i ≠ [] := by
  intro e
  have := congrArg List.length e
  unfold lowsAt at this
  simp at this
  rw [this] at h
  simp at h
theorem earl_le {t : Tr} {ws : Wn} {i : Nat} {b : Int} (hl : 0 < ws.length) (h : ∀ k w, ws[k]? = some w → w.1 - dist t i k ≤ b) : earl t ws i ≤ b := by
  obtain ⟨k, w, e1, e2⟩ := mem_lows.mp (maxI_mem (lows_ne (t := t) (i := i) hl))
  show maxI _ ≤ b
  rw [e2]
  exact h k w e1
def lastsAt (t : Tr) (ws : Wn) (i : Nat) : List Int := ws.zipIdx.filterMap fun q => q.1.2.map fun l => l + dist t i q.2
def late (t : Tr) (ws : Wn) (i : Nat) : Option Int := if lastsAt t ws i = [] then none else some (minI (lastsAt t ws i))
theorem mem_lasts {t : Tr} {ws : Wn} {i : Nat} {x : Int} : x ∈ lastsAt t ws i ↔ ∃ k w l, ws[k]? = some w ∧ w.2 = some l ∧ x = l + dist t i k := by
  unfold lastsAt
  rw [List.mem_filterMap]
  constructor
  · rintro ⟨⟨w, k⟩, h, e⟩
    obtain ⟨n, hn, e1⟩ := List.getElem_of_mem h
    have h2 : ws.zipIdx[n]? = some (w, k) := by rw [List.getElem?_eq_getElem hn, e1]
    rw [List.getElem?_zipIdx] at h2
    cases e3 : ws[n]? with
    | none => rw [e3] at h2; cases h2
    | some v =>
      rw [e3] at h2
      simp at h2
      cases e4 : w.2 with
      | none => dsimp only at e; rw [e4] at e; cases e
      | some l =>
        dsimp only at e
        rw [e4] at e
        cases e
        exact ⟨k, w, l, by rw [← h2.2, e3, h2.1], e4, rfl⟩
  · rintro ⟨k, w, l, h, hl, rfl⟩
    refine ⟨(w, k), ?_, by dsimp only; rw [hl]; rfl⟩
    have : ws.zipIdx[k]? = some (w, k) := by rw [List.getElem?_zipIdx, h]; simp
    exact List.mem_of_getElem? this
structure Fits (t : Tr) (ws : Wn) (xs : List Int) : Prop where
  len : xs.length = ws.length
  low : ∀ (i : Nat) (x : Int) (w : Int × Option Int), xs[i]? = some x → ws[i]? = some w → w.1 ≤ x ∧ x ≤ 2000000000
  high : ∀ (i : Nat) (x l : Int) (w : Int × Option Int), xs[i]? = some x → ws[i]? = some w → w.2 = some l → x ≤ l
  row : ∀ (k : Nat) (p : Nat × Nat), t[k]? = some p → xs.getD (k + 1) 0 - xs.getD p.1 0 ≤ p.2 ∧ xs.getD p.1 0 - xs.getD (k + 1) 0 ≤ p.2
def lasts2 (ws : Wn) : List (Nat × Int) := ws.zipIdx.filterMap fun q => q.1.2.map fun l => (q.2, l)
theorem lastsAt_eq (t : Tr) (ws : Wn) (i : Nat) : lastsAt t ws i = (lasts2 ws).map fun p => p.2 + dist t i p.1 := by
  unfold lastsAt lasts2
  rw [List.map_filterMap]
  congr 1
  funext q
  cases q.1.2 <;> rfl
theorem lastsAt_nil {t : Tr} {ws : Wn} {i : Nat} : lastsAt t ws i = [] ↔ lasts2 ws = [] := by rw [lastsAt_eq, List.map_eq_nil_iff]
def latI (t : Tr) (ws : Wn) (i : Nat) : Int := minI (lastsAt t ws i)
theorem latI_ge {t : Tr} {ws : Wn} {i : Nat} {b : Int} (hn : lasts2 ws ≠ []) (h : ∀ k w l, ws[k]? = some w → w.2 = some l → b ≤ l + dist t i k) : b ≤ latI t ws i := by
  obtain ⟨k, w, l, e1, e2, e3⟩ := mem_lasts.mp (minI_mem fun e => hn (lastsAt_nil (t := t) (i := i) |>.mp e))
  show b ≤ minI _
  rw [e3]
  exact h k w l e1 e2
end MT
namespace MT
open DL (minI maxI minI_le minI_mem le_maxI maxI_mem minI_uniq maxI_uniq)
theorem tab_lip {t : Tr} (ht : TreeOk t) {xs : List Int} (h : ∀ (k : Nat) (p : Nat × Nat), t[k]? = some p → xs.getD (k + 1) 0 - xs.getD p.1 0 ≤ p.2 ∧ xs.getD p.1 0 - xs.getD (k + 1) 0 ≤ p.2) :
    ∀ (n i j : Nat), i + j ≤ n → i ≤ t.length → j ≤ t.length → xs.getD i 0 ≤ xs.getD j 0 + dist t i j
  | 0, i, j, hn, hi, hj => by
    have h1 : i = 0 := by omega
    have h2 : j = 0 := by omega
    subst h1
    subst h2
    rw [dist_self]
    omega
  | n + 1, i, j, hn, hi, hj => by
    by_cases e : i = j
    · subst e
      rw [dist_self]
      omega
    · by_cases hlt : j < i
      · have hk : i - 1 < t.length := by omega
        have ek := List.getElem?_eq_getElem hk
        have hp := par_of ht ek
        have hq := (ht.2 _ _ ek).1
        rw [show i - 1 + 1 = i by omega] at hp
        have hr := h _ _ ek
        rw [show i - 1 + 1 = i by omega] at hr
        have ih := tab_lip ht h n (par t i) j (by rw [hp.1]; omega) (by rw [hp.1]; omega) hj
        rw [dist_gt t hlt, hp.2]
        rw [hp.1] at ih ⊢
        omega
      · have hlt : i < j := by omega
        have hk : j - 1 < t.length := by omega
        have ek := List.getElem?_eq_getElem hk
        have hp := par_of ht ek
        have hq := (ht.2 _ _ ek).1
        rw [show j - 1 + 1 = j by omega] at hp
        have hr := h _ _ ek
        rw [show j - 1 + 1 = j by omega] at hr
        have ih := tab_lip ht h n i (par t j) (by rw [hp.1]; omega) hi (by rw [hp.1]; omega)
        rw [dist_lt t hlt, hp.2]
        rw [hp.1] at ih ⊢
        omega
theorem Fits.lip {t : Tr} (ht : TreeOk t) {ws : Wn} {xs : List Int} (h : Fits t ws xs) {i j : Nat} (hi : i ≤ t.length) (hj : j ≤ t.length) : xs.getD i 0 ≤ xs.getD j 0 + dist t i j := tab_lip ht h.row (i + j) i j (Nat.le_refl _) hi hj
theorem get_of {xs : List Int} {i : Nat} (h : i < xs.length) : xs[i]? = some (xs.getD i 0) := by rw [List.getD_eq_getElem?_getD, List.getElem?_eq_getElem h]; rfl
theorem Fits.ge {t : Tr} (ht : TreeOk t) {ws : Wn} (hw : WinOk t ws) {xs : List Int} (h : Fits t ws xs) {i : Nat} (hi : i ≤ t.length) : earl t ws i ≤ xs.getD i 0 := earl_le (by have := hw.1; omega) fun k w e => by
  have hk := (List.getElem?_eq_some_iff.mp e).1
  have hwl := hw.1
  have hxl := h.len
  have h1 := (h.low k _ w (get_of (by omega)) e).1
  have h2 := h.lip ht (i := k) (j := i) (by omega) hi
  have h3 := dist_comm t k i
  omega
theorem Fits.le {t : Tr} (ht : TreeOk t) {ws : Wn} (hw : WinOk t ws) {xs : List Int} (h : Fits t ws xs) (hn : lasts2 ws ≠ []) {i : Nat} (hi : i ≤ t.length) : xs.getD i 0 ≤ latI t ws i := latI_ge hn fun k w l e el => by
  have hk := (List.getElem?_eq_some_iff.mp e).1
  have hwl := hw.1
  have hxl := h.len
  have h1 := h.high k _ l w (get_of (by omega)) e el
  have h2 := h.lip ht (i := i) (j := k) hi (by omega)
  omega
def gd (t : Tr) (ws : Wn) (i j : Nat) : Int := match late t ws i with
  | none => dist t i j
  | some v => if v - earl t ws j < dist t i j then v - earl t ws j else dist t i j
theorem flat_len {α : Type} (f : α → List (List Int)) {c : Nat} : ∀ (L : List α), (∀ x ∈ L, (f x).length ≤ c) → (L.flatMap f).length ≤ c * L.length
  | [], _ => by simp
  | x :: L, h => by
    have h1 := h x (by simp)
    have h2 := flat_len f L fun y hy => h y (List.mem_cons_of_mem _ hy)
    rw [List.flatMap_cons, List.length_append, List.length_cons, Nat.mul_add]
    omega
end MT
namespace DL
open PySem PySem.Spec PyProof.Rows L2 MT
@[reducible] def rowD (p : Nat × Nat) : D := .tup [.int p.1, .int p.2]
@[reducible] def treeD (t : Tr) : D := .tup (t.map rowD)
@[reducible] def natD (n : Nat) : D := .int n
theorem tree_at {t : Tr} {i : Int} {k : Nat} (e : i = k) {p : Nat × Nat} (h : t[k]? = some p) : atI (t.map rowD) i = some (rowD p) := atI_of e (by rw [List.getElem?_map, h]; rfl)
theorem tree_get {t : Tr} {m : Nat} (ht : TreeOk t) (h0 : 0 < m) (h1 : m ≤ t.length) : ∃ p, t[m - 1]? = some p ∧ par t m = p.1 ∧ ln t m = p.2 ∧ p.1 < m := by
  have hl : m - 1 < t.length := by omega
  refine ⟨t[m - 1], List.getElem?_eq_getElem hl, ?_⟩
  have := par_of ht (List.getElem?_eq_getElem hl)
  rw [show m - 1 + 1 = m by omega] at this
  have hp := (ht.2 _ _ (List.getElem?_eq_getElem hl)).1
  exact ⟨this.1, this.2, by omega⟩
theorem intsOf_ints (ns : List Int) : intsOf (ns.map D.int) = some ns := by
  induction ns with
  | nil => rfl
  | cons n ns ih => rw [List.map_cons, intsOf, ih]; rfl
theorem bels_int (n : Nat) (xs : List Int) : bels n (xs.map D.int) = true := bels_of fun d hd => by
  obtain ⟨i, _, rfl⟩ := List.mem_map.mp hd
  rfl
theorem See.drop' {n : Nat} {Q : DK} {d : D} (M : Sto) {M' : Sto} (hn : M.length = n) (hd : bel n d = true) (hb : stoBel n M) (h : Q d M) : See n Q d (M ++ M') := by
  subst hn
  exact See.drop hd hb h
theorem get_mid (M : Sto) (c : Cell) (G : Sto) : (M ++ c :: G)[M.length]? = some c := by rw [List.getElem?_append_right (Nat.le_refl _)]; simp
theorem set_mid (M : Sto) (c d : Cell) (G : Sto) : (M ++ c :: G).set M.length d = M ++ d :: G := by rw [List.set_append_right _ _ (Nat.le_refl _)]; simp
theorem rep_flat (k : Nat) (d : D) : (List.replicate k [d]).flatten = List.replicate k d := by
  induction k with
  | zero => rfl
  | succ k ih => rw [List.replicate_succ, List.flatten_cons, ih, List.replicate_succ]; rfl
theorem bels_nat (n : Nat) (xs : List Nat) : bels n (xs.map natD) = true := bels_of fun d hd => by
  obtain ⟨i, _, rfl⟩ := List.mem_map.mp hd
  rfl
theorem bel_nat (n : Nat) (xs : List Nat) : bel n (.tup (xs.map natD)) = true := bels_nat n xs
theorem cut_1 {α : Type} (xs : List α) : cut xs (some 1) none = xs.drop 1 := by
  unfold cut
  rw [show HT.sIx xs.length 0 (some 1) = min 1 xs.length from HT.sIx_nat xs.length 0 1, HT.sIx_none]
  cases xs with
  | nil => rfl
  | cons x r =>
    rw [show min 1 (x :: r).length = 1 by rw [List.length_cons]; omega]
    show List.take (r.length + 1 - 1) r = r
    rw [Nat.add_sub_cancel, List.take_length]
def spLaw : DSp := fun args M Q _ => ∃ ns, args = [.scr ns] ∧ M = [] ∧ ns.length ≤ 63 ∧ ∀ M', Q (.bl true) M'
theorem getD_mem {xs : List Int} {j : Nat} (h : j < xs.length) : xs.getD j 0 ∈ xs := by
  rw [List.getD_eq_getElem?_getD, List.getElem?_eq_getElem h]
  exact List.getElem_mem h
theorem tyNm_non (M : Sto) : tyNm .non M = some "NoneType" := rfl
theorem tyNm_bl (b : Bool) (M : Sto) : tyNm (.bl b) M = some "bool" := rfl
theorem tyNm_int (i : Int) (M : Sto) : tyNm (.int i) M = some "int" := rfl
theorem tyNm_str (x : Str) (M : Sto) : tyNm (.str x) M = some "str" := rfl
theorem tyNm_tup (ds : List D) (M : Sto) : tyNm (.tup ds) M = some "tuple" := rfl
theorem tyNm_lst (ds : List D) (M : Sto) : tyNm (.lst ds) M = some "list" := rfl
theorem tyNm_dct (ks : List Key) (ds : List D) (M : Sto) : tyNm (.dct ks ds) M = some "dict" := rfl
theorem tabInt_NoneType : tabInt "NoneType" = false := by decide
theorem tabInt_bool : tabInt "bool" = true := by decide
theorem tabInt_int : tabInt "int" = true := by decide
theorem tabInt_str : tabInt "str" = false := by decide
theorem tabInt_tuple : tabInt "tuple" = false := by decide
theorem tabInt_list : tabInt "list" = false := by decide
theorem tabInt_dict : tabInt "dict" = false := by decide
theorem tabBool_NoneType : tabBool "NoneType" = false := by decide
theorem tabBool_bool : tabBool "bool" = true := by decide
theorem tabBool_int : tabBool "int" = false := by decide
theorem tabBool_str : tabBool "str" = false := by decide
theorem tabBool_tuple : tabBool "tuple" = false := by decide
theorem tabBool_list : tabBool "list" = false := by decide
theorem tabBool_dict : tabBool "dict" = false := by decide
theorem tabTuple_NoneType : tabTuple "NoneType" = false := by decide
theorem tabTuple_bool : tabTuple "bool" = false := by decide
theorem tabTuple_int : tabTuple "int" = false := by decide
theorem tabTuple_str : tabTuple "str" = false := by decide
theorem tabTuple_tuple : tabTuple "tuple" = true := by decide
theorem tabTuple_list : tabTuple "list" = false := by decide
theorem tabTuple_dict : tabTuple "dict" = false := by decide
theorem tabStr_NoneType : tabStr "NoneType" = false := by decide
theorem tabStr_bool : tabStr "bool" = false := by decide
theorem tabStr_int : tabStr "int" = false := by decide
theorem tabStr_str : tabStr "str" = true := by decide
theorem tabStr_tuple : tabStr "tuple" = false := by decide
theorem tabStr_list : tabStr "list" = false := by decide
theorem tabStr_dict : tabStr "dict" = false := by decide
theorem tabList_NoneType : tabList "NoneType" = false := by decide
theorem tabList_bool : tabList "bool" = false := by decide
theorem tabList_int : tabList "int" = false := by decide
theorem tabList_str : tabList "str" = false := by decide
theorem tabList_tuple : tabList "tuple" = false := by decide
theorem tabList_list : tabList "list" = true := by decide
theorem tabList_dict : tabList "dict" = false := by decide
theorem vw_tup (ds : List D) (M : Sto) : vw (.tup ds) M = .tup ds := rfl
theorem vw_lst (ds : List D) (M : Sto) : vw (.lst ds) M = .lst ds := rfl
theorem vw_int (i : Int) (M : Sto) : vw (.int i) M = .int i := rfl
theorem vw_str (x : Str) (M : Sto) : vw (.str x) M = .str x := rfl
theorem vw_bl (b : Bool) (M : Sto) : vw (.bl b) M = .bl b := rfl
theorem vw_non (M : Sto) : vw .non M = .non := rfl
theorem get_ga (M G : Sto) (a : Cell) (r : Sto) : (M ++ (G ++ a :: r))[M.length + G.length]? = some a := by
  rw [← List.append_assoc, ← List.length_append]
  exact get_mid (M ++ G) a r
theorem get_gb (M G : Sto) (a b : Cell) (r : Sto) : (M ++ (G ++ a :: b :: r))[M.length + G.length + 1]? = some b := by
  have := get_ga M (G ++ [a]) b r
  rw [List.append_assoc, List.length_append, List.length_singleton] at this
  exact this
theorem set_ga (M G : Sto) (a c : Cell) (r : Sto) : (M ++ (G ++ a :: r)).set (M.length + G.length) c = M ++ (G ++ c :: r) := by
  rw [← List.append_assoc, ← List.length_append, set_mid, List.append_assoc]
theorem set_gb (M G : Sto) (a b c : Cell) (r : Sto) : (M ++ (G ++ a :: b :: r)).set (M.length + G.length + 1) c = M ++ (G ++ a :: c :: r) := by
  have := set_ga M (G ++ [a]) b c r
  rw [List.append_assoc, List.append_assoc, List.length_append, List.length_singleton] at this
  exact this
theorem range_2 : List.range 2 = [0, 1] := rfl
theorem lc_filL {α : Type} {st : Sto → Prop} {step : D → Sto → (Option D → Sto → Prop) → Prop} (g : α → D) (f : α → Option D) {L : List α} {M : Sto} {Q : List D → Sto → Prop} (hst : st M) (hl : L.length ≤ 100000) (hs : ∀ x ∈ L, ∀ k : Option D → Sto → Prop, k (f x) M → step (g x) M k) (q : Q (L.filterMap f) M) : lcI st step (L.map g) M Q := by
  have lf : ∀ n, ((L.take n).filterMap f).length ≤ n := fun n => Nat.le_trans (List.length_filterMap_le _ _) (by rw [List.length_take]; omega)
  refine ⟨fun done todo acc M' => done ++ todo = L.map g ∧ M' = M ∧ acc = (L.take done.length).filterMap f, ⟨rfl, rfl, rfl⟩, fun _ _ _ M' h => by rw [h.2.1]; exact hst, ?_, ?_⟩
  · rintro done d todo acc M' ⟨e, rfl, rfl⟩
    obtain ⟨x, hx, rfl, hlt⟩ := map_mid e
    have hl2 := lf done.length
    refine hs x (List.mem_of_getElem? hx) _ ?_
    have e1 : (L.take (done ++ [g x]).length).filterMap f = (L.take done.length).filterMap f ++ (f x).toList := by
      rw [List.length_append, List.length_singleton, take_more hx, List.filterMap_append]
      cases e2 : f x with
      | none => simp [e2]
      | some y => simp [e2]
    cases e2 : f x with
    | none =>
      rw [e2] at e1
      exact ⟨by rw [List.append_assoc]; exact e, rfl, by rw [e1]; simp⟩
    | some y =>
      rw [e2] at e1
      exact ⟨by omega, by rw [List.append_assoc]; exact e, rfl, by rw [e1]; simp⟩
  · rintro done acc M' ⟨e, rfl, rfl⟩
    rw [map_done e]
    exact q
theorem lc_mapL {α : Type} {st : Sto → Prop} {step : D → Sto → (Option D → Sto → Prop) → Prop} (g : α → D) (f : α → D) {L : List α} {M : Sto} {Q : List D → Sto → Prop} (hst : st M) (hl : L.length ≤ 100000) (hs : ∀ x ∈ L, ∀ k : Option D → Sto → Prop, k (some (f x)) M → step (g x) M k) (q : Q (L.map f) M) : lcI st step (L.map g) M Q :=
  lc_filL g (fun x => some (f x)) hst hl hs (by
    have : L.filterMap (fun x => some (f x)) = L.map f := by induction L with
      | nil => rfl
      | cons a l ih => simp
    rw [this]
    exact q)
theorem rng_at {n : Nat} {done todo : List D} {d : D} (e : done ++ d :: todo = rng 0 n) : d = natD done.length ∧ done.length < n := by
  obtain ⟨h1, h2⟩ := rng_mid e
  exact ⟨by rw [h1, Int.zero_add], h2⟩
end DL
set_option maxHeartbeats 2000000
namespace L2
open PySem PySem.Spec PyProof.Rows
end L2
namespace DL
open PySem PySem.Spec PyProof.Rows L2
theorem cut_to {α : Type} (xs : List α) (k : Nat) : cut xs none (some (k : Int)) = xs.take k := by
  unfold cut
  rw [HT.sIx_none, HT.sIx_nat, List.drop_zero, Nat.sub_zero]
  by_cases h : k ≤ xs.length
  · rw [Nat.min_eq_left h]
  · rw [Nat.min_eq_right (by omega), List.take_of_length_le (by omega), List.take_of_length_le (by omega)]
theorem cut_from {α : Type} (xs : List α) (k : Nat) : cut xs (some (k : Int)) none = xs.drop k := by
  unfold cut
  rw [HT.sIx_none, HT.sIx_nat]
  by_cases h : k ≤ xs.length
  · rw [Nat.min_eq_left h, List.take_of_length_le (by rw [List.length_drop]; omega)]
  · rw [Nat.min_eq_right (by omega), List.drop_of_length_le (by omega), List.drop_of_length_le (by omega), List.take_nil]
end DL
set_option maxHeartbeats 1000000
namespace PySem
end PySem
set_option maxHeartbeats 1000000
namespace PySem
/-- a list (false) or a tuple (true) that zip walks -/
structure Zq where
  t : Bool
  l : Addr
  xs : Array Value
def Zq.At (q : Zq) (h : Heap) : Prop := if q.t = true then h.IsTuple q.l q.xs else h.IsList q.l q.xs
def Zq.It (q : Zq) (it : Addr) (i : Nat) (h : Heap) : Prop := if q.t = true then h.IsTupleIter it q.l i else h.IsListIter it q.l i
section
variable {prog : Program} {w : World} {A : Around} {E : Value → Shared → Prop} {s : Shared}
theorem Zq.iter {q : Zq} {Q : Value → Shared → Prop} (a : q.At s.heap) (h : ∀ h', q.It s.heap.objs.size 0 h' → h'.objs.size = s.heap.objs.size + 1 → (∀ c o, s.heap.get? c = some o → h'.get? c = some o) → Q (.ref s.heap.objs.size) { s with heap := h' }) : wpAny (model prog w) A (pyIter (.ref q.l)) Q E s := by
  unfold Zq.At at a
  split at a
  · next e => exact wpAny_pyIter_tuple a (h _ (by unfold Zq.It; rw [if_pos e]; exact ⟨_, Heap.get?_push_size _ rfl, rfl, rfl⟩) (Heap.size_push ..) fun c o x => Heap.get?_push_of_some _ x)
  · next e => exact wpAny_pyIter_list a (h _ (by unfold Zq.It; rw [if_neg e]; exact ⟨_, Heap.get?_push_size _ rfl, rfl, rfl⟩) (Heap.size_push ..) fun c o x => Heap.get?_push_of_some _ x)
end
end PySem
set_option maxHeartbeats 1000000
namespace PySem
end PySem
namespace L2
open PySem PySem.Spec PyProof.Rows
def SqK (K : PySem.W.Frag) (H : Hp) (a : Bool × Addr) (xs : List V) : Prop := if a.1 = true then SqT K H a.2 xs else SqL K H a.2 xs
theorem SqK.at {X : Cx} {pins : List (Addr × Obj)} {σ : L2.St} {H : Hp} {s : Shared} (I : Inv X pins σ H s) {a : Bool × Addr} {xs : List V} (h : SqK X.K H a xs) : ∃ its : List Value, Vals xs its ∧ (⟨a.1, a.2, its.toArray⟩ : Zq).At s.heap ∧ xs.length ≤ sizeLine := by
  unfold SqK at h
  split at h
  · next e =>
    obtain ⟨its, r, p, z⟩ := I.tuple h
    exact ⟨its, r, by unfold Zq.At; rw [if_pos e]; exact p, z⟩
  · next e =>
    obtain ⟨its, r, p, z⟩ := I.list h
    exact ⟨its, r, by unfold Zq.At; rw [if_neg e]; exact p.isList, z⟩
theorem SqK.inj {X : Cx} {pins : List (Addr × Obj)} {σ : L2.St} {H : Hp} {s : Shared} (I : Inv X pins σ H s) {a : Bool × Addr} {xs ys : List V} (h : SqK X.K H a xs) (h' : SqK X.K H a ys) : xs = ys := by
  unfold SqK at h h'
  split at h
  · next e => rw [if_pos e] at h'; exact I.tuple_inj h h'
  · next e => rw [if_neg e] at h'; exact I.list_inj h h'
end L2
set_option maxHeartbeats 1000000
namespace L2
open PySem PySem.Spec PyProof.Rows
end L2
set_option maxHeartbeats 1000000
namespace DL
open PySem PySem.Spec PyProof.Rows L2
def seqD : D → Option (Bool × List D)
  | .tup xs => some (true, xs)
  | .lst xs => some (false, xs)
  | _ => none
def seqDs : List D → Option (List (Bool × List D))
  | [] => some []
  | d :: ds => match seqD d, seqDs ds with
    | some q, some qs => some (q :: qs)
    | _, _ => none
end DL
set_option maxHeartbeats 1000000
namespace DL
open PySem PySem.Spec PyProof.Rows L2
end DL
set_option maxHeartbeats 1000000
namespace DL
open PySem PySem.Spec PyProof.Rows L2
end DL
set_option maxHeartbeats 1000000
namespace DL
open PySem PySem.Spec PyProof.Rows L2 MT
@[reducible] def tabD (xs : List Int) : D := .tup (xs.map D.int)
theorem seqD_tup (ds : List D) : seqD (.tup ds) = some (true, ds) := rfl
theorem seqD_lst (ds : List D) : seqD (.lst ds) = some (false, ds) := rfl
theorem seqDs_lt (a b : List D) : seqDs [.lst a, .tup b] = some [(false, a), (true, b)] := rfl
theorem seqDs_tt (a b : List D) : seqDs [.tup a, .tup b] = some [(true, a), (true, b)] := rfl
theorem seqDs_tl (a b : List D) : seqDs [.tup a, .lst b] = some [(true, a), (false, b)] := rfl
theorem seqDs_ll (a b : List D) : seqDs [.lst a, .lst b] = some [(false, a), (false, b)] := rfl
theorem Pl.same {h : Nat} {d : D} (s : DL.Pl h d) : PyData.eqv (toPy d) (toPy d) = true := PySem.SeqAt.eqv_refl _ s.ok'.2.1
theorem pl_ints (xs : List Int) : Pl 1 (.tup (xs.map D.int)) := .tup fun d hd => by
  obtain ⟨i, _, rfl⟩ := List.mem_map.mp hd
  exact Pl.int i
theorem eqvAll_ints : ∀ xs ys : List Int, PyData.eqvAll (toPys (xs.map D.int)) (toPys (ys.map D.int)) = decide (xs = ys)
  | [], [] => rfl
  | [], _ :: _ => rfl
  | _ :: _, [] => rfl
  | x :: xs, y :: ys => by
    show (x == y && PyData.eqvAll (toPys (xs.map D.int)) (toPys (ys.map D.int))) = _
    rw [eqvAll_ints xs ys]
    by_cases h : x = y <;> by_cases h2 : xs = ys <;> simp [h, h2]
theorem eqv_tabs (xs ys : List Int) : PyData.eqv (toPy (.tup (xs.map D.int))) (toPy (.tup (ys.map D.int))) = decide (xs = ys) := eqvAll_ints xs ys
end DL
set_option maxHeartbeats 1000000
namespace DL
open PySem PySem.Spec PyProof.Rows L2 MT
def dk (cs : List Int) (n : Int) : Sto := [.lst (cs.map D.int), .lst [.ref 0, .int n]]
def Good (b : Nat) (cs : List Int) (n : Int) : Prop := cs.length ≤ 63 ∧ (∀ c ∈ cs, 0 ≤ c) ∧ 0 ≤ n ∧ n + b ≤ 1000000
theorem Good.le {b b' : Nat} {cs : List Int} {n : Int} (g : Good b cs n) (h : b' ≤ b) : Good b' cs n := ⟨g.1, g.2.1, g.2.2.1, by have := g.2.2.2; omega⟩
def spDraw : DSp := fun args M Q _ => ∃ (cs : List Int) (n : Int) (R : Sto) (lim : Int) (b : Nat), args = [.ref 1, .int lim] ∧ M = dk cs n ++ R ∧ Good (b + 1) cs n ∧ 0 < lim ∧ lim < 1073741824 ∧ ∀ r cs' n', 0 ≤ r → r < lim → Good b cs' n' → Q (.int r) (dk cs' n' ++ R)
def spDeck : DSp := fun args M Q _ => ∃ ns, args = [.scr ns] ∧ M = [] ∧ ns.length ≤ 63 ∧ ∀ cs, Good 1000000 cs 0 → Q (.ref 1) (dk cs 0)
theorem dr {cs : List Int} {n : Int} {R : Sto} {lim : Int} {b : Nat} {Q : DK} {E : DXK} (g : Good (b + 1) cs n) (h0 : 0 < lim) (h1 : lim < 1073741824) (k : ∀ (r : Nat) (cs' : List Int) (n' : Int), (r : Int) < lim → Good b cs' n' → Q (.int r) (dk cs' n' ++ R)) : spDraw [.ref 1, .int lim] (dk cs n ++ R) Q E :=
  ⟨cs, n, R, lim, b, rfl, rfl, g, h0, h1, fun r cs' n' r0 r1 g' => by
    obtain ⟨r, rfl⟩ := Int.eq_ofNat_of_zero_le r0
    exact k r cs' n' r1 g'⟩
theorem dk_len (cs : List Int) (n : Int) (R : Sto) : (dk cs n ++ R).length = R.length + 2 := by unfold dk; simp
theorem get_dk (cs : List Int) (n : Int) (R : Sto) (c : Cell) : (dk cs n ++ (R ++ [c]))[R.length + 2]? = some c := by
  have := get_new (dk cs n ++ R) c
  rw [dk_len, List.append_assoc] at this
  exact this
theorem set_dk (cs : List Int) (n : Int) (R : Sto) (c d : Cell) : (dk cs n ++ (R ++ [c])).set (R.length + 2) d = dk cs n ++ (R ++ [d]) := by
  have := set_new (dk cs n ++ R) c d
  rw [dk_len, List.append_assoc, List.append_assoc] at this
  exact this
theorem dk_bel {m : Nat} {cs cs' : List Int} {n n' : Int} {R : Sto} (h : stoBel m (dk cs n ++ R)) : stoBel m (dk cs' n' ++ R) := fun c hc => by
  rcases List.mem_append.mp hc with z | z
  · have h2 := h _ (List.mem_append_left _ (show Cell.lst [.ref 0, .int n] ∈ dk cs n by unfold dk; simp))
    unfold dk at z
    have z : c = .lst (cs'.map D.int) ∨ c = .lst [.ref 0, .int n'] := by simpa using z
    rcases z with rfl | rfl
    · exact bels_int _ _
    · exact h2
  · exact h c (List.mem_append_right _ z)
theorem see_dk {cs cs' : List Int} {n n' : Int} {R M' : Sto} {Q : DK} {d : D} (hM : stoBel (List.length (dk cs n ++ R)) (dk cs n ++ R)) (hd : bel (R.length + 2) d = true) (q : Q d (dk cs' n' ++ R)) : See (List.length (dk cs n) + List.length R) Q d (dk cs' n' ++ (R ++ M')) := by
  rw [← List.append_assoc, ← List.length_append]
  exact See.drop' (dk cs' n' ++ R) (by rw [dk_len, dk_len]) (by rw [dk_len]; exact hd) (dk_bel hM) q
theorem dk_two (cs : List Int) (n : Int) (R : Sto) : List.length (dk cs n) + List.length R = R.length + 2 := by rw [← List.length_append, dk_len]
theorem lc_dk {st : Sto → Prop} {step : D → Sto → (Option D → Sto → Prop) → Prop} {m : Nat} {cs : List Int} {n : Int} {R : Sto} {Q : List D → Sto → Prop} (b c : Nat) (P : Nat → D → Prop) (hst : ∀ M, st M) (g : Good (b + c * m) cs n) (hm : m ≤ 100000)
    (hs : ∀ (j : Nat) (cs : List Int) (n : Int) (rest : Nat), j < m → Good (b + c * rest + c) cs n → ∀ k : Option D → Sto → Prop, (∀ (y : D) (cs' : List Int) (n' : Int), P j y → Good (b + c * rest) cs' n' → k (some y) (dk cs' n' ++ R)) → step (.int (j : Int)) (dk cs n ++ R) k)
    (q : ∀ (ys : List D) (cs' : List Int) (n' : Int), ys.length = m → (∀ (j : Nat) (y : D), ys[j]? = some y → P j y) → Good b cs' n' → Q ys (dk cs' n' ++ R)) : lcI st step (rng 0 m) (dk cs n ++ R) Q := by
  refine ⟨fun done todo acc M => done ++ todo = rng 0 m ∧ acc.length = done.length ∧ (∀ (j : Nat) (y : D), acc[j]? = some y → P j y) ∧ ∃ (cs : List Int) (n : Int), M = dk cs n ++ R ∧ Good (b + c * todo.length) cs n, ⟨rfl, rfl, fun j y e => by simp at e, cs, n, rfl, by rw [rng_length]; exact g⟩, fun _ _ _ M _ => hst M, ?_, ?_⟩
  · rintro done d todo acc M ⟨e, hl, hp, cs, n, rfl, g⟩
    obtain ⟨rfl, hlt⟩ := rng_mid e
    rw [List.length_cons, Nat.mul_add, Nat.mul_one, ← Nat.add_assoc] at g
    rw [Int.zero_add]
    refine hs done.length cs n todo.length hlt g _ fun y cs' n' hy g' => ?_
    refine ⟨by omega, by rw [List.append_assoc, ← Int.zero_add (done.length : Int)]; exact e, by simp [hl], fun j z ez => ?_, cs', n', rfl, g'⟩
    by_cases hj : j < acc.length
    · rw [List.getElem?_append_left hj] at ez
      exact hp j z ez
    · have hj2 := (List.getElem?_eq_some_iff.mp ez).1
      rw [List.length_append, List.length_singleton] at hj2
      have hj3 : j = acc.length := by omega
      subst hj3
      rw [List.getElem?_append_right (Nat.le_refl _)] at ez
      simp at ez
      subst ez
      rw [hl]
      exact hy
  · rintro done acc M ⟨e, hl, hp, cs, n, rfl, g⟩
    rw [List.append_nil] at e
    have hd := congrArg List.length e
    rw [rng_length] at hd
    exact q acc cs n (by omega) hp g
theorem lc_dkL {st : Sto → Prop} {step : D → Sto → (Option D → Sto → Prop) → Prop} {ds : List D} {cs : List Int} {n : Int} {R : Sto} {Q : List D → Sto → Prop} (b c : Nat) (P : Nat → D → Prop) (hst : ∀ M, st M) (g : Good (b + c * ds.length) cs n) (hm : ds.length ≤ 100000)
    (hs : ∀ (j : Nat) (d : D) (cs : List Int) (n : Int) (rest : Nat), ds[j]? = some d → Good (b + c * rest + c) cs n → ∀ k : Option D → Sto → Prop, (∀ (y : D) (cs' : List Int) (n' : Int), P j y → Good (b + c * rest) cs' n' → k (some y) (dk cs' n' ++ R)) → step d (dk cs n ++ R) k)
    (q : ∀ (ys : List D) (cs' : List Int) (n' : Int), ys.length = ds.length → (∀ (j : Nat) (y : D), ys[j]? = some y → P j y) → Good b cs' n' → Q ys (dk cs' n' ++ R)) : lcI st step ds (dk cs n ++ R) Q := by
  refine ⟨fun done todo acc M => done ++ todo = ds ∧ acc.length = done.length ∧ (∀ (j : Nat) (y : D), acc[j]? = some y → P j y) ∧ ∃ (cs : List Int) (n : Int), M = dk cs n ++ R ∧ Good (b + c * todo.length) cs n, ⟨rfl, rfl, fun j y e => by simp at e, cs, n, rfl, g⟩, fun _ _ _ M _ => hst M, ?_, ?_⟩
  · rintro done d todo acc M ⟨e, hl, hp, cs, n, rfl, g⟩
    have hlen := congrArg List.length e
    rw [List.length_append, List.length_cons] at hlen
    rw [List.length_cons, Nat.mul_add, Nat.mul_one, ← Nat.add_assoc] at g
    refine hs done.length d cs n todo.length (by rw [← e]; simp) g _ fun y cs' n' hy g' => ?_
    refine ⟨by omega, by rw [List.append_assoc]; exact e, by simp [hl], fun j z ez => ?_, cs', n', rfl, g'⟩
    by_cases hj : j < acc.length
    · rw [List.getElem?_append_left hj] at ez
      exact hp j z ez
    · have hj2 := (List.getElem?_eq_some_iff.mp ez).1
      rw [List.length_append, List.length_singleton] at hj2
      have hj3 : j = acc.length := by omega
      subst hj3
      rw [List.getElem?_append_right (Nat.le_refl _)] at ez
      simp at ez
      subst ez
      rw [hl]
      exact hy
  · rintro done acc M ⟨e, hl, hp, cs, n, rfl, g⟩
    rw [List.append_nil] at e
    have hd := congrArg List.length e
    exact q acc cs n (by omega) hp g
theorem get_dkA (cs : List Int) (n : Int) (R : Sto) (a : Cell) (r : Sto) : (dk cs n ++ (R ++ a :: r))[R.length + 2]? = some a := by
  have := get_mid (dk cs n ++ R) a r
  rw [dk_len, List.append_assoc] at this
  exact this
theorem get_dkB (cs : List Int) (n : Int) (R : Sto) (a b : Cell) (r : Sto) : (dk cs n ++ (R ++ a :: b :: r))[R.length + 3]? = some b := by
  have := get_dkA cs n (R ++ [a]) b r
  rw [List.length_append, List.length_singleton, List.append_assoc] at this
  exact this
theorem get_dkC (cs : List Int) (n : Int) (R : Sto) (a b c : Cell) (r : Sto) : (dk cs n ++ (R ++ a :: b :: c :: r))[R.length + 4]? = some c := by
  have := get_dkB cs n (R ++ [a]) b c r
  rw [List.length_append, List.length_singleton, List.append_assoc] at this
  exact this
theorem set_dkA (cs : List Int) (n : Int) (R : Sto) (a z : Cell) (r : Sto) : (dk cs n ++ (R ++ a :: r)).set (R.length + 2) z = dk cs n ++ (R ++ z :: r) := by
  have := set_mid (dk cs n ++ R) a z r
  rw [dk_len, List.append_assoc, List.append_assoc] at this
  exact this
theorem set_dkB (cs : List Int) (n : Int) (R : Sto) (a b z : Cell) (r : Sto) : (dk cs n ++ (R ++ a :: b :: r)).set (R.length + 3) z = dk cs n ++ (R ++ a :: z :: r) := by
  have := set_dkA cs n (R ++ [a]) b z r
  rw [List.length_append, List.length_singleton, List.append_assoc, List.append_assoc] at this
  exact this
theorem set_dkC (cs : List Int) (n : Int) (R : Sto) (a b c z : Cell) (r : Sto) : (dk cs n ++ (R ++ a :: b :: c :: r)).set (R.length + 4) z = dk cs n ++ (R ++ a :: b :: z :: r) := by
  have := set_dkB cs n (R ++ [a]) b c z r
  rw [List.length_append, List.length_singleton, List.append_assoc, List.append_assoc] at this
  exact this
@[reducible] def pushD (p : Nat × Int) : D := .tup [natD p.1, .int p.2]
def PushOk (t : Tr) (p : Nat × Int) : Prop := p.1 ≤ t.length ∧ 0 ≤ p.2 ∧ p.2 ≤ 1000000000
def PsOk (t : Tr) (ps : List (Nat × Int)) : Prop := ps ≠ [] ∧ ps.length ≤ 20 ∧ ∀ p ∈ ps, PushOk t p
def fallT (t : Tr) (ps : List (Nat × Int)) (m : Nat) : Int := minI (ps.map fun p => p.2 + dist t p.1 m)
def fallsT (t : Tr) (ps : List (Nat × Int)) : List Int := (List.range (t.length + 1)).map (fallT t ps)
end DL
set_option maxHeartbeats 1000000
namespace DL
open PySem PySem.Spec PyProof.Rows L2 MT
section
variable {X : Cx} {a : Expr} {fa : DTE} {pos : Pos}
@[reducible] def dRevT (fa : DTE) (st : DTO) : DTE := fun ρ M Q => fa ρ M fun x M1 => st ρ M1 fun k M2 => match x with
  | .tup ds => k = some (-1) ∧ Q (.tup ds.reverse) M2
  | _ => False
end
end DL
set_option maxHeartbeats 1000000
namespace DL
open PySem PySem.Spec PyProof.Rows L2 MT
structure FunK1 (K : PySem.W.Frag) (x qual : Str) (st : Stmt) (kn : Str) (dv : V) (f : Addr) (fd : FuncData) : Prop where
  fn : Fun K x qual st f fd
  fk : FunD K x qual (defArgs st) (defBody st) (defScope st) [] [(kn, dv)] f fd
end DL
set_option maxHeartbeats 1000000
namespace DL
open PySem PySem.Spec PyProof.Rows L2 MT
theorem pl_push (p : Nat × Int) : Pl 1 (pushD p) := pl_ints [(p.1 : Int), p.2]
end DL
set_option maxHeartbeats 1000000
namespace DL
open PySem PySem.Spec PyProof.Rows L2 MT
end DL
set_option maxHeartbeats 1000000
namespace DL
open PySem PySem.Spec PyProof.Rows L2 MT
def keyPy : Key → PyData
  | .inl i => .int i
  | .inr x => .str x
mutual
def toPyE : D → PyData
  | .non => .none
  | .bl b => .bool b
  | .int i => .int i
  | .str x => .str x
  | .tup ds => .tuple (toPyEs ds)
  | .lst ds => .list (toPyEs ds)
  | .dct ks ds => .dict ((ks.map keyPy).zip (toPyEs ds))
  | .ref _ => .none
  | .scr _ => .none
  | .exo _ _ _ _ _ => .none
  | .clo _ _ _ _ => .none
def toPyEs : List D → List PyData
  | [] => []
  | d :: ds => toPyE d :: toPyEs ds
end
mutual
/-- tuples and dicts, no lists -/
def pe : D → Bool
  | .non | .bl _ | .int _ | .str _ => true
  | .tup ds => pes ds
  | .dct _ ds => pes ds
  | .lst _ | .ref _ | .scr _ | .exo _ _ _ _ _ | .clo _ _ _ _ => false
def pes : List D → Bool
  | [] => true
  | d :: ds => pe d && pes ds
end
def showE (d : D) : Prop := pe d = true ∧ (toPyE d).showable = true ∧ (toPyE d).depth ≤ 60 ∧ (toPyE d).shown.length ≤ sizeLine
/-- repr of data with or without dicts -/
def gReprE : G1 := fun d M Q => (showOk d M ∧ Q (.str (toPy (vw d M)).shown) M) ∨ (showE d ∧ Q (.str (toPyE d).shown) M)
section
variable {X : Cx} {pos : Pos}
/-- {} -/
theorem d_dct0 : DE X (.Dict [] [] pos) (dC (.dct [] [])) := by
  refine ⟨PE.of pe_dnewK fun σ H Q ⟨ρ, M, al, F, G, W, s, q⟩ p hp => ?_, fun _ _ _ _ w q => w _ _ q⟩
  obtain ⟨W', e⟩ := W.newF (o := .dK []) hp
  exact q al _ _ _ e W' (.dct (ks := []) (xs := []) upd_same rfl .nil)
end
end DL
set_option maxHeartbeats 1000000
namespace DL
open PySem PySem.Spec PyProof.Rows L2 MT
structure ShEOk (n h : Nat) (d : D) : Prop where
  pe : DL.pe d = true
  showable : (toPyE d).showable = true
  depth : (toPyE d).depth ≤ h
  len : (toPyE d).shown.length ≤ n
inductive ShE : Nat → Nat → D → Prop
  | non : ShE 4 0 .non
  | bl (b : Bool) : ShE 5 0 (.bl b)
  | int {i : Int} {n : Nat} (h : Sh n 0 (.int i)) : ShE n 0 (.int i)
  | str {x : Str} {n : Nat} (h : (reprText x).length ≤ n) : ShE n 0 (.str x)
  | dct {n h : Nat} {ks : List Key} {ds : List D} (ok : ShEOk n h (.dct ks ds)) : ShE n h (.dct ks ds)
  | tup {n h m : Nat} {ds : List D} (hd : ∀ d ∈ ds, ShE n h d) (hl : ds.length ≤ m) : ShE (m * (n + 2) + 3) (h + 1) (.tup ds)
  | up {n h n' h' : Nat} {d : D} (s : ShE n h d) (hn : n ≤ n') (hh : h ≤ h') : ShE n' h' d
theorem shEAll {n h : Nat} : ∀ {ds : List D}, (∀ d ∈ ds, ShEOk n h d) → DL.pes ds = true ∧ PyData.showableAll (toPyEs ds) = true ∧ PyData.depthAll (toPyEs ds) ≤ h ∧ ((PyData.shownAll (toPyEs ds)).map (·.length)).sum ≤ ds.length * n ∧ (PyData.shownAll (toPyEs ds)).length = ds.length
  | [], _ => ⟨rfl, rfl, Nat.zero_le _, Nat.zero_le _, rfl⟩
  | d :: ds, hd => by
    obtain ⟨a1, a2, a3, a4⟩ := hd d List.mem_cons_self
    obtain ⟨b1, b2, b3, b4, b5⟩ := shEAll (ds := ds) fun x hx => hd x (List.mem_cons_of_mem _ hx)
    refine ⟨?_, ?_, ?_, ?_, ?_⟩
    · show (DL.pe d && DL.pes ds) = true
      rw [a1, b1]; rfl
    · show (PyData.showable (toPyE d) && PyData.showableAll (toPyEs ds)) = true
      rw [a2, b2]; rfl
    · show max (PyData.depth (toPyE d)) (PyData.depthAll (toPyEs ds)) ≤ h
      exact Nat.max_le.mpr ⟨a3, b3⟩
    · show (PyData.shown (toPyE d)).length + ((PyData.shownAll (toPyEs ds)).map (·.length)).sum ≤ (ds.length + 1) * n
      rw [Nat.add_mul]
      omega
    · show (PyData.shownAll (toPyEs ds)).length + 1 = ds.length + 1
      rw [b5]
theorem ShE.ok' {n h : Nat} {d : D} (s : ShE n h d) : ShEOk n h d := by
  induction s with
  | non => exact ⟨rfl, rfl, Nat.le_refl _, by decide +kernel⟩
  | bl b => exact ⟨rfl, rfl, Nat.zero_le _, by cases b <;> decide +kernel⟩
  | int h => exact ⟨rfl, h.ok'.showable, Nat.zero_le _, h.ok'.len⟩
  | str h => exact ⟨rfl, rfl, Nat.zero_le _, h⟩
  | dct h => exact h
  | @tup n h m ds hd hl ih =>
    obtain ⟨b1, b2, b3, b4, b5⟩ := shEAll ih
    refine ⟨b1, b2, Nat.succ_le_succ b3, ?_⟩
    show (tupleText (PyData.shownAll (toPyEs ds))).length ≤ _
    refine Nat.le_trans (tupleText_len_le _) ?_
    rw [b5, Nat.mul_add]
    have := Nat.mul_le_mul_right n hl
    omega
  | up s hn hh ih => exact ⟨ih.pe, ih.showable, Nat.le_trans ih.depth hh, Nat.le_trans ih.len hn⟩
/-- one way or the other -/
def One (n h : Nat) (d : D) : Prop := Sh n h d ∨ ShE n h d
def Both (n h : Nat) (d : D) : Prop := Sh n h d ∧ ShE n h d
theorem Both.tup {n h m : Nat} {ds : List D} (hd : ∀ d ∈ ds, Both n h d) (hl : ds.length ≤ m) : Both (m * (n + 2) + 3) (h + 1) (.tup ds) := ⟨.tup (fun d h => (hd d h).1) hl, .tup (fun d h => (hd d h).2) hl⟩
/-- a tuple of which one item may be odd -/
theorem One.tup {n h m : Nat} {as bs : List D} {d : D} (h1 : ∀ x ∈ as, Both n h x) (h2 : One n h d) (h3 : ∀ x ∈ bs, Both n h x) (hl : (as ++ d :: bs).length ≤ m) : One (m * (n + 2) + 3) (h + 1) (.tup (as ++ d :: bs)) := by
  rcases h2 with h2 | h2
  · refine .inl (.tup (fun x hx => ?_) hl)
    rcases List.mem_append.mp hx with z | z
    · exact (h1 x z).1
    · rcases List.mem_cons.mp z with rfl | z
      · exact h2
      · exact (h3 x z).1
  · refine .inr (.tup (fun x hx => ?_) hl)
    rcases List.mem_append.mp hx with z | z
    · exact (h1 x z).2
    · rcases List.mem_cons.mp z with rfl | z
      · exact h2
      · exact (h3 x z).2
theorem Both.int {i : Int} {n : Nat} (h : Sh n 0 (.int i)) : Both n 0 (.int i) := ⟨h, .int h⟩
mutual
/-- no place of the store, no script, no exception within -/
def od : D → Bool
  | .non | .bl _ | .int _ | .str _ => true
  | .tup ds => ods ds
  | .lst _ => true
  | .dct _ _ => true
  | .ref _ | .scr _ | .exo _ _ _ _ _ | .clo _ _ _ _ => false
def ods : List D → Bool
  | [] => true
  | d :: ds => od d && ods ds
end
end DL
set_option maxHeartbeats 1000000
namespace DL
open PySem PySem.Spec PyProof.Rows L2 MT
theorem cell_ins {K : PySem.W.Frag} {al : List Addr} {F G H : Hp} {M : Sto} {v : V} {n : Nat} {C : Addr} {fs : List (Str × D)} (W : Wd K al F G H M) (r : Rp K F al v (.ref n)) (e : M[n]? = some (.ins C fs)) : ∃ p dx vs, v = .ref p ∧ al[n]? = some p ∧ H p = some (.ins C dx vs) ∧ vs.map (·.1) = fs.map (·.1) ∧ Rps K F al (vs.map (·.2)) (fs.map (·.2)) := by
  cases r with
  | ref h =>
    obtain ⟨dx, vs, h1, h2, h3⟩ := W.cel n _ _ e h
    exact ⟨_, dx, vs, rfl, h, h1, h2, h3⟩
theorem zip_self {α β : Type} : ∀ l : List (α × β), (l.map (·.1)).zip (l.map (·.2)) = l
  | [] => rfl
  | x :: l => by rw [List.map_cons, List.map_cons, List.zip_cons_cons, zip_self l]
theorem look_fld {K : PySem.W.Frag} {F : Hp} {al : List Addr} {vs : List (Str × V)} {fs : List (Str × D)} {f : Str} {d : D} (h1 : vs.map (·.1) = fs.map (·.1)) (h2 : Rps K F al (vs.map (·.2)) (fs.map (·.2))) (h : fs.lookup f = some d) : ∃ u, vs.lookup f = some u ∧ Rp K F al u d := by
  rw [← zip_self fs] at h
  obtain ⟨u, a, b⟩ := look_rps f h2 h
  rw [← h1, zip_self] at a
  exact ⟨u, a, b⟩
def putD (f : Str) (y : D) : List (Str × D) → List (Str × D)
  | [] => [(f, y)]
  | (g, x) :: r => if g = f then (g, y) :: r else (g, x) :: putD f y r
theorem put_rel {K : PySem.W.Frag} {F : Hp} {al : List Addr} {f : Str} {v : V} {y : D} (hv : Rp K F al v y) : ∀ {vs : List (Str × V)} {fs : List (Str × D)}, vs.map (·.1) = fs.map (·.1) → Rps K F al (vs.map (·.2)) (fs.map (·.2)) → (putF f v vs).map (·.1) = (putD f y fs).map (·.1) ∧ Rps K F al ((putF f v vs).map (·.2)) ((putD f y fs).map (·.2))
  | [], [], _, _ => ⟨rfl, .cons hv .nil⟩
  | [], _ :: _, h, _ => by cases h
  | _ :: _, [], h, _ => by cases h
  | (g, x) :: vs, (g', d) :: fs, h, r => by
    rw [List.map_cons, List.map_cons] at h r
    have hg : g = g' := (List.cons.inj h).1
    have ht := (List.cons.inj h).2
    subst hg
    cases r with
    | cons r1 r2 =>
      unfold putF putD
      by_cases e : g = f
      · rw [if_pos e, if_pos e]
        exact ⟨by rw [List.map_cons, List.map_cons, ht], .cons hv r2⟩
      · rw [if_neg e, if_neg e]
        obtain ⟨i1, i2⟩ := put_rel hv ht r2
        exact ⟨by rw [List.map_cons, List.map_cons, i1], .cons r1 i2⟩
section
variable {X : Cx} {o e value : Expr} {fo fe fv : DTE} {pos pos' : Pos}
@[reducible] def dFld (K : PySem.W.Frag) (f : Str) (fe : DTE) : DTE := fun ρ M Q => fe ρ M fun x M1 => match x with
  | .ref n => match M1[n]? with
    | some (.ins C fs) => Cls K C ∧ NoAttr K C f ∧ match fs.lookup f with
      | some d => Q d M1
      | none => False
    | _ => False
  | _ => False
/-- e.f -/
theorem d_fld {f : Str} (h : DE X e fe) (hb : attributeBase e f X.env (eval e X.env) = eval e X.env := by rfl) : DE X (.Attribute e f pos) (dFld X.K f fe) := by
  refine ⟨PE.of (pe_fld h.pe hb) fun σ H Q ⟨ρ, M, al, F, G, W, s, q⟩ => ?_, fun ρ M Q Q' w q => h.mono _ _ _ _ (fun x M1 q1 => ?_) q⟩
  · refine h.seq W s q fun x M1 al1 F1 H1 v q1 e1 W1 r1 s1 => ?_
    cases x with
    | ref n =>
      dsimp only at q1
      split at q1
      · next C fs em =>
        obtain ⟨c1, c2, q2⟩ := q1
        split at q2
        · next d ed =>
          obtain ⟨p, dx, vs, rfl, _, h2, h3, h4⟩ := cell_ins W1 r1 em
          obtain ⟨u, h5, h6⟩ := look_fld h3 h4 ed
          exact ⟨p, C, dx, vs, u, rfl, h2, c1, c2, h5, q2 al1 F1 H1 u e1 W1 h6⟩
        · exact q2.elim
      · exact q1.elim
    | _ => exact q1.elim
  · cases x with
    | ref n =>
      dsimp only at q1 ⊢
      split at q1
      · obtain ⟨c1, c2, q2⟩ := q1
        refine ⟨c1, c2, ?_⟩
        split at q2
        · exact w _ _ q2
        · exact q2.elim
      · exact q1.elim
    | _ => exact q1.elim
@[reducible] def dSetF (K : PySem.W.Frag) (f : Str) (fo fv : DTE) : DTS := fun D ρ M => fv ρ M fun y M1 => fo ρ M1 fun x M2 => match x with
  | .ref n => match M2[n]? with
    | some (.ins C fs) => Cls K C ∧ NoAttr K C f ∧ fs.length < 1000 ∧ D.nx ρ (M2.set n (.ins C (putD f y fs)))
    | _ => False
  | _ => False
/-- o.f = value -/
theorem ds_fld {f : Str} (ho : DE X o fo) (hv : DE X value fv) (hs : swapsWith value (some (.Attribute o f pos')) pos.line X.env = pure false := by rfl) : DS X (.Assign [.Attribute o f pos'] value pos) (dSetF X.K f fo fv) := by
  refine ⟨PS.of (ps_fld ho.pe hv.pe hs) fun E σ H ⟨ρ, M, al, F, G, W, s, q⟩ => ?_, fun D D' ρ M w q => hv.mono _ _ _ _ (fun y M1 q1 => ho.mono _ _ _ _ (fun x M2 q2 => ?_) q1) q⟩
  · refine hv.seq W s q fun y M1 al1 F1 H1 u q1 e1 W1 r1 s1 => ?_
    refine ho.seq W1 s1 q1 fun x M2 al2 F2 H2 v q2 e2 W2 r2 s2 => ?_
    cases x with
    | ref n =>
      dsimp only at q2
      split at q2
      · next C fs em =>
        obtain ⟨c1, c2, c3, q3⟩ := q2
        obtain ⟨p, dx, vs, rfl, h1, h2, h3, h4⟩ := cell_ins W2 r2 em
        have hl : vs.length = fs.length := by
          have := congrArg List.length h3
          simpa using this
        obtain ⟨i1, i2⟩ := put_rel (f := f) (r1.ext e2) h3 h4
        exact ⟨p, C, dx, vs, rfl, h2, c1, c2, by omega, q3 al2 F2 _ σ (e1.trans e2) (W2.write h1 ⟨dx, _, upd_same, i1, i2⟩) s2.sl rfl⟩
      · exact q2.elim
    | _ => exact q2.elim
  · cases x with
    | ref n =>
      dsimp only at q2 ⊢
      split at q2
      · exact ⟨q2.1, q2.2.1, q2.2.2.1, w.nx _ _ q2.2.2.2⟩
      · exact q2.elim
    | _ => exact q2.elim
end
theorem make_guards {A : Around} (h : A.guards = some []) (C : Addr) (us : List Value) (kw : List (Str × Value)) : (A.under (.builtin "type.__call__" ⟨.ref C :: us, kw⟩)).guards = some [] := by
  first | exact h | simpa [Around.under, Code.isGuard, guardIds] using h
section
variable {X : Cx} {CX : CXT} {a : Expr} {es : List Expr} {fr : DTA} {pos p : Pos} {x : Str} {k : Nat} {C f : Addr} {fd : FuncData} {ps : List Str} {sp : Sp} {t : TA}
theorem runG_make {pins : List (Addr × Obj)} {σ : L2.St} {H : Hp} {s : Shared} {Q : VK} {us : List Value} {vs : List V} {E : L2.St → XK} (Mk0 : Mk X.K C f) (F : FnG X.prog X.w X.K X.mg X.base CX k f fd ps sp) (hgd : X.A.guards = some []) (hr : Room (k + 1) X.A) (hb : Binds X.K fd ps []) (hx : PassesAt CX X σ (E σ))
    (I : L2.Inv X pins σ H s) (r : Vals vs us) (h : ∀ x dx, H x = none → H dx = none → dx ≠ x → sp (.ref x :: vs) (upd (upd H dx (.own x)) x (.ins C dx [])) (fun v H2 => v = .non ∧ Q (.ref x) H2) (E σ)) :
    wpAny (model X.prog X.w) X.A (call (.ref C) us) (EP X pins σ Q) X.xe s := by
  have hq := h (s.heap.objs.size + 1) s.heap.objs.size (I.hok.fresh (Nat.le_succ _)) (I.hok.fresh (Nat.le_refl _)) (Nat.ne_of_lt (Nat.lt_succ_self _))
  have I2 := Inv.made (C := C) I
  have r2 : Vals (V.ref (s.heap.objs.size + 1) :: vs) (Value.ref (s.heap.objs.size + 1) :: us) := .cons rfl r
  have hl : (Value.ref (s.heap.objs.size + 1) :: us ++ []).length = ps.length := by
    have e := r2.length
    rw [F.len _ _ _ _ hq] at e
    rw [List.append_nil]
    exact e.symm
  have hbi := hb _ (Value.ref (s.heap.objs.size + 1) :: us) I2.kIn hl
  rw [List.append_nil] at hbi
  refine wpAny_call (make_map (f := f) I.kIn Mk0.makes Mk0.init (beq_iff_eq.mp Mk0.fn) (codeAny_mono (F.run _ X.stack _ _ ⟨Value.ref (s.heap.objs.size + 1) :: us, []⟩ _ _ _ (E σ) (make_guards hgd C us []) (hr.make C us []) (I2.env0.make C us []) hbi r2 hq) fun res s' z => ?_))
  match res, z with
  | .error e, z => exact hx pins _ _ e s' I2 z
  | .ok (.ret u), z =>
    obtain ⟨v, H', I3, rv, ev, q3⟩ := I2.after z
    subst ev
    exact ⟨rv, ⟨V.ref (s.heap.objs.size + 1), H', I3, rfl, q3⟩⟩
  | .ok .next, z => exact z.elim
  | .ok .brk, z => exact z.elim
  | .ok .cont, z => exact z.elim
theorem peG_make {E : L2.St → XK} (Mk0 : Mk X.K C f) (F : FnG X.prog X.w X.K X.mg X.base CX k f fd ps sp) (hgd : X.A.guards = some []) (hr : Room (k + 1) X.A) (hg : Gl X x) (hm : X.mg x = some (.ref C)) (hb : Binds X.K fd ps []) (hx : ∀ σ, PassesAt CX X σ (E σ))
    (ha : PA X (a :: es) t) (hdb : (x == ("__debug__" : Str)) = false := by decide) (he : starEach (a :: es) X.env = (false, eval a X.env) :: starEach es X.env := by rfl) (hpl : (backTo pos (starEach es X.env)).any (·.1) = false := by rfl) :
    PE X (.Call (.Name x p) (a :: es) [] pos) (fun σ H Q => t σ H fun vs H1 => ∀ x dx, H1 x = none → H1 dx = none → dx ≠ x → sp (.ref x :: vs) (upd (upd H1 dx (.own x)) x (.ins C dx [])) (fun v H2 => v = .non ∧ Q (.ref x) H2) (E σ)) :=
  ⟨fun pins s σ H Q I h => wpAny_Call_Name_kw (ld_glob I hg hm (PySem.W.callWith_K (h₀ := X.base) I.ok.mod.kin Mk0.kp (thn (ha.run pos pins s σ H _ I h) fun us s1 ⟨vs, H1, I1, r, q⟩ => ⟨I1.kIn, runG_make Mk0 F hgd hr hb (hx σ) I1 r q⟩) he hpl) hdb)⟩
/-- what may be made by a class's name -/
structure ClM (P : Program) (w : World) (K : PySem.W.Frag) (mg : Str → Option Value) (base : Heap) (x : Str) (C : Addr) (k : Nat) (ps : List Str) (ds : DSp) : Prop where
  ex : ∃ (f : Addr) (fd : FuncData), Mk K C f ∧ FnG P w K mg base (CXd P w) k f fd ps (spOf K ds) ∧ mg x = some (.ref C) ∧ Binds K fd ps []
  mono : MonoSp ds
@[reducible] def dMake (C : Addr) (ds : DSp) (fr : DTA) : DTE := fun ρ M Q => fr ρ M fun args M1 => ds (.ref M1.length :: args) (M1 ++ [.ins C []]) (fun v M2 => v = .non ∧ Q (.ref M1.length) M2) fun c fs M2 => ρ.x c fs ρ.v M2
theorem d_make {ds : DSp} (C0 : ClM X.prog X.w X.K X.mg X.base x C k ps ds) (hgd : X.A.guards = some []) (hr : Room (k + 1) X.A) (ha : DA X (a :: es) fr) (hg : Gl X x := by rfl) (hdb : (x == ("__debug__" : Str)) = false := by decide)
    (he : starEach (a :: es) X.env = (false, eval a X.env) :: starEach es X.env := by rfl) (hpl : (backTo pos (starEach es X.env)).any (·.1) = false := by rfl) : DE X (.Call (.Name x p) (a :: es) [] pos) (dMake C ds fr) := by
  obtain ⟨f, fd, Mk0, G, hm, hb⟩ := C0.ex
  have hmono := C0.mono
  refine ⟨PE.of (peG_make Mk0 G hgd hr hg hm hb (passD X) ha.pa hdb he hpl) fun σ H Q ⟨ρ, M, al, F, Gg, W, s, q⟩ => ?_, fun ρ M Q Q' w q => ha.mono _ _ _ _ (fun args M1 q1 => hmono _ _ _ _ _ _ (fun v M2 z => ⟨z.1, w _ _ z.2⟩) (fun _ _ _ z => z) q1) q⟩
  refine ha.seq W s q fun args M1 al1 F1 H1 vs q1 e1 W1 r1 s1 => ?_
  intro x0 dx hx0 hdx hne
  obtain ⟨W2, e2⟩ := W1.newF (o := .own x0) hdx
  have hx2 : upd H1 dx (.own x0) x0 = none := by rw [upd_ne (Ne.symm hne)]; exact hx0
  obtain ⟨W3, e3⟩ := W2.newM (c := .ins C []) (o := .ins C dx []) hx2 ⟨dx, [], upd_same, rfl, .nil⟩
  have hself : Rp X.K (upd F1 dx (.own x0)) (al1 ++ [x0]) (.ref x0) (.ref M1.length) := .ref (by rw [← W1.len, List.getElem?_append_right (Nat.le_refl _), Nat.sub_self]; rfl)
  refine ⟨.ref M1.length :: args, M1 ++ [.ins C []], al1 ++ [x0], upd F1 dx (.own x0), Gg, W3, .cons hself (r1.ext (e2.trans e3)), hmono _ _ _ _ _ _ (fun v M2 z => ?_) (fun c fs M2 z al2 F2 H2 o e4 W4 f4 => (s1.ext (e2.trans e3)).xo c fs ρ.v M2 al2 F2 H2 o σ e4 W4 ((s1.ext (e2.trans e3)).sl.ext e4) f4 z) q1⟩
  intro al2 F2 H2 u e4 W4 r4
  obtain ⟨rfl, z2⟩ := z
  refine ⟨by cases r4; rfl, z2 al2 F2 H2 _ (e1.trans (e2.trans (e3.trans e4))) W4 (hself.ext e4)⟩
end
end DL
set_option maxHeartbeats 1000000
namespace DL
open PySem PySem.Spec PyProof.Rows L2 MT
theorem look_miss {α : Type} {f : Str} : ∀ {l : List (Str × α)}, (∀ x ∈ l.map (·.1), x ≠ f) → l.lookup f = none
  | [], _ => rfl
  | (g, a) :: l, h => by
    have hg : (f == g) = false := by
      rw [beq_eq_false_iff_ne]
      exact fun e => h g (List.Mem.head _) e.symm
    rw [List.lookup_cons, hg]
    exact look_miss fun x hx => h x (List.Mem.tail _ hx)
theorem look_hit {α : Type} {f : Str} : ∀ {l : List (Str × α)}, l.lookup f = none → ∀ x ∈ l.map (·.1), x ≠ f
  | [], _, _, hx => nomatch hx
  | (g, a) :: l, h, x, hx => by
    rw [List.lookup_cons] at h
    by_cases hg : (f == g) = true
    · rw [hg] at h
      exact nomatch h
    · rw [Bool.not_eq_true] at hg
      rw [hg] at h
      cases hx with
      | head => exact fun e => (beq_eq_false_iff_ne.mp hg) e.symm
      | tail _ hx => exact look_hit h x hx
theorem look_gone {vs : List (Str × V)} {fs : List (Str × D)} {f : Str} (h1 : vs.map (·.1) = fs.map (·.1)) (h : fs.lookup f = none) : vs.lookup f = none :=
  look_miss (by rw [h1]; exact look_hit h)
section
variable {X : Cx} {CX : CXT} {o e : Expr} {es : List Expr} {ta : TE} {t : TA} {fo : DTE} {fr : DTA} {pos apos p : Pos} {m : Str} {k : Nat} {C f : Addr} {fd : FuncData} {ps : List Str} {sp : Sp}
theorem peG_meth {E : L2.St → XK} {pl : Sem Bool} (he : PE X o ta) (c : Cls X.K C) (hm : Meth X.K C m f) (F : FnG X.prog X.w X.K X.mg X.base CX k f fd ps sp) (hgd : X.A.guards = some []) (hr : Room k X.A) (hb : Binds X.K fd ps []) (hx : ∀ σ, PassesAt CX X σ (E σ)) (ha : PA X (e :: es) t)
    (hst : starEach (e :: es) X.env = (false, eval e X.env) :: starEach es X.env := by rfl) (hpl : (backTo pos (starEach es X.env)).any (·.1) = false := by rfl)
    (ht : eval (.Call (.Attribute o m apos) (e :: es) [] pos) X.env = (do
      let ov ← eval o X.env
      standAt apos.atName
      let (f, first) ← holding [ov] (getMethod ov m pl)
      callWith pos f first (backTo pos (starEach (e :: es) X.env)) (backToKw pos (keywordEach [] X.env))) := by rfl) :
    PE X (.Call (.Attribute o m apos) (e :: es) [] pos) (fun σ H Q => ta σ H fun x H1 => ∃ a dx fs, x = .ref a ∧ H1 a = some (.ins C dx fs) ∧ fs.lookup m = none ∧ t σ H1 fun vs H2 => sp (x :: vs) H2 Q (E σ)) := by
  refine ⟨fun pins s σ H Q I h => ?_⟩
  refine PySem.W.methodCall_KW (pl := pl) (thn (he.run pins s σ H _ I h) fun u s1 ⟨x, H1, I1, rx, a, dx, fs, ex, ea, l, q⟩ => ?_) ht
  subst ex
  obtain rfl : u = Value.ref a := rx
  refine getmeth_ok I1 ea c hm l ?_
  refine PySem.W.callWith_K (first := [.ref a]) (h₀ := X.base) I.ok.mod.kin hm.kp (thn (ha.run pos pins s1 σ H1 _ I1 q) fun us s2 ⟨vs, H2, I2, r, q2⟩ => ⟨I2.kIn, ?_⟩) hst hpl
  exact runGS (us := .ref a :: us) (vs := .ref a :: vs) (dvs := []) F hgd hr hb .nil (hx σ) I2 (.cons rfl r) (by rw [List.append_nil]; exact q2)
theorem peG_meth0 {E : L2.St → XK} {pl : Sem Bool} (he : PE X o ta) (c : Cls X.K C) (hm : Meth X.K C m f) (F : FnG X.prog X.w X.K X.mg X.base CX k f fd ps sp) (hgd : X.A.guards = some []) (hr : Room k X.A) (hb : Binds X.K fd ps []) (hx : ∀ σ, PassesAt CX X σ (E σ))
    (ht : eval (.Call (.Attribute o m apos) [] [] pos) X.env = (do
      let ov ← eval o X.env
      standAt apos.atName
      let (f, first) ← holding [ov] (getMethod ov m pl)
      callWith pos f first (backTo pos (starEach [] X.env)) (backToKw pos (keywordEach [] X.env))) := by rfl) :
    PE X (.Call (.Attribute o m apos) [] [] pos) (fun σ H Q => ta σ H fun x H1 => ∃ a dx fs, x = .ref a ∧ H1 a = some (.ins C dx fs) ∧ fs.lookup m = none ∧ sp [x] H1 Q (E σ)) := by
  refine ⟨fun pins s σ H Q I h => ?_⟩
  refine PySem.W.methodCall_KW (pl := pl) (thn (he.run pins s σ H _ I h) fun u s1 ⟨x, H1, I1, rx, a, dx, fs, ex, ea, l, q⟩ => ?_) ht
  subst ex
  obtain rfl : u = Value.ref a := rx
  refine getmeth_ok I1 ea c hm l ?_
  exact PySem.W.callWith_K0 (first := [.ref a]) I1.kIn hm.kp (runGS (us := [.ref a]) (vs := [.ref a]) (dvs := []) F hgd hr hb .nil (hx σ) I1 (.cons rfl .nil) q)
/-- what may be called at an instance -/
structure ClMe (P : Program) (w : World) (K : PySem.W.Frag) (mg : Str → Option Value) (base : Heap) (C : Addr) (m : Str) (k : Nat) (ps : List Str) (ds : DSp) : Prop where
  ex : ∃ (f : Addr) (fd : FuncData), Cls K C ∧ Meth K C m f ∧ FnG P w K mg base (CXd P w) k f fd ps (spOf K ds) ∧ Binds K fd ps []
  mono : MonoSp ds
@[reducible] def dMeth (C : Addr) (m : Str) (ds : DSp) (fo : DTE) (fr : DTA) : DTE := fun ρ M Q => fo ρ M fun x M1 => match x with
  | .ref n => match M1[n]? with
    | some (.ins C' fs) => C' = C ∧ fs.lookup m = none ∧ fr ρ M1 fun args M2 => ds (.ref n :: args) M2 Q fun c fs M3 => ρ.x c fs ρ.v M3
    | _ => False
  | _ => False
@[reducible] def dMeth0 (C : Addr) (m : Str) (ds : DSp) (fo : DTE) : DTE := fun ρ M Q => fo ρ M fun x M1 => match x with
  | .ref n => match M1[n]? with
    | some (.ins C' fs) => C' = C ∧ fs.lookup m = none ∧ ds [.ref n] M1 Q fun c fs M3 => ρ.x c fs ρ.v M3
    | _ => False
  | _ => False
/-- o.m(e, ..) -/
theorem d_meth {ds : DSp} {pl : Sem Bool} (C0 : ClMe X.prog X.w X.K X.mg X.base C m k ps ds) (hgd : X.A.guards = some []) (hr : Room k X.A) (ho : DE X o fo) (ha : DA X (e :: es) fr)
    (hst : starEach (e :: es) X.env = (false, eval e X.env) :: starEach es X.env := by rfl) (hpl : (backTo pos (starEach es X.env)).any (·.1) = false := by rfl)
    (ht : eval (.Call (.Attribute o m apos) (e :: es) [] pos) X.env = (do
      let ov ← eval o X.env
      standAt apos.atName
      let (f, first) ← holding [ov] (getMethod ov m pl)
      callWith pos f first (backTo pos (starEach (e :: es) X.env)) (backToKw pos (keywordEach [] X.env))) := by rfl) :
    DE X (.Call (.Attribute o m apos) (e :: es) [] pos) (dMeth C m ds fo fr) := by
  obtain ⟨f, fd, c, hm, G, hb⟩ := C0.ex
  have hmono := C0.mono
  refine ⟨PE.of (peG_meth ho.pe c hm G hgd hr hb (passD X) ha.pa hst hpl ht) fun σ H Q ⟨ρ, M, al, F, Gg, W, s, q⟩ => ?_, fun ρ M Q Q' w q => ho.mono _ _ _ _ (fun x M1 q1 => ?_) q⟩
  · refine ho.seq W s q fun x M1 al1 F1 H1 v q1 e1 W1 r1 s1 => ?_
    cases x with
    | ref n =>
      dsimp only at q1
      split at q1
      · next C' fs em =>
        obtain ⟨rfl, c2, q2⟩ := q1
        obtain ⟨p, dx, vs, rfl, _, h2, h3, h4⟩ := cell_ins W1 r1 em
        refine ⟨p, dx, vs, rfl, h2, look_gone h3 c2, ?_⟩
        refine ha.seq W1 s1 q2 fun args M2 al2 F2 H2 us q3 e2 W2 r2 s2 => ?_
        exact ⟨.ref n :: args, M2, al2, F2, Gg, W2, .cons (r1.ext e2) r2, hmono _ _ _ _ _ _ (fun d M3 k => kont.ext k (e1.trans e2)) (fun c fs M3 z al3 F3 H3 o e3 W3 f3 => s2.xo c fs ρ.v M3 al3 F3 H3 o σ e3 W3 (s2.sl.ext e3) f3 z) q3⟩
      · exact q1.elim
    | _ => exact q1.elim
  · cases x with
    | ref n =>
      dsimp only at q1 ⊢
      split at q1
      · exact ⟨q1.1, q1.2.1, ha.mono _ _ _ _ (fun args M2 q2 => hmono _ _ _ _ _ _ w (fun _ _ _ z => z) q2) q1.2.2⟩
      · exact q1.elim
    | _ => exact q1.elim
/-- o.m() -/
theorem d_meth0 {ds : DSp} {pl : Sem Bool} (C0 : ClMe X.prog X.w X.K X.mg X.base C m k ps ds) (hgd : X.A.guards = some []) (hr : Room k X.A) (ho : DE X o fo)
    (ht : eval (.Call (.Attribute o m apos) [] [] pos) X.env = (do
      let ov ← eval o X.env
      standAt apos.atName
      let (f, first) ← holding [ov] (getMethod ov m pl)
      callWith pos f first (backTo pos (starEach [] X.env)) (backToKw pos (keywordEach [] X.env))) := by rfl) :
    DE X (.Call (.Attribute o m apos) [] [] pos) (dMeth0 C m ds fo) := by
  obtain ⟨f, fd, c, hm, G, hb⟩ := C0.ex
  have hmono := C0.mono
  refine ⟨PE.of (peG_meth0 ho.pe c hm G hgd hr hb (passD X) ht) fun σ H Q ⟨ρ, M, al, F, Gg, W, s, q⟩ => ?_, fun ρ M Q Q' w q => ho.mono _ _ _ _ (fun x M1 q1 => ?_) q⟩
  · refine ho.seq W s q fun x M1 al1 F1 H1 v q1 e1 W1 r1 s1 => ?_
    cases x with
    | ref n =>
      dsimp only at q1
      split at q1
      · next C' fs em =>
        obtain ⟨rfl, c2, q2⟩ := q1
        obtain ⟨p, dx, vs, rfl, _, h2, h3, h4⟩ := cell_ins W1 r1 em
        refine ⟨p, dx, vs, rfl, h2, look_gone h3 c2, ?_⟩
        exact ⟨[.ref n], M1, al1, F1, Gg, W1, .cons r1 .nil, hmono _ _ _ _ _ _ (fun d M3 k => kont.ext k e1) (fun c fs M3 z al3 F3 H3 o e3 W3 f3 => s1.xo c fs ρ.v M3 al3 F3 H3 o σ e3 W3 (s1.sl.ext e3) f3 z) q2⟩
      · exact q1.elim
    | _ => exact q1.elim
  · cases x with
    | ref n =>
      dsimp only at q1 ⊢
      split at q1
      · exact ⟨q1.1, q1.2.1, hmono _ _ _ _ _ _ w (fun _ _ _ z => z) q1.2.2⟩
      · exact q1.elim
    | _ => exact q1.elim
theorem in1_guards {A : Around} (h : A.guards = some []) : A.in1.guards = some [] := h
theorem getpropG {pins : List (Addr × Obj)} {σ : L2.St} {H : Hp} {s : Shared} {Q : VK} {b : Bool} {E' : Value → Shared → Prop} {q g a dx : Addr} {fs : List (Str × V)} {n : Str} (I : L2.Inv X pins σ H s) (ea : H a = some (.ins C dx fs)) (c : Cls X.K C) (hp : PropOf X.K C n q g)
    (F : FnG X.prog X.w X.K X.mg X.base (CXd X.prog X.w) k g fd ps sp) (hgd : X.A.guards = some []) (hr : Room (k + 1) X.A) (hb : Binds X.K fd ps []) (h : sp [.ref a] H Q (fun _ _ _ => False)) :
    wpAny (model X.prog X.w) X.A (getAttr (.ref a) n b) (EP X pins σ Q) E' s := by
  obtain ⟨mA, O, _, _, _, _⟩ := ins_get I.hok ea
  obtain ⟨od, J, _⟩ := O.look
  obtain ⟨rest, hrec⟩ := hp.rec_
  have I1 := I.tok (s.toks + 1)
  have hl : ([Value.ref a] ++ []).length = ps.length := by
    rw [← F.len _ _ _ _ h]
    rfl
  have hc : (PySem.W.clsIn X.K C).isSome = true := by
    obtain ⟨cd, hc, _⟩ := PySem.W.any_some c.hd
    rw [hc]
    rfl
  refine PySem.W.get_bind I.kIn J (PySem.W.plainGet_of (c.get n)).1 (PySem.W.findObj_data hc hp.at_ hp.get hp.tak) (PySem.W.plainGet_of (c.get n)).2 (wpAny_call (PySem.W.prop_get (s := { s with toks := s.toks + 1 }) I.kIn hrec ?_))
  refine codeAny_mono (F.run X.A.in1 X.stack { s with toks := s.toks + 1 } H ⟨[.ref a], []⟩ [.ref a] [.ref a] Q (fun _ _ _ => False) (in1_guards hgd) hr.in1 I1.env0.in1 (hb _ [.ref a] I1.kIn hl) (.cons rfl .nil) h) fun r s' hq => ?_
  match r, hq with
  | .error er, hq =>
    exact (cx_no hq).elim
  | .ok (.ret u), hq =>
    obtain ⟨v, H', I3, rv, q3⟩ := I1.after hq
    show wpAny _ _ (handedOut u) _ _ _
    rw [PySem.W.handedOut_of (handed_of rv)]
    exact wpAny_pure ⟨v, H', I3, rv, q3⟩
  | .ok .next, hq => exact hq.elim
  | .ok .brk, hq => exact hq.elim
  | .ok .cont, hq => exact hq.elim
theorem peG_prop {q g : Addr} {n : Str} (he : PE X o ta) (c : Cls X.K C) (hp : PropOf X.K C n q g) (F : FnG X.prog X.w X.K X.mg X.base (CXd X.prog X.w) k g fd ps sp) (hgd : X.A.guards = some []) (hr : Room (k + 1) X.A) (hb : Binds X.K fd ps [])
    (hab : attributeBase o n X.env (eval o X.env) = eval o X.env) : PE X (.Attribute o n pos) (fun σ H Q => ta σ H fun x H1 => ∃ a dx fs, x = .ref a ∧ H1 a = some (.ins C dx fs) ∧ sp [.ref a] H1 Q fun _ _ _ => False) := by
  refine ⟨fun pins s σ H Q I h => ?_⟩
  refine attr_of hab (thn (he.run pins s σ H _ I h) fun u s1 ⟨x, H1, I1, rx, a, dx, fs, ex, ea, q⟩ => ?_)
  subst ex
  obtain rfl : u = Value.ref a := rx
  exact getpropG I1 ea c hp F hgd hr hb q
/-- a property of a class -/
structure ClP (P : Program) (w : World) (K : PySem.W.Frag) (mg : Str → Option Value) (base : Heap) (C : Addr) (n : Str) (k : Nat) (ps : List Str) (ds : DSp) : Prop where
  ex : ∃ (q g : Addr) (fd : FuncData), Cls K C ∧ PropOf K C n q g ∧ FnG P w K mg base (CXd P w) k g fd ps (spOf K ds) ∧ Binds K fd ps []
  mono : MonoSp ds
@[reducible] def dProp (C : Addr) (ds : DSp) (fo : DTE) : DTE := fun ρ M Q => fo ρ M fun x M1 => match x with
  | .ref n => match M1[n]? with
    | some (.ins C' fs) => C' = C ∧ ds [.ref n] M1 Q fun _ _ _ => False
    | _ => False
  | _ => False
/-- o.n, a property -/
theorem d_prop {ds : DSp} {n : Str} (C0 : ClP X.prog X.w X.K X.mg X.base C n k ps ds) (hgd : X.A.guards = some []) (hr : Room (k + 1) X.A) (ho : DE X o fo)
    (hab : attributeBase o n X.env (eval o X.env) = eval o X.env := by rfl) : DE X (.Attribute o n pos) (dProp C ds fo) := by
  obtain ⟨q, g, fd, c, hp, G, hb⟩ := C0.ex
  have hmono := C0.mono
  refine ⟨PE.of (peG_prop ho.pe c hp G hgd hr hb hab) fun σ H Q ⟨ρ, M, al, F, Gg, W, s, q⟩ => ?_, fun ρ M Q Q' w q => ho.mono _ _ _ _ (fun x M1 q1 => ?_) q⟩
  · refine ho.seq W s q fun x M1 al1 F1 H1 v q1 e1 W1 r1 s1 => ?_
    cases x with
    | ref n =>
      dsimp only at q1
      split at q1
      · next C' fs em =>
        obtain ⟨rfl, q2⟩ := q1
        obtain ⟨p, dx, vs, rfl, _, h2, h3, h4⟩ := cell_ins W1 r1 em
        refine ⟨p, dx, vs, rfl, h2, ?_⟩
        exact ⟨[.ref n], M1, al1, F1, Gg, W1, .cons r1 .nil, hmono _ _ _ _ _ _ (fun d M3 k => kont.ext k e1) (fun _ _ _ z => z.elim) q2⟩
      · exact q1.elim
    | _ => exact q1.elim
  · cases x with
    | ref n =>
      dsimp only at q1 ⊢
      split at q1
      · exact ⟨q1.1, hmono _ _ _ _ _ _ w (fun _ _ _ z => z) q1.2⟩
      · exact q1.elim
    | _ => exact q1.elim
end
end DL
set_option maxHeartbeats 1000000
namespace DL
open PySem PySem.Spec PyProof.Rows L2 MT
/-- a class whose instances isinstance asks rightly -/
structure InC (K : PySem.W.Frag) (C : Addr) : Prop where
  cl : Cls K C
  ha : PySem.W.findIn K (.ref C) "__class__" = some (some (.builtin "object.__class__"))
  hn : PySem.W.specialIn K (.builtin "object.__class__") "__get__" = some (some (.builtin "getset_descriptor.__get__"))
  htk : PySem.W.takesIn K (.builtin "object.__class__") = some true
  hm : PySem.W.mroIn K C (.type "object") = some true
def NotSub (K : PySem.W.Frag) (C : Addr) (T : String) : Prop := PySem.W.subIn K (.ref C) (.type T) = some false
structure DfM (K : PySem.W.Frag) (C : Addr) (m qual : Str) (st : Stmt) : Prop where
  ex : ∃ (f : Addr) (fd : FuncData), Fun K m qual st f fd ∧ Meth K C m f
structure DfI (K : PySem.W.Frag) (C : Addr) (qual : Str) (st : Stmt) : Prop where
  ex : ∃ (f : Addr) (fd : FuncData), Fun K "__init__" qual st f fd ∧ Mk K C f
structure DfP (K : PySem.W.Frag) (C : Addr) (m qual : Str) (st : Stmt) : Prop where
  ex : ∃ (q f : Addr) (fd : FuncData), Fun K m qual st f fd ∧ PropOf K C m q f
end DL
set_option maxHeartbeats 1000000
namespace DL
open PySem PySem.Spec PyProof.Rows L2 MT
def okS (x : Str) : Prop := ∀ c ∈ x.cps.toList, c < 0x110000
mutual
def tx : D → Bool
  | .non | .bl _ | .int _ => true
  | .str x => PyData.strOk (reprText x)
  | .tup ds | .lst ds => txs ds
  | _ => false
def txs : List D → Bool
  | [] => true
  | d :: ds => tx d && txs ds
end
/-- the repr of this data is this text, and the text is of signs -/
structure Txt (d : D) (z : Str) : Prop where
  run : ∀ (M : Sto) (Q : DK), Q (.str z) M → gReprE d M Q
  ok : okS z
  len : z.length ≤ 16000000
theorem ShOk.vw {n h : Nat} {d : D} (s : ShOk n h d) (M : Sto) : DL.vw d M = d := by
  have := s.pu
  cases d <;> first | rfl | (cases this)
end DL
set_option maxHeartbeats 1000000
namespace DL
open PySem PySem.Spec PyProof.Rows L2 MT
section
variable {X : Cx} {CX : CXT} {a : Expr} {es : List Expr} {fr : DTA} {pos p : Pos} {x : Str} {k : Nat} {f : Addr} {fd : FuncData} {ps : List Str} {sp : Sp} {t : TA}
theorem peG_callSt {E : L2.St → XK} (F : FnG X.prog X.w X.K X.mg X.base CX k f fd ps sp) (hgd : X.A.guards = some []) (hr : Room k X.A) (hg : Gl X x) (hm : X.mg x = some (.ref f)) (hk : PySem.W.keepIn X.K (.ref f) = true) (hb : Binds X.K fd ps []) (hx : ∀ σ, PassesAt CX X σ (E σ))
    (ha : PA X (a :: es) t) (hdb : (x == ("__debug__" : Str)) = false := by decide) (he : starEach (a :: es) X.env = (false, eval a X.env) :: starEach es X.env := by rfl) (hst : (backTo pos (starEach es X.env)).any (·.1) = true := by rfl) :
    PE X (.Call (.Name x p) (a :: es) [] pos) (fun σ H Q => t σ H fun vs H1 => sp vs H1 Q (E σ)) :=
  ⟨fun pins s σ H Q I h => wpAny_Call_Name_kw (ld_glob I hg hm (PySem.W.callWith_S2 (h₀ := X.base) I.ok.mod.kin hk (thn (ha.run pos pins s σ H _ I h) fun us s1 ⟨vs, H1, I1, r, q⟩ => ⟨I1.kIn, runGS (dvs := []) F hgd hr hb .nil (hx σ) I1 r (by rw [List.append_nil]; exact q)⟩) he hst) hdb)⟩
/-- x(e, .., *y) -/
theorem d_clSt {ds : DSp} (C : Cl X.prog X.w X.K X.mg X.base x k ps ds) (hgd : X.A.guards = some []) (hr : Room k X.A) (ha : DA X (a :: es) fr) (hg : Gl X x := by rfl) (hdb : (x == ("__debug__" : Str)) = false := by decide)
    (he : starEach (a :: es) X.env = (false, eval a X.env) :: starEach es X.env := by rfl) (hst : (backTo pos (starEach es X.env)).any (·.1) = true := by rfl) : DE X (.Call (.Name x p) (a :: es) [] pos) (dCall ds fr) := by
  obtain ⟨f, fd, G, hm, hk, hb⟩ := C.ex
  have hmono := C.mono
  refine ⟨PE.of (peG_callSt G hgd hr hg hm hk hb (passD X) ha.pa hdb he hst) fun σ H Q ⟨ρ, M, al, F, Gg, W, s, q⟩ => ?_, fun ρ M Q Q' w q => ha.mono _ _ _ _ (fun args M1 q1 => hmono _ _ _ _ _ _ w (fun _ _ _ z => z) q1) q⟩
  refine ha.seq W s q fun args M1 al1 F1 H1 vs q1 e1 W1 r1 s1 => ?_
  exact ⟨args, M1, al1, F1, Gg, W1, r1, hmono _ _ _ _ _ _ (fun d M2 k => kont.ext k e1) (fun c fs M2 z al2 F2 H2 o e2 W2 f2 => s1.xo c fs ρ.v M2 al2 F2 H2 o σ e2 W2 (s1.sl.ext e2) f2 z) q1⟩
end
section
variable {X : Cx} {pins : List (Addr × Obj)} {σ : L2.St} {H : Hp} {s : Shared}
theorem star_unpack {a : Addr} {x : V} {xs : List V} {Q : List Value → Shared → Prop} (hc : X.calm = true) (I : L2.Inv X pins σ H s) (hq : SqT X.K H a (x :: xs)) (hz : xs.length ≤ 1000)
    (k : ∀ (p : Addr) (s' : Shared) (u : Value), H p = none → L2.Inv X pins σ (upd H p (.lst xs)) s' → RelV x u → Q [u, .ref p] s') : wpAny (model X.prog X.w) X.A (unpackItems (.ref a) 2 (some 1)) Q X.xe s := by
  obtain ⟨its, rv, hl, _⟩ := I.tuple hq
  cases rv with
  | @cons _ u _ us ru rus =>
  have hh := I.ok.hd hc
  have hus : us.length ≤ 1000 := by rw [← rus.length]; exact hz
  have hlt : a ≠ s.heap.objs.size := by obtain ⟨o, ho, _⟩ := hl; exact Nat.ne_of_lt (Heap.lt_size ho)
  unfold unpackItems
  refine wpAny_bind ?_
  unfold notIterableAtAll
  refine wpAny_bind (wpAny_specialOf hl.typeIs slot_tuple_iter.lookup ?_)
  refine wpAny_pure ?_
  simp only [Bool.false_eq_true, if_false]
  refine wpAny_bind (wpAny_holding (iter_tuple hl ?_))
  refine wpAny_bind (wpAny_holding (draw_tuple hlt 1 0 _ _ ⟨_, Heap.get?_push_size _ rfl, rfl, rfl⟩ (hl.push _) (by simp) fun h₁ hit₁ hs₁ => ?_))
  have hl₁ : IsTup h₁ a (u :: us).toArray := (hl.push _).extBut hs₁.extBut hlt
  rw [Nat.zero_add] at hit₁
  have hit₁' := hit₁
  obtain ⟨oi, hoi, _⟩ := hit₁'
  have hl₁' := hl₁
  obtain ⟨ol, hol, _⟩ := hl₁'
  rw [show List.take 1 (List.drop 0 (u :: us).toArray.toList) = [u] by simp]
  rw [if_neg (show ¬ ([u].length < 1) from Nat.lt_irrefl 1)]
  refine wpAny_bind (wpAny_holding (PySem.W.kun_collect (s := { s with heap := h₁ }) (T := "tuple_iterator") (.inr (.inr (.inr rfl))) (Walks.tuple (A := X.A.in1) hh s.heap.objs.size a hlt (u :: us).toArray) (fun j u st => st.1.typeIs) (k := 1) (by simp) ⟨hit₁, hl₁⟩ (Heap.lt_size hoi) (Heap.lt_size hol) (fun h₂ tk hk => ?_) (by rw [sizeLine_eq]; simp; omega)))
  rw [show List.drop 1 (u :: us).toArray.toList = us by simp]
  show wpAny _ _ (if us.length < 2 - 1 - 1 then _ else _) _ _ _
  rw [if_neg (by omega)]
  show wpAny _ _ (newList (us.take (us.length - (2 - 1 - 1))) >>= fun d => pure ([u] ++ [d] ++ us.drop (us.length - (2 - 1 - 1)))) _ _ _
  rw [show us.length - (2 - 1 - 1) = us.length by omega, List.take_length, List.drop_length]
  have hkeep : ∀ b o, s.heap.get? b = some o → h₂.get? b = some o := fun b o e => hk b o (Nat.ne_of_lt (Heap.lt_size e)) (hs₁.extBut b o (Nat.ne_of_lt (Heap.lt_size e)) (Heap.get?_push_of_some _ e))
  have I2 : L2.Inv X pins σ H { s with heap := h₂, toks := tk } := I.kept hkeep
  refine wpAny_bind (wpAny_newObj_type (wpAny_pure ?_) (by show us.toArray.size ≤ sizeLine; rw [sizeLine_eq]; simp; omega))
  refine k h₂.objs.size _ u (I2.hok.fresh (Nat.le_refl _)) ?_ ru
  exact I2.laid (t' := tk) (h' := h₂.push { cls := .type "list", data := .seq us.toArray }) (fun b o e => Heap.get?_push_of_some _ e) (Nat.le_refl _) ⟨by rw [sizeLine_eq]; omega, us, 0, rus, Heap.get?_push_size _ rfl⟩
def gStar1 (K : PySem.W.Frag) (t : TGs) : TG := fun v σ H Q => ∃ a x xs, v = .ref a ∧ SqT K H a (x :: xs) ∧ xs.length ≤ 1000 ∧ ∀ p, H p = none → t [x, .ref p] σ (upd H p (.lst xs)) Q
theorem pg_star1 {t1 t2 : Expr} {p2 pos : Pos} {k : Nat} {t : TGs} (hc : X.calm = true) (h : PGs X [t1, t2] t) (hn : assignEach [t1, .Starred t2 p2] X.env = [(false, assign t1 X.env), (true, assign t2 X.env)] := by rfl)
    (hm : (assignEach [t1, t2] X.env).map (·.2) = [assign t1 X.env, assign t2 X.env] := by rfl) : PG X (.Tuple [t1, .Starred t2 p2] k pos) (gStar1 X.K t) := by
  refine ⟨fun pins s σ H v u Q I r ⟨a, x, xs, e1, hq, hz, hw⟩ => ?_⟩
  subst e1
  cases r
  rw [assign_Tuple]
  refine wpAny_bind (wpAny_standAt ?_)
  unfold unpack
  rw [hn]
  show wpAny _ _ ((holding [Value.ref a] (unpackItems (.ref a) 2 (some 1))) >>= fun vs => assignInOrder [assign t1 X.env, assign t2 X.env] vs) _ _ s
  refine wpAny_bind (wpAny_holding (star_unpack hc I hq hz fun p s' u hp I' ru => ?_))
  rw [← hm]
  exact h.run pins s' σ _ [x, .ref p] [u, .ref p] Q I' (.cons ru (.cons rfl .nil)) (hw p hp)
@[reducible] def dgStar1 (g : DTGs) : DTG := fun d ρ M Q => match d with
  | .tup (x :: xs) => xs.length ≤ 1000 ∧ g [x, .lst xs] ρ M Q
  | _ => False
theorem dg_star1 {t1 t2 : Expr} {p2 pos : Pos} {k : Nat} {g : DTGs} {js : List Nat} (hc : X.calm = true) (h : DGs X [t1, t2] g js) (hn : assignEach [t1, .Starred t2 p2] X.env = [(false, assign t1 X.env), (true, assign t2 X.env)] := by rfl)
    (hm : (assignEach [t1, t2] X.env).map (·.2) = [assign t1 X.env, assign t2 X.env] := by rfl) : DG X (.Tuple [t1, .Starred t2 p2] k pos) (dgStar1 g) js := by
  refine ⟨PG.of (pg_star1 hc h.pg hn hm) fun v σ H Q ⟨d, ρ, M, al, F, G, W, es, r, q⟩ => ?_, fun d ρ M Q Q' w q => ?_⟩
  · unfold dgStar1 at q
    split at q
    · next x xs =>
      cases r with
      | tup a b =>
        cases b with
        | cons b1 b2 =>
          refine ⟨_, _, _, rfl, SqT.of (W.sm _ _ a), (by rw [b2.length]; exact q.1), fun p hp => ?_⟩
          obtain ⟨W', e⟩ := W.newF (o := .lst _) hp
          exact ⟨_, ρ, M, al, _, G, W', es.ext e, .cons (b1.ext e) (.cons (.lst upd_same (b2.ext e)) .nil), h.mono _ _ _ _ _ (fun ρ' M' k al' F' H' σ' e' => k al' F' H' σ' (e.trans e')) q.2⟩
    · exact q.elim
  · unfold dgStar1 at q ⊢
    split at q
    · exact ⟨q.1, h.mono _ _ _ _ _ w q.2⟩
    · exact q.elim
end
structure PM (X : Cx) (cs : List MatchCase) (t : V → TS) : Prop where
  run : ∀ (first : Bool) (pins : List (Addr × Obj)) (s : Shared) (σ : L2.St) (H : Hp) (v : V) (u : Value) (D : Ends), L2.Inv X pins σ H s → RelV v u → t v D σ H → wpAny (model X.prog X.w) X.A (matchCases cs X.env u first) (SP X pins D) X.xe s
section
variable {X : Cx} {e : Expr} {body : List Stmt} {rest : List MatchCase} {pos q : Pos}
theorem pm_any {t : TS} (h : PSs X body t) : PM X [⟨.MatchAs none none pos, none, body⟩] (fun _ => t) := by
  refine ⟨fun first pins s σ H v u D I r hw => ?_⟩
  refine wpAny_matchCases_cons (wpAny_matchPattern_Capture ?_)
  exact wpAny_assignInOrder_none (h.run pins s σ H D I hw)
theorem pm_str {x : Str} {j : Nat} {p : Pos} {t : TS} {tr : V → TS} (h : PSs X body t) (hr : PM X rest tr) : PM X (⟨.MatchValue (.Constant (.str x) j p) q, none, body⟩ :: rest) (fun v D σ H => ∃ y, v = .str y ∧ if decide (y = x) = true then t D σ H else tr v D σ H) := by
  refine ⟨fun first pins s σ H v u D I r ⟨y, ey, hw⟩ => ?_⟩
  subst ey
  obtain ⟨tk, rfl⟩ := r
  refine wpAny_matchCases_cons (wpAny_matchPattern_Value (thn ((pe_str (X := X) (x := x) (j := j) (pos := p)).run pins s σ H (fun z H1 => z = .str x ∧ H1 = H) I ⟨rfl, rfl⟩) fun z s1 ⟨zv, H1, I1, rz, ez, eH⟩ => ?_))
  subst ez eH
  obtain ⟨tz, rfl⟩ := rz
  have key := op_eq (X := X) pins s1 σ H1 (.str y) (.str x) (Value.str y tk) (Value.str x tz) (fun b H2 => b = .bl (decide (y = x)) ∧ H2 = H1) I1 ⟨tk, rfl⟩ ⟨tz, rfl⟩ ?_
  rotate_left
  · refine ⟨rfl, ?_, rfl⟩
    by_cases hyx : y = x
    · subst hyx; rw [decide_eq_true rfl, decide_eq_true rfl]
    · rw [decide_eq_false hyx, decide_eq_false fun z => hyx (by injection z)]
  refine wpAny_mono key (fun c s2 ⟨cv, H2, I2, rc, ec, e2⟩ => ?_) (fun _ _ z => z)
  · subst ec e2
    obtain rfl : c = Value.bool (decide (y = x)) := rc
    refine wpAny_truthy_bool ?_
    by_cases hyx : y = x
    · rw [decide_eq_true hyx] at hw ⊢
      exact wpAny_assignInOrder_none (h.run pins s2 σ _ D I2 hw)
    · rw [decide_eq_false hyx] at hw ⊢
      exact hr.run false pins s2 σ _ (.str y) _ D I2 ⟨tk, rfl⟩ hw
theorem ps_match {te : TE} {cs : List MatchCase} {t : V → TS} (he : PE X e te) (h : PM X cs t) : PS X (.Match e cs pos) (fun D σ H => te σ H fun v H1 => t v D σ H1) :=
  ⟨fun pins s σ H D I hw => wpAny_Match (thn (he.run pins s σ H _ I hw) fun u s1 ⟨v, H1, I1, r, q⟩ => h.run true pins s1 σ H1 v u D I1 r q)⟩
def LiftM (X : Cx) (f : D → DTS) : V → TS := fun v E σ H => ∃ d ρ M al F G, Wd X.K al F G H M ∧ Es X F G al σ ρ ∧ Rp X.K F al v d ∧ f d (kontS X.K al F G ρ.x E) ρ M
structure DM (X : Cx) (cs : List MatchCase) (f : D → DTS) : Prop where
  pm : PM X cs (LiftM X f)
  mono : ∀ d, MonoS (f d)
theorem PM.of {cs : List MatchCase} {t t' : V → TS} (h : PM X cs t) (w : ∀ v E σ H, t' v E σ H → t v E σ H) : PM X cs t' := ⟨fun first pins s σ H v u D I r q => h.run first pins s σ H v u D I r (w v D σ H q)⟩
theorem dm_any {f : DTS} (h : DSs X body f) : DM X [⟨.MatchAs none none pos, none, body⟩] (fun _ => f) :=
  ⟨PM.of (pm_any h.ps) fun v E σ H ⟨d, ρ, M, al, F, G, W, s, r, q⟩ => ⟨ρ, M, al, F, G, W, s, q⟩, fun _ => h.mono⟩
@[reducible] def dmStr (x : Str) (f : DTS) (g : D → DTS) : D → DTS := fun d E ρ M => match d with
  | .str y => if decide (y = x) = true then f E ρ M else g d E ρ M
  | _ => False
theorem dm_str {x : Str} {j : Nat} {p : Pos} {f : DTS} {g : D → DTS} (h : DSs X body f) (hr : DM X rest g) : DM X (⟨.MatchValue (.Constant (.str x) j p) q, none, body⟩ :: rest) (dmStr x f g) := by
  refine ⟨PM.of (pm_str h.ps hr.pm) fun v E σ H ⟨d, ρ, M, al, F, G, W, s, r, q⟩ => ?_, fun d D D' ρ M w q => ?_⟩
  · cases r with
    | str y =>
      refine ⟨y, rfl, ?_⟩
      replace q : if decide (y = x) = true then f (kontS X.K al F G ρ.x E) ρ M else g (.str y) (kontS X.K al F G ρ.x E) ρ M := q
      by_cases hyx : y = x
      · rw [decide_eq_true hyx] at q ⊢
        exact ⟨ρ, M, al, F, G, W, s, q⟩
      · rw [decide_eq_false hyx] at q ⊢
        exact ⟨_, ρ, M, al, F, G, W, s, .str y, q⟩
    | _ => exact q.elim
  · cases d with
    | str y =>
      show if decide (y = x) = true then f D' ρ M else g (.str y) D' ρ M
      replace q : if decide (y = x) = true then f D ρ M else g (.str y) D ρ M := q
      split at q
      · next hh => rw [if_pos hh]; exact h.mono _ _ _ _ w q
      · next hh => rw [if_neg hh]; exact hr.mono _ _ _ _ _ w q
    | _ => exact q.elim
@[reducible] def dMatch (fe : DTE) (f : D → DTS) : DTS := fun E ρ M => fe ρ M fun d M1 => f d E ρ M1
theorem ds_match {fe : DTE} {cs : List MatchCase} {f : D → DTS} (he : DE X e fe) (h : DM X cs f) : DS X (.Match e cs pos) (dMatch fe f) := by
  refine ⟨PS.of (ps_match he.pe h.pm) fun E σ H ⟨ρ, M, al, F, G, W, s, q⟩ => ?_, fun D D' ρ M w q => he.mono _ _ _ _ (fun d M1 q1 => h.mono d _ _ _ _ w q1) q⟩
  exact he.seq W s q fun d M1 al1 F1 H1 v q1 e1 W1 r1 s1 => ⟨d, ρ, M1, al1, F1, G, W1, s1, r1, h.mono d _ _ _ _ (kontS_ext e1) q1⟩
end
end DL
set_option maxHeartbeats 1000000
namespace DL
open PySem PySem.Spec PyProof.Rows L2 MT
section
variable {X : Cx} {CX : CXT} {o e v : Expr} {es : List Expr} {kws : List Keyword} {ta : TE} {t tk : TA} {fo fv : DTE} {fr : DTA} {pos apos p kpos : Pos} {m kn : Str} {k n : Nat} {C f : Addr} {fd : FuncData} {ps ks : List Str} {sp : Sp} {dvs : List V} {dds : List Value} {g : List Value → List Value → List Value} {gV : List V → List V → List V}
/-- a method with one keyword-only parameter that has a default -/
structure ClMeK (P : Program) (w : World) (K : PySem.W.Frag) (mg : Str → Option Value) (base : Heap) (C : Addr) (m : Str) (k : Nat) (ps : List Str) (n : Nat) (ks : List Str) (dd : List D) (ds : DSp) : Prop where
  ex : ∃ (f : Addr) (fd : FuncData), Cls K C ∧ Meth K C m f ∧ FnG P w K mg base (CXd P w) k f fd ps (spOf K ds) ∧ (∃ dvs dds, Vals dvs dds ∧ (∀ F al, Rps K F al dvs dd) ∧ Binds K fd ps dds) ∧ ∃ g, KBn K fd ps n ks g (fun vs zs => vs ++ zs)
  mono : MonoSp ds
end
section
variable {X : Cx} {C f : Addr} {fd : FuncData} {ps : List Str} {k : Nat} {ds : DSp}
/-- an own def of one object, run inside a built-in -/
theorem own_run {pins : List (Addr × Obj)} {σ : L2.St} {H : Hp} {s : Shared} {a : Addr} {Q : VK} {R : Value → Shared → Prop} {A : Around} (hA : A = X.A.in1 ∨ A = X.A.in1.in1) (F : FnG X.prog X.w X.K X.mg X.base (CXd X.prog X.w) k f fd ps (spOf X.K ds)) (hgd : X.A.guards = some []) (hr : Room (k + 2) X.A) (hb : Binds X.K fd ps [])
    (I : L2.Inv X pins σ H s) (h : spOf X.K ds [.ref a] H Q (fun _ _ _ => False)) (fin : ∀ u s', EP X pins σ Q u s' → R u s') : wpAny (model X.prog X.w) A (call (.ref f) [.ref a]) R X.xe s := by
  have hl : ([Value.ref a] ++ []).length = ps.length := by
    rw [← F.len _ _ _ _ h]
    rfl
  have go : ∀ A : Around, A.guards = some [] → Room k A → Env0 X.prog X.w X.K X.mg X.base A X.stack s H → wpAny (model X.prog X.w) A (call (.ref f) [.ref a]) R X.xe s := fun A hg hr he => by
    refine wpAny_call (codeAny_mono (F.run A X.stack s H ⟨[.ref a], []⟩ [.ref a] [.ref a] Q (fun _ _ _ => False) hg hr he (hb _ [.ref a] I.kIn hl) (.cons rfl .nil) h) fun r s' hq => ?_)
    match r, hq with
    | .error er, hq =>
      exact (cx_no hq).elim
    | .ok (.ret u), hq => exact fin u s' (I.after hq)
    | .ok .next, hq => exact hq.elim
    | .ok .brk, hq => exact hq.elim
    | .ok .cont, hq => exact hq.elim
  rcases hA with rfl | rfl
  · exact go _ (in1_guards hgd) (hr.in1.mono (by omega)) I.env0.in1
  · exact go _ (in1_guards (in1_guards hgd)) hr.in1.in1 I.env0.in1.in1
@[reducible] def gLenO (C : Addr) (ds : DSp) : G1 := fun x M Q => match x with
  | .ref n => match M[n]? with
    | some (.ins C' fs) => C' = C ∧ ds [.ref n] M (fun v M2 => ∃ i : Int, v = .int i ∧ 0 ≤ i ∧ i < 2 ^ 62 ∧ Q (.int i) M2) fun _ _ _ => False
    | _ => False
  | _ => False
theorem gLenO_mono (hm : MonoSp ds) : Mono1 (gLenO C ds) := fun x M Q Q' w q => by
  cases x with
  | ref n =>
    unfold gLenO at q ⊢
    dsimp only at q ⊢
    split at q
    · exact ⟨q.1, hm _ _ _ _ _ _ (fun v M2 ⟨i, a, b, c, d⟩ => ⟨i, a, b, c, w _ _ d⟩) (fun _ _ _ z => z) q.2⟩
    · exact q.elim
  | _ => exact q.elim
theorem o_lenO (C0 : ClMe X.prog X.w X.K X.mg X.base C "__len__" k ps ds) (hgd : X.A.guards = some []) (hr : Room (k + 2) X.A) : ON X (.builtin "len") (g1 (gLenO C ds)) := by
  obtain ⟨f, fd, c, hm, G, hb⟩ := C0.ex
  have hmono := C0.mono
  refine ⟨fun pins s σ al F Gg H M xs us dd Q I rv W rs q => ?_, g1_mono (gLenO_mono hmono)⟩
  match dd, rs, q with
  | [], _, q => exact q.elim
  | _ :: _ :: _, _, q => exact q.elim
  | [d], .cons r .nil, q =>
    cases d with
    | ref n =>
      replace q : gLenO C ds (.ref n) M (kont X.K al F Gg Q) := q
      unfold gLenO at q
      dsimp only at q
      split at q
      · next C' fs em =>
        obtain ⟨rfl, q2⟩ := q
        obtain ⟨p, dx, vs, rfl, _, h2, h3, h4⟩ := cell_ins W r em
        cases rv with
        | cons r1 r2 =>
          cases r2
          obtain rfl : _ = Value.ref p := r1
          obtain ⟨mA, O, _, _, _, _⟩ := ins_get I.hok h2
          obtain ⟨od, J, _⟩ := O.look
          obtain ⟨mF, hF⟩ := I.fr
          refine PySem.W.len_K hF I.ok.mod.kin J hm.at_ hm.fn (own_run (.inl rfl) G hgd hr hb I (Q := fun v H1 => ∃ i : Int, v = .int i ∧ 0 ≤ i ∧ i < 2 ^ 62 ∧ Q (.int i) H1) ⟨[.ref n], M, al, F, Gg, W, .cons r .nil, hmono _ _ _ _ _ _ (fun v M2 ⟨i, e1, h0, h1, q3⟩ => ?_) (fun _ _ _ z => z.elim) q2⟩ fun u s' ⟨v, H', I', rv, i, e1, h0, h1, q3⟩ => ?_)
          · subst e1
            obtain ⟨t, rfl⟩ := rv
            exact ⟨⟨h0, by omega⟩, .int i, H', I'.tok _, ⟨_, rfl⟩, q3⟩
          · subst e1
            intro al' F' H' v e' W' r'
            cases r'
            exact ⟨i, rfl, h0, h1, q3 al' F' H' _ e' W' (.int i)⟩
      · exact q.elim
    | _ => exact q.elim
end
section
variable {X : Cx} {e : Expr} {es : List Expr} {fe : DTE} {pos : Pos}
@[reducible] def gFmt : G1 := fun d M Q => match d with
  | .int i => i.natAbs.log2 < 1920 ∧ Q (.str (Str.ofString (toString i))) M
  | .str x => x.length ≤ sizeLine ∧ Q (.str x) M
  | .non => Q (.str "None") M
  | _ => False
theorem gFmt_mono : Mono1 gFmt := fun d M Q Q' w q => by
  cases d <;> first | exact q.elim | exact w _ _ q | exact ⟨q.1, w _ _ q.2⟩
/-- {e} -/
theorem d_fmt (h : DE X e fe) : DE X (.FormattedValue e (-1) none pos) (dUn gFmt fe) := by
  refine ⟨⟨fun pins s σ H Q I hh => ?_⟩, fun ρ M Q Q' w q => h.mono _ _ _ _ (fun x M1 q1 => gFmt_mono x M1 Q Q' w q1) q⟩
  obtain ⟨ρ, M, al, F, G, W, es, q⟩ := hh
  have hl : Lift X fe σ H (fun x H1 => ∃ dx M1 al1 F1, Wd X.K al1 F1 G H1 M1 ∧ Rp X.K F1 al1 x dx ∧ gFmt dx M1 (kont X.K al1 F1 G Q)) :=
    h.seq W es q fun dx M1 al1 F1 H1 v q1 e1 W1 r1 s1 => ⟨dx, M1, al1, F1, W1, r1, gFmt_mono _ _ _ _ (fun d M3 k => k.ext e1) q1⟩
  refine wpAny_FormattedValue_plain (thn (h.pe.run pins s σ H _ I hl) fun v s1 ⟨x, H1, I1, rx, dx, M1, al1, F1, W1, r1, k⟩ => ?_)
  cases r1 with
  | int i =>
    obtain ⟨t, rfl⟩ := rx
    exact wpAny_formatField_int k.1 ⟨.str _, H1, I1.tok _, ⟨_, rfl⟩, kont.here k.2 W1 (.str _)⟩
  | str i =>
    obtain ⟨t, rfl⟩ := rx
    exact wpAny_formatField_str ⟨.str _, H1, I1, ⟨t, rfl⟩, kont.here k.2 W1 (.str _)⟩ ⟨.str _, H1, I1.tok _, ⟨_, rfl⟩, kont.here k.2 W1 (.str _)⟩ k.1
  | non =>
    obtain rfl : _ = Value.none := rx
    exact wpAny_formatField_none ⟨.str _, H1, I1.tok _, ⟨_, rfl⟩, kont.here k W1 (.str _)⟩
  | _ => exact k.elim
/-- the parts, one behind the other -/
abbrev DTJ := Str → Dn → Sto → (Str → Sto → Prop) → Prop
@[reducible] def dJNil : DTJ := fun acc _ M Q => Q acc M
@[reducible] def dJCons (f : DTE) (g : DTJ) : DTJ := fun acc ρ M Q => f ρ M fun d M1 => match d with
  | .str y => (acc ++ y).length ≤ sizeLine ∧ g (acc ++ y) ρ M1 Q
  | _ => False
structure DJ (X : Cx) (es : List Expr) (f : DTJ) : Prop where
  run : ∀ (pins : List (Addr × Obj)) (σ : L2.St) (acc : Str) (s : Shared) (H : Hp) (Q : Str → Hp → Prop) (R : Str → Shared → Prop), acc.length ≤ sizeLine → L2.Inv X pins σ H s → (∃ ρ M al F G, Wd X.K al F G H M ∧ Es X F G al σ ρ ∧ f acc ρ M fun y M' => ∀ al' F' H', Ext al F al' F' → Wd X.K al' F' G H' M' → Q y H') →
    (∀ out s1 H1, out.length ≤ sizeLine → L2.Inv X pins σ H1 s1 → Q out H1 → R out s1) → Joins (model X.prog X.w) X.A X.xe (evalEach es X.env) acc R s
  mono : ∀ acc ρ M (Q Q' : Str → Sto → Prop), (∀ y M, Q y M → Q' y M) → f acc ρ M Q → f acc ρ M Q'
theorem dj_nil : DJ X [] dJNil := by
  refine ⟨fun pins σ acc s H Q R hz I ⟨ρ, M, al, F, G, W, es, q⟩ k => ?_, fun acc ρ M Q Q' w q => w _ _ q⟩
  have e0 : evalEach [] X.env = [] := by first | rfl | simp [evalEach]
  rw [e0]
  exact k acc s H hz I (q al F H (Ext.refl _ _) W)
theorem dj_cons {g : DTJ} (h : DE X e fe) (hr : DJ X es g) : DJ X (e :: es) (dJCons fe g) := by
  refine ⟨fun pins σ acc s H Q R hz I ⟨ρ, M, al, F, G, W, es', q⟩ k => ?_, fun acc ρ M Q Q' w q => h.mono _ _ _ _ (fun d M1 q1 => ?_) q⟩
  · have e0 : evalEach (e :: es) X.env = eval e X.env :: evalEach es X.env := by first | rfl | simp [evalEach]
    rw [e0]
    have hl : Lift X fe σ H (fun x H1 => ∃ y M1 al1 F1, x = .str y ∧ Wd X.K al1 F1 G H1 M1 ∧ Es X F1 G al1 σ ρ ∧ (acc ++ y).length ≤ sizeLine ∧ g (acc ++ y) ρ M1 fun y M' => ∀ al' F' H', Ext al1 F1 al' F' → Wd X.K al' F' G H' M' → Q y H') :=
      h.seq W es' q fun dx M1 al1 F1 H1 v q1 e1 W1 r1 s1 => by
        cases r1 with
        | str y => exact ⟨y, M1, al1, F1, rfl, W1, s1, q1.1, hr.mono _ _ _ _ _ (fun z M' kk al' F' H' e' => kk al' F' H' (e1.trans e')) q1.2⟩
        | _ => exact q1.elim
    refine thn (h.pe.run pins s σ H _ I hl) fun v s1 ⟨x, H1, I1, rx, y, M1, al1, F1, ex, W1, s1', hy, q1⟩ => ?_
    subst ex
    obtain ⟨tk, rfl⟩ := rx
    exact ⟨y, tk, rfl, hy, hr.run pins σ (acc ++ y) s1 H1 Q R hy I1 ⟨ρ, M1, al1, F1, G, W1, s1', q1⟩ k⟩
  · cases d <;> first | exact q1.elim | exact ⟨q1.1, hr.mono _ _ _ _ _ w q1.2⟩
@[reducible] def dJoined (g : DTJ) : DTE := fun ρ M Q => g Str.empty ρ M fun y M1 => Q (.str y) M1
/-- f'..' of two parts or more -/
theorem d_joined {v1 v2 : Expr} {rest : List Expr} {g : DTJ} (h : DJ X (v1 :: v2 :: rest) g) : DE X (.JoinedStr (v1 :: v2 :: rest) pos) (dJoined g) := by
  refine ⟨⟨fun pins s σ H Q I ⟨ρ, M, al, F, G, W, es, q⟩ => ?_⟩, fun ρ M Q Q' w q => h.mono _ _ _ _ _ (fun y M1 q1 => w _ _ q1) q⟩
  exact wpAny_JoinedStr (h.run pins σ Str.empty s H (fun out H1 => Q (.str out) H1) _ (Nat.zero_le _) I ⟨ρ, M, al, F, G, W, es, h.mono _ _ _ _ _ (fun y M1 q1 al' F' H' e' W' => q1 al' F' H' _ e' W' (.str y)) q⟩ fun out s1 H1 hz I1 q1 => ⟨hz, .str out, H1, I1.tok _, ⟨_, rfl⟩, q1⟩)
def strsOf : List D → Option (List Str)
  | [] => some []
  | .str x :: ds => (strsOf ds).map (x :: ·)
  | _ => none
theorem strsOf_ok {K : PySem.W.Frag} {F : Hp} {al : List Addr} : ∀ {ds : List D} {ys : List Str} {vs : List V}, strsOf ds = some ys → Rps K F al vs ds → vs = ys.map V.str
  | [], ys, vs, h, r => by cases r; cases h; rfl
  | d :: ds, ys, vs, h, r => by
    cases d with
    | str x =>
      replace h : (strsOf ds).map (x :: ·) = some ys := h
      cases e : strsOf ds with
      | none => rw [e] at h; cases h
      | some zs =>
        rw [e] at h
        cases h
        cases r with
        | cons r1 r2 => cases r1; rw [strsOf_ok e r2]; rfl
    | _ => cases h
@[reducible] def gJoin (a : Str) : G1 := fun y M Q => match itemsOf y M with
  | some ds => match strsOf ds with
    | some ys => (ys.map (·.length)).sum + ys.length * a.length ≤ 16777216 ∧ Q (.str (Str.join a ys)) M
    | none => False
  | none => False
theorem gJoin_mono (a : Str) : Mono1 (gJoin a) := fun y M Q Q' w q => by
  unfold gJoin at q ⊢
  split at q
  · split at q
    · exact ⟨q.1, w _ _ q.2⟩
    · exact q.elim
  · exact q.elim
@[reducible] def dJoin (fo fe : DTE) : DTE := fun ρ M Q => fo ρ M fun x M1 => match x with
  | .str a => fe ρ M1 fun y M2 => gJoin a y M2 Q
  | _ => False
/-- sep.join(a list | a tuple of texts) -/
theorem d_join {o : Expr} {fo : DTE} {apos : Pos} (ho : DE X o fo) (he : DE X e fe) (hs : starEach [e] X.env = [(false, eval e X.env)] := by rfl) (hbase : attributeBase o "join" X.env (eval o X.env) = eval o X.env := by rfl) (hline : (apos.endLine == pos.line) = true := by rfl) :
    DE X (.Call (.Attribute o "join" apos) [e] [] pos) (dJoin fo fe) := by
  refine ⟨PE.of (pe_join ho.pe he.pe hs hbase hline) fun σ H Q ⟨ρ, M, al, F, G, W, s, q⟩ => ?_, fun ρ M Q Q' w q => ho.mono _ _ _ _ (fun x M1 q1 => ?_) q⟩
  · refine ho.seq W s q fun x M1 al1 F1 H1 v q1 e1 W1 r1 s1 => ?_
    cases r1 with
    | str a =>
      refine ⟨⟨a, rfl⟩, ?_⟩
      refine he.seq W1 s1 q1 fun y M2 al2 F2 H2 u q2 e2 W2 r2 s2 => ?_
      unfold gJoin at q2
      split at q2
      · next ds ed =>
        split at q2
        · next ys es =>
          obtain ⟨p, xs, rfl, h1, rs⟩ := itemsOf_ok W2 r2 ed
          have hx := strsOf_ok es rs
          subst hx
          refine ⟨_, p, ys, rfl, rfl, ?_, q2.1, ?_⟩
          · rcases h1 with h1 | h1
            · exact .inr (SqT.of h1)
            · exact .inl (SqL.of h1)
          · rw [show Txt.join _ ys = Str.join _ ys from TL.join_eq _ ys]
            exact q2.2 al2 F2 H2 _ (e1.trans e2) W2 (.str _)
        · exact q2.elim
      · exact q2.elim
    | _ => exact q1.elim
  · cases x <;> first | exact q1.elim | exact he.mono _ _ _ _ (fun y M2 q2 => gJoin_mono _ _ _ _ _ w q2) q1
end
structure DfMK (K : PySem.W.Frag) (C : Addr) (m qual : Str) (st : Stmt) (kn : Str) (dv : V) : Prop where
  ex : ∃ (f : Addr) (fd : FuncData), FunK1 K m qual st kn dv f fd ∧ Meth K C m f
end DL
set_option maxHeartbeats 1000000
namespace DL
open PySem PySem.Spec PyProof.Rows L2 MT
abbrev Ps := List (Nat × Int)
abbrev FS := Tr × Ps
inductive Ed where
  | push (m : Nat) (v : Int) | pull (i : Nat) | stretch (m l : Nat)
@[reducible] def edD : Ed → D
  | .push m v => .tup [.str "push", natD m, .int v]
  | .pull i => .tup [.str "pull", natD i]
  | .stretch m l => .tup [.str "stretch", natD m, natD l]
def aft (s : FS) : Ed → FS
  | .push m v => (s.1, s.2 ++ [(m, v)])
  | .pull i => (s.1, s.2.take i ++ s.2.drop (i + 1))
  | .stretch m l => (s.1.take (m - 1) ++ [((s.1.getD (m - 1) (0, 0)).1, l)] ++ s.1.drop m, s.2)
structure StOk (s : FS) : Prop where
  tr : TreeOk s.1
  len : s.2.length ≤ 20
  ps : ∀ p ∈ s.2, PushOk s.1 p
def EdOk (s : FS) : Ed → Prop
  | .push m v => PushOk s.1 (m, v) ∧ s.2.length < 20
  | .pull i => i < s.2.length
  | .stretch m l => 1 ≤ m ∧ m ≤ s.1.length ∧ 1 ≤ l ∧ l ≤ 1000000
theorem stretch_len {t : Tr} {m : Nat} {x : Nat × Nat} (h1 : 1 ≤ m) (h2 : m ≤ t.length) : (t.take (m - 1) ++ [x] ++ t.drop m).length = t.length := by
  rw [List.length_append, List.length_append, List.length_take, List.length_drop, List.length_singleton]
  omega
theorem aft_ok {s : FS} {e : Ed} (h : StOk s) (he : EdOk s e) : StOk (aft s e) := by
  obtain ⟨t, ps⟩ := s
  cases e with
  | push m v =>
    refine ⟨h.tr, ?_, fun p hp => ?_⟩
    · show (ps ++ [(m, v)]).length ≤ 20
      rw [List.length_append, List.length_singleton]
      have h2 : ps.length < 20 := he.2
      omega
    · rcases List.mem_append.mp hp with hp | hp
      · exact h.ps p hp
      · rw [show p = (m, v) by simpa using hp]; exact he.1
  | pull i =>
    refine ⟨h.tr, ?_, fun p hp => ?_⟩
    · show (ps.take i ++ ps.drop (i + 1)).length ≤ 20
      rw [List.length_append, List.length_take, List.length_drop]
      have h2 : ps.length ≤ 20 := h.len
      omega
    · rcases List.mem_append.mp hp with hp | hp
      · exact h.ps p (List.mem_of_mem_take hp)
      · exact h.ps p (List.mem_of_mem_drop hp)
  | stretch m l =>
    obtain ⟨h1, h2, h3, h4⟩ := he
    replace h2 : m ≤ t.length := h2
    have hl := stretch_len (t := t) (x := ((t.getD (m - 1) (0, 0)).1, l)) h1 h2
    refine ⟨⟨?_, fun k p e => ?_⟩, h.len, fun p hp => ?_⟩
    · show (t.take (m - 1) ++ [_] ++ t.drop m).length ≤ 11
      rw [hl]; exact h.tr.1
    · replace e : (t.take (m - 1) ++ [((t.getD (m - 1) (0, 0)).1, l)] ++ t.drop m)[k]? = some p := e
      have ht : ∀ (k : Nat) (p : Nat × Nat), t[k]? = some p → p.1 ≤ k ∧ 1 ≤ p.2 ∧ p.2 ≤ 1000000 := h.tr.2
      rw [List.append_assoc] at e
      by_cases hk : k < m - 1
      · rw [List.getElem?_append_left (by rw [List.length_take]; omega), List.getElem?_take_of_lt hk] at e
        exact ht k p e
      · rw [List.getElem?_append_right (by rw [List.length_take]; omega), List.length_take, show min (m - 1) t.length = m - 1 by omega] at e
        by_cases hk2 : k = m - 1
        · subst hk2
          rw [Nat.sub_self] at e
          cases e
          have hm : m - 1 < t.length := by omega
          have := ht (m - 1) t[m - 1] (List.getElem?_eq_getElem hm)
          refine ⟨?_, h3, h4⟩
          show (t.getD (m - 1) (0, 0)).1 ≤ m - 1
          rw [List.getD_eq_getElem?_getD, List.getElem?_eq_getElem hm]
          exact this.1
        · rw [List.getElem?_append_right (by rw [List.length_singleton]; omega), List.length_singleton, List.getElem?_drop] at e
          exact ht k p (by rw [show k = m + (k - (m - 1) - 1) by omega]; exact e)
    · have := h.ps p hp
      unfold PushOk at this ⊢
      show p.1 ≤ (t.take (m - 1) ++ [_] ++ t.drop m).length ∧ _
      rw [hl]
      exact this
@[reducible] def psD (ps : Ps) : D := .tup (ps.map pushD)
@[reducible] def stateD (s : FS) : D := .tup [treeD s.1, psD s.2]
def tableL (s : FS) : List D := if s.2 = [] then List.replicate (s.1.length + 1) .non else (fallsT s.1 s.2).map D.int
@[reducible] def tableD (s : FS) : D := .tup (tableL s)
theorem StOk.psok {s : FS} (h : StOk s) (hne : s.2 ≠ []) : PsOk s.1 s.2 := ⟨hne, h.len, h.ps⟩
/-- the five places of a field -/
structure Fp where
  n : Nat
  a : Nat
  b : Nat
  c : Nat
  d : Nat
structure Fp.Ok (p : Fp) : Prop where
  na : p.n ≠ p.a
  nb : p.n ≠ p.b
  nc : p.n ≠ p.c
  nd : p.n ≠ p.d
  ab : p.a ≠ p.b
  ac : p.a ≠ p.c
  ad : p.a ≠ p.d
  bc : p.b ≠ p.c
  bd : p.b ≠ p.d
  cd : p.c ≠ p.d
def fldL (p : Fp) (w : Bool) (more : List (Str × D)) : List (Str × D) := ("states", .ref p.a) :: ("tables", .ref p.b) :: ("notes", .ref p.c) :: ("standing", .ref p.d) :: ("watching", .bl w) :: more
@[reducible] def fldC (C : Addr) (p : Fp) (w : Bool) (more : List (Str × D)) : Cell := .ins C (fldL p w more)
theorem lk_states (p : Fp) (w : Bool) (more : List (Str × D)) : (fldL p w more).lookup ("states" : Str) = some (D.ref p.a) := rfl
theorem lk_tables (p : Fp) (w : Bool) (more : List (Str × D)) : (fldL p w more).lookup ("tables" : Str) = some (D.ref p.b) := rfl
theorem lk_notes (p : Fp) (w : Bool) (more : List (Str × D)) : (fldL p w more).lookup ("notes" : Str) = some (D.ref p.c) := rfl
theorem lk_standing (p : Fp) (w : Bool) (more : List (Str × D)) : (fldL p w more).lookup ("standing" : Str) = some (D.ref p.d) := rfl
theorem lk_watching (p : Fp) (w : Bool) (more : List (Str × D)) : (fldL p w more).lookup ("watching" : Str) = some (D.bl w) := rfl
/-- a field with these states (the present one last), notes and edits -/
structure Fld (C : Addr) (M : Sto) (p : Fp) (w : Bool) (more : List (Str × D)) (hs : List FS) (ns : List D) (es : List Ed) : Prop where
  ok : p.Ok
  ins : M[p.n]? = some (fldC C p w more)
  sts : M[p.a]? = some (.lst (hs.map stateD))
  tbs : M[p.b]? = some (.lst (hs.map tableD))
  nts : M[p.c]? = some (.lst ns)
  eds : M[p.d]? = some (.lst (es.map edD))
/-- the lists written anew -/
def putF (M : Sto) (p : Fp) (hs : List FS) (ns : List D) (es : List Ed) : Sto := (((M.set p.c (.lst ns)).set p.a (.lst (hs.map stateD))).set p.b (.lst (hs.map tableD))).set p.d (.lst (es.map edD))
theorem putF_get {M : Sto} {p : Fp} {hs : List FS} {ns : List D} {es : List Ed} {i : Nat} (ha : i ≠ p.a) (hb : i ≠ p.b) (hc : i ≠ p.c) (hd : i ≠ p.d) : (putF M p hs ns es)[i]? = M[i]? := by
  unfold putF
  rw [List.getElem?_set_ne (Ne.symm hd), List.getElem?_set_ne (Ne.symm hb), List.getElem?_set_ne (Ne.symm ha), List.getElem?_set_ne (Ne.symm hc)]
theorem Fld.put {C : Addr} {M : Sto} {p : Fp} {w : Bool} {more : List (Str × D)} {hs : List FS} {ns : List D} {es : List Ed} (F : Fld C M p w more hs ns es) (hs' : List FS) (ns' : List D) (es' : List Ed) : Fld C (putF M p hs' ns' es') p w more hs' ns' es' := by
  have hl : ∀ {i : Nat} {c : Cell}, M[i]? = some c → i < M.length := fun h => (List.getElem?_eq_some_iff.mp h).1
  have o := F.ok
  refine ⟨o, ?_, ?_, ?_, ?_, ?_⟩
  · rw [putF_get o.na o.nb o.nc o.nd]; exact F.ins
  · unfold putF
    rw [List.getElem?_set_ne (Ne.symm o.ad), List.getElem?_set_ne (Ne.symm o.ab), List.getElem?_set_self (by rw [List.length_set]; exact hl F.sts)]
  · unfold putF
    rw [List.getElem?_set_ne (Ne.symm o.bd), List.getElem?_set_self (by rw [List.length_set, List.length_set]; exact hl F.tbs)]
  · unfold putF
    rw [List.getElem?_set_ne (Ne.symm o.cd), List.getElem?_set_ne o.bc, List.getElem?_set_ne o.ac, List.getElem?_set_self (hl F.nts)]
  · unfold putF
    rw [List.getElem?_set_self (by rw [List.length_set, List.length_set, List.length_set]; exact hl F.eds)]
/-- the field is there whatever else changes -/
theorem Fld.keep {C : Addr} {M M' : Sto} {p : Fp} {w : Bool} {more : List (Str × D)} {hs : List FS} {ns : List D} {es : List Ed} (F : Fld C M p w more hs ns es) (h : ∀ i, i = p.n ∨ i = p.a ∨ i = p.b ∨ i = p.c ∨ i = p.d → M'[i]? = M[i]?) : Fld C M' p w more hs ns es :=
  ⟨F.ok, (h _ (.inl rfl)).trans F.ins, (h _ (.inr (.inl rfl))).trans F.sts, (h _ (.inr (.inr (.inl rfl)))).trans F.tbs, (h _ (.inr (.inr (.inr (.inl rfl))))).trans F.nts, (h _ (.inr (.inr (.inr (.inr rfl))))).trans F.eds⟩
theorem Fld.app {C : Addr} {M : Sto} {p : Fp} {w : Bool} {more : List (Str × D)} {hs : List FS} {ns : List D} {es : List Ed} (F : Fld C M p w more hs ns es) (M' : Sto) : Fld C (M ++ M') p w more hs ns es := by
  have hl : ∀ {i : Nat} {c : Cell}, M[i]? = some c → (M ++ M')[i]? = M[i]? := fun h => List.getElem?_append_left (List.getElem?_eq_some_iff.mp h).1
  exact ⟨F.ok, (hl F.ins).trans F.ins, (hl F.sts).trans F.sts, (hl F.tbs).trans F.tbs, (hl F.nts).trans F.nts, (hl F.eds).trans F.eds⟩
theorem last_at {α : Type} (f : α → D) (hs : List α) (x : α) : atI ((hs ++ [x]).map f) (-1) = some (f x) := by
  rw [List.map_append, List.map_cons, List.map_nil]
  exact atI_back _ _
/-- behind the deck -/
theorem dk_set {cs : List Int} {n : Int} {R : Sto} {i : Nat} {c : Cell} (h : 2 ≤ i) : (dk cs n ++ R).set i c = dk cs n ++ R.set (i - 2) c := by
  obtain ⟨j, rfl⟩ : ∃ j, i = j + 2 := ⟨i - 2, by omega⟩
  rfl
theorem dk_putF {cs : List Int} {n : Int} {R : Sto} {p : Fp} {hs : List FS} {ns : List D} {es : List Ed} (ha : 2 ≤ p.a) (hb : 2 ≤ p.b) (hc : 2 ≤ p.c) (hd : 2 ≤ p.d) : putF (dk cs n ++ R) p hs ns es = dk cs n ++ (((R.set (p.c - 2) (.lst ns)).set (p.a - 2) (.lst (hs.map stateD))).set (p.b - 2) (.lst (hs.map tableD))).set (p.d - 2) (.lst (es.map edD)) := by
  unfold putF
  rw [dk_set hc, dk_set ha, dk_set hb, dk_set hd]
theorem Fld.dk {C : Addr} {cs cs' : List Int} {n n' : Int} {R : Sto} {p : Fp} {w : Bool} {more : List (Str × D)} {hs : List FS} {ns : List D} {es : List Ed} (F : Fld C (dk cs n ++ R) p w more hs ns es) (h : 2 ≤ p.n ∧ 2 ≤ p.a ∧ 2 ≤ p.b ∧ 2 ≤ p.c ∧ 2 ≤ p.d) : Fld C (DL.dk cs' n' ++ R) p w more hs ns es := by
  refine F.keep fun i hi => ?_
  have h2 : 2 ≤ i := by rcases hi with rfl | rfl | rfl | rfl | rfl <;> omega
  obtain ⟨j, rfl⟩ : ∃ j, i = j + 2 := ⟨i - 2, by omega⟩
  rfl
theorem eqv_unit (ds : List D) : PyData.eqv (toPy (.tup ds)) (toPy (.tup [])) = decide (ds = []) := by
  cases ds with
  | nil => rfl
  | cons d ds => rfl
theorem pl_ps (ps : Ps) : Pl 2 (psD ps) := .tup fun d hd => by
  obtain ⟨p, _, rfl⟩ := List.mem_map.mp hd
  exact pl_push p
theorem pl_row (p : Nat × Nat) : Pl 1 (rowD p) := .tup fun d hd => by
  have : d = .int p.1 ∨ d = .int p.2 := by simpa using hd
  rcases this with rfl | rfl <;> exact .int _
theorem pl_tree (t : Tr) : Pl 2 (treeD t) := .tup fun d hd => by
  obtain ⟨p, _, rfl⟩ := List.mem_map.mp hd
  exact pl_row p
theorem pl_unit : Pl 1 (.tup []) := .tup (h := 0) fun d hd => nomatch hd
theorem ps_nil {ps : Ps} : decide (ps.map pushD = []) = decide (ps = []) := by
  cases ps with
  | nil => rfl
  | cons p ps => rfl
@[reducible] def fpAt (n : Nat) : Fp := ⟨n, n + 1, n + 2, n + 3, n + 4⟩
def newF (C : Addr) (n : Nat) (more : List (Str × D)) (t : Tr) : Sto := [fldC C (fpAt n) false more, .lst [stateD (t, [])], .lst [tableD (t, [])], .lst [.non], .lst []]
theorem fpAt_ok (n : Nat) : (fpAt n).Ok := ⟨by simp, by simp, by simp, by simp, by simp, by simp, by simp, by simp, by simp, by simp⟩
theorem newF_fld (C : Addr) (M : Sto) (more : List (Str × D)) (t : Tr) : Fld C (M ++ newF C M.length more t) (fpAt M.length) false more [(t, [])] [.non] [] := by
  have h : ∀ (j : Nat), (M ++ newF C M.length more t)[M.length + j]? = (newF C M.length more t)[j]? := fun j => by
    rw [List.getElem?_append_right (by omega)]
    congr 1
    omega
  exact ⟨fpAt_ok _, h 0, h 1, h 2, h 3, h 4⟩
def numT (i : Int) : Str := Str.ofString (toString i)
theorem numT_ok {i : Int} (h : i.natAbs < 10 ^ 12) : i.natAbs.log2 < 1920 ∧ (numT i).length ≤ 13 := ⟨of_decide_eq_true (Sh.int h).ok'.showable, (Sh.int h).ok'.len⟩
theorem len_app (x y : Str) : (x ++ y).length = x.length + y.length := by
  show (x.cps ++ y.cps).size = _
  rw [Array.size_append]
  rfl
end DL
set_option maxHeartbeats 1000000
namespace DL
open PySem PySem.Spec PyProof.Rows L2 MT
section
variable {X : Cx} {body : List Stmt} {h₀ : ExceptHandler} {hs : List ExceptHandler} {f₀ : Stmt} {fs : List Stmt} {pos : Pos} {f g : DTS} {t tf : TS}
@[reducible] def dTryQ (f : DTS) : DTS := fun D ρ M => f (endsX D ρ.x) ⟨ρ.v, noX⟩ M
theorem ds_tryQ (h : DSs X.nox body f) : DS X (.Try body (h₀ :: hs) [] [] pos) (dTryQ f) := by
  refine ⟨PS.of (ps_try_thru0 h.ps) fun E σ H ⟨ρ, M, al, F, G, W, es, q⟩ => ?_, fun D D' ρ M w q => h.mono (endsX D ρ.x) (endsX D' ρ.x) _ _ ⟨fun _ _ k => w.nx _ _ k, w.rt, fun _ _ k => w.bk _ _ k, fun _ _ k => w.ct _ _ k⟩ q⟩
  refine ⟨⟨ρ.v, noX⟩, M, al, F, G, W, Es.none es.sl rfl, MonoS.up h.mono q ⟨fun ρ1 M1 k al1 F1 H1 σ1 e1 W1 s1 _ => ?_, fun d M1 k => k, fun ρ1 M1 k al1 F1 H1 σ1 e1 W1 s1 _ => ?_, fun ρ1 M1 k al1 F1 H1 σ1 e1 W1 s1 _ => ?_⟩⟩
  · exact (show kN X.K al F G ρ.x E.nx ⟨ρ1.v, ρ.x⟩ M1 from k) al1 F1 H1 σ1 e1 W1 s1 rfl
  · exact (show kN X.K al F G ρ.x E.bk ⟨ρ1.v, ρ.x⟩ M1 from k) al1 F1 H1 σ1 e1 W1 s1 rfl
  · exact (show kN X.K al F G ρ.x E.ct ⟨ρ1.v, ρ.x⟩ M1 from k) al1 F1 H1 σ1 e1 W1 s1 rfl
end
end DL
set_option maxHeartbeats 1000000
namespace DL
open PySem PySem.Spec PyProof.Rows L2 MT
end DL
set_option maxHeartbeats 1000000
namespace DL
open PySem PySem.Spec PyProof.Rows L2
/-- lo, lo - 1, .. (n of them) -/
def rngD (lo : Int) (n : Nat) : List D := (List.range n).map fun (i : Nat) => D.int (lo - i)
section
variable {X : Cx} {pos : Pos} {a b c : Expr} {fr : DTA}
@[reducible] def diR3 (fr : DTA) : DTI := fun ρ M R => fr ρ M fun ds M1 => match ds with
  | [.int i, .int j, .int c] => c = -1 ∧ (-(2 ^ 62) ≤ i ∧ i < 2 ^ 62 ∧ -(2 ^ 62) ≤ j ∧ j < 2 ^ 62) ∧ R (rngD i (i - j).toNat) stYes M1
  | _ => False
end
end DL
set_option maxHeartbeats 2000000
namespace DL
open PySem PySem.Spec PyProof.Rows L2
section
variable {ck : List (PySem.W.Frag → Bool)} {fn : List HDef} {ts : List He.Tab} {w : World} {K : PySem.W.Frag} {h : Heap} {mg : Str → Option Value}
theorem SaysH.fact (c : SaysH ck fn ts w K) (i : Nat) {f : PySem.W.Frag → Bool} (h : ck[i]? = some f) : f K = true := by
  have c1 := (He.ba (show ((ck.all fun f => f K) && fn.all fun d => d.ok K) = true from congrArg (fun z : AlH => z.1) c)).1
  exact List.all_eq_true.mp c1 f (List.mem_of_getElem? h)
theorem SaysH.def_ (c : SaysH ck fn ts w K) (i : Nat) {d : HDef} (h : fn[i]? = some d) (hcl : d.clo = [] := by rfl) : ∃ fd, FunD K d.name d.qual (defArgs d.st) (defBody d.st) (defScope d.st) [] (d.kws K) (d.at_ K) fd := by
  have c2 := (He.ba (show ((ck.all fun f => f K) && fn.all fun d => d.ok K) = true from congrArg (fun z : AlH => z.1) c)).2
  have e : fn.map (fun d => fnH K (d.at_ K)) = fn.map HDef.val := congrArg (fun z : AlH => z.2.1) c
  have e2 : (fn.map fun d => fnH K (d.at_ K))[i]? = (fn.map HDef.val)[i]? := by rw [e]
  rw [List.getElem?_map, List.getElem?_map, h] at e2
  exact HDef.funD hcl (Option.some.inj e2) (List.all_eq_true.mp c2 d (List.mem_of_getElem? h))
theorem SaysH.tab (c : SaysH ck fn ts w K) (i : Nat) {t : He.Tab} (h : ts[i]? = some t) : ∃ es n, KDict K w (t.1 K) es n := by
  have e : ts.map (fun t => He.dicW K (t.1 K)) = ts.map fun t => some (He.keysIn w.params t.2) := congrArg (fun z : AlH => z.2.2) c
  have e2 : (ts.map fun t => He.dicW K (t.1 K))[i]? = (ts.map fun t => some (He.keysIn w.params t.2))[i]? := by rw [e]
  rw [List.getElem?_map, List.getElem?_map, h] at e2
  exact He.dicW_ok (Option.some.inj e2)
theorem SaysH.df (c : SaysH ck fn ts w K) (X : K.In h) (G : h.Ns mainGlobals mg) (i j : Nat) {x : Str} {st : Stmt} (h1 : ck[i]? = some fun K => (He.Fa.glo x).ok K) (h2 : fn[j]? = some ⟨fun K => He.ga K x, x, x, st, [], []⟩) : Df K mg x st := by
  obtain ⟨fd, F⟩ := c.def_ j h2
  exact ⟨_, fd, fun_ofD F, He.glo_ok X G (c.fact i h1)⟩
theorem SaysH.dfM (c : SaysH ck fn ts w K) (i j : Nat) {C m q : Str} {st : Stmt} (h1 : ck[i]? = some fun K => (He.Fa.meth C m).ok K) (h2 : fn[j]? = some ⟨fun K => He.ma K (He.ga K C) m, m, q, st, [], []⟩) : DfM K (He.ga K C) m q st := by
  obtain ⟨fd, F⟩ := c.def_ j h2
  exact ⟨_, fd, fun_ofD F, He.meth_ok (c.fact i h1)⟩
theorem SaysH.dfI (c : SaysH ck fn ts w K) (i j : Nat) {C q : Str} {st : Stmt} (h1 : ck[i]? = some fun K => (He.Fa.mkr C).ok K) (h2 : fn[j]? = some ⟨fun K => He.ma K (He.ga K C) "__init__", "__init__", q, st, [], []⟩) : DfI K (He.ga K C) q st := by
  obtain ⟨fd, F⟩ := c.def_ j h2
  exact ⟨_, fd, fun_ofD F, He.mkr_ok (c.fact i h1)⟩
theorem prop_ok {C m : Str} (c : propB C m K = true) : PropOf K (He.ga K C) m (He.ma K (He.ga K C) m) (pgA K C m) := by
  obtain ⟨c1, c⟩ := He.ba c
  obtain ⟨c2, c⟩ := He.ba c
  obtain ⟨c3, c4⟩ := He.ba c
  refine ⟨He.eqO_ok c1, He.eqO_ok c2, of_decide_eq_true c3, ?_⟩
  unfold pgA
  revert c4
  generalize PySem.W.recIn K (He.ma K (He.ga K C) m) "property" = r
  intro c4
  cases r with
  | none => cases c4
  | some l =>
    cases l with
    | nil => cases c4
    | cons v l => cases v <;> first | exact ⟨l, rfl⟩ | cases c4
theorem SaysH.dfP (c : SaysH ck fn ts w K) (i j : Nat) {C m q : Str} {st : Stmt} (h1 : ck[i]? = some (propB C m)) (h2 : fn[j]? = some ⟨fun K => pgA K C m, m, q, st, [], []⟩) : DfP K (He.ga K C) m q st := by
  obtain ⟨fd, F⟩ := c.def_ j h2
  exact ⟨_, _, fd, fun_ofD F, prop_ok (c.fact i h1)⟩
theorem inc_ok {C : Str} (g : gsB K = true) (c : incB C K = true) : InC K (He.ga K C) ∧ NotSub K (He.ga K C) "list" := by
  obtain ⟨c1, c⟩ := He.ba c
  obtain ⟨c2, c⟩ := He.ba c
  obtain ⟨c3, c4⟩ := He.ba c
  obtain ⟨g1, g2⟩ := He.ba g
  exact ⟨⟨He.cls_ok c1, He.eqO_ok c2, He.eqO_ok g1, of_decide_eq_true g2, of_decide_eq_true c3⟩, (of_decide_eq_true c4 : PySem.W.subIn K (.ref (He.ga K C)) (.type "list") = some false)⟩
end
theorem walkGE {l : PySem.W.OpenLaw} {n k : Nat} {q : Program} {loose : List Str} {XP : (Str → Option Value) → Heap → Prop} {YP : World → Heap → Prop} {d : DefRec} {sp : PySem.W.Frag → Sp} {x : Str}
    (hn : l.most = some n) (hn2 : n ≤ sizeLine) (hdf : d.params.defaults = []) (hr : Room k callerA)
    (F : ∀ (w : World) (mg : Str → Option Value) (fa : Addr) (h : Heap), YP w h → h.Ns mainGlobals mg → mg d.name = some (.ref fa) →
      ∃ (K : PySem.W.Frag) (fd : FuncData), K.In h ∧ TabsH K h ∧ (∀ (s : Shared) (u : Value), BindsTo s fd ⟨[u], []⟩ [(x, u)]) ∧ ∀ base : Heap, K.In base → base.Ns mainGlobals mg → FnG l.prog w K mg base (CXd l.prog w) k fa fd [x] (sp K))
    (hsp : ∀ (K : PySem.W.Frag) (H : Hp) (a : Addr) (ns : List Int), ns.length ≤ n → (∀ p ∈ Tk K, H p.1 = some (.tbl #[])) → SqL K H a (ns.map V.int) → sp K [.ref a] H (fun v _ => v = .bl true) fun _ _ _ => False) :
    PySem.W.WalkO q loose XP YP l.row.toRowW d [] (fun f vs => PySem.call f vs) := by
  refine Att.attach_call hn hdf fun w s0 s1 mg mb fa o pm cd doc a vs ns G Y ho hd hcd hmg hobj hints hlen hg => ?_
  obtain ⟨K, fd, KX, TH, hb, hF⟩ := F w mg fa _ Y G.T.g hmg
  exact law_callG KX G.T.g G.T.b G.T.builtins G.T.nolimit hg hobj hints (Nat.le_trans hlen hn2) hr TH hF hb (fun H hT hS => hsp _ H a ns hlen hT hS) fun H e s' z => cx_no z
end DL
set_option maxHeartbeats 1000000
namespace DL
open PySem PySem.Spec PyProof.Rows L2 MT
theorem PlOk.vw {h : Nat} {d : D} (s : PlOk h d) (M : Sto) : DL.vw d M = d := by
  have := s.1
  cases d <;> first | rfl | (cases this)
theorem PlOk.eqOk {h : Nat} {d : D} (s : PlOk h d) (hh : h ≤ 60) (M : Sto) : DL.eqOk d M := by
  unfold DL.eqOk
  rw [s.vw M]
  exact s.eq hh
theorem PlOk.same {h : Nat} {d : D} (s : PlOk h d) : PyData.eqv (toPy d) (toPy d) = true := PySem.SeqAt.eqv_refl _ s.2.1
theorem PlOk.tup {h : Nat} {ds : List D} (hd : ∀ d ∈ ds, PlOk h d) : PlOk (h + 1) (.tup ds) := by
  obtain ⟨b1, b2, b3⟩ := plAll hd
  exact ⟨b1, b2, Nat.succ_le_succ b3⟩
theorem PlOk.lst {h : Nat} {ds : List D} (hd : ∀ d ∈ ds, PlOk h d) : PlOk (h + 1) (.lst ds) := by
  obtain ⟨b1, b2, b3⟩ := plAll hd
  exact ⟨b1, b2, Nat.succ_le_succ b3⟩
theorem pl_table (s : FS) : Pl 1 (tableD s) := .tup fun d hd => by
  unfold tableL at hd
  by_cases he : s.2 = []
  · rw [if_pos he] at hd
    rw [(List.mem_replicate.mp hd).2]
    exact .non
  · rw [if_neg he] at hd
    obtain ⟨i, _, rfl⟩ := List.mem_map.mp hd
    exact .int _
theorem aft_len {s : FS} {e : Ed} (he : EdOk s e) : (aft s e).1.length = s.1.length := by
  cases e with
  | push m v => rfl
  | pull i => rfl
  | stretch m l => exact stretch_len he.1 he.2.1
/-- an edit whose numbers are small -/
def EdSm : Ed → Prop
  | .push m v => m ≤ 100 ∧ 0 ≤ v ∧ v ≤ 1000000000
  | .pull i => i ≤ 100
  | .stretch m l => m ≤ 100 ∧ l ≤ 1000000
theorem ed_sm {s : FS} (ho : StOk s) {e : Ed} (he : EdOk s e) : EdSm e := by
  have ht1 := ho.tr.1
  have hl := ho.len
  cases e with
  | push m v =>
    obtain ⟨⟨a, b, c⟩, _⟩ := he
    exact ⟨by replace a : m ≤ s.1.length := a; omega, b, c⟩
  | pull i => replace he : i < s.2.length := he; show i ≤ 100; omega
  | stretch m l =>
    obtain ⟨a, b, c, d⟩ := he
    exact ⟨by omega, d⟩
/-- a field with its past: all states good, of one number of marks; the first is the bare tree -/
structure FH (C : Addr) (M : Sto) (p : Fp) (w : Bool) (more : List (Str × D)) (t : Tr) (hs : List FS) (s : FS) (ns : List D) (es : List Ed) : Prop where
  F : Fld C M p w more (hs ++ [s]) ns es
  ok : ∀ x ∈ hs ++ [s], StOk x ∧ x.1.length = t.length
  sm : ∀ e ∈ es, EdSm e
  lh : hs.length = es.length
  ln : ns.length = es.length + 1
  hd : (hs ++ [s])[0]? = some (t, [])
section
variable {C : Addr} {M : Sto} {p : Fp} {w : Bool} {more : List (Str × D)} {t : Tr} {hs : List FS} {s : FS} {ns : List D} {es : List Ed} {e : Ed}
theorem FH.ho (H : FH C M p w more t hs s ns es) : StOk s := (H.ok s (by simp)).1
theorem FH.hl (H : FH C M p w more t hs s ns es) : s.1.length = t.length := (H.ok s (by simp)).2
theorem FH.of {M' : Sto} (H : FH C M p w more t hs s ns es) (F : Fld C M' p w more (hs ++ [s]) ns es) : FH C M' p w more t hs s ns es := ⟨F, H.ok, H.sm, H.lh, H.ln, H.hd⟩
theorem FH.put {M' : Sto} {n : D} (H : FH C M p w more t hs s ns es) (he : EdOk s e) (F : Fld C M' p w more (hs ++ [s] ++ [aft s e]) (ns ++ [n]) (es ++ [e])) : FH C M' p w more t (hs ++ [s]) (aft s e) (ns ++ [n]) (es ++ [e]) := by
  refine ⟨F, fun x hx => ?_, fun x hx => ?_, by simp [H.lh], by simp [H.ln], ?_⟩
  · rcases List.mem_append.mp hx with hx | hx
    · exact H.ok x hx
    · rw [show x = aft s e by simpa using hx]
      exact ⟨aft_ok H.ho he, (aft_len he).trans H.hl⟩
  · rcases List.mem_append.mp hx with hx | hx
    · exact H.sm x hx
    · rw [show x = e by simpa using hx]
      exact ed_sm H.ho he
  · rw [List.getElem?_append_left (by simp)]
    exact H.hd
/-- a state of the past -/
theorem FH.at_ (H : FH C M p w more t hs s ns es) {j : Nat} (hj : j ≤ es.length) : ∃ x, (hs ++ [s])[j]? = some x ∧ StOk x ∧ x.1.length = t.length := by
  have hl : j < (hs ++ [s]).length := by rw [List.length_append, H.lh, List.length_singleton]; omega
  exact ⟨_, List.getElem?_eq_getElem hl, H.ok _ (List.getElem_mem hl)⟩
theorem FH.len (H : FH C M p w more t hs s ns es) : (hs ++ [s]).length = es.length + 1 := by rw [List.length_append, H.lh, List.length_singleton]
end
theorem take_snoc {α : Type} {l : List α} {k : Nat} {x : α} (h : l[k]? = some x) : l.take (k + 1) = l.take k ++ [x] := by rw [List.take_add_one, h]; rfl
theorem dk_at {cs cs' : List Int} {n n' : Int} {R : Sto} {x : Nat} (h : 2 ≤ x) : (dk cs n ++ R)[x]? = (dk cs' n' ++ R)[x]? := by
  obtain ⟨j, rfl⟩ : ∃ j, x = j + 2 := ⟨x - 2, by omega⟩
  rfl
def Fp.ge (p : Fp) (k : Nat) : Prop := k ≤ p.n ∧ k ≤ p.a ∧ k ≤ p.b ∧ k ≤ p.c ∧ k ≤ p.d
theorem fpAt_ge (n : Nat) : (fpAt n).ge n := ⟨Nat.le_refl _, by dsimp only [fpAt]; omega, by dsimp only [fpAt]; omega, by dsimp only [fpAt]; omega, by dsimp only [fpAt]; omega⟩
theorem dk_putF' {cs : List Int} {n : Int} {R : Sto} {p : Fp} (h : p.ge 2) (hs : List FS) (ns : List D) (es : List Ed) : ∃ R', putF (dk cs n ++ R) p hs ns es = dk cs n ++ R' ∧ R'.length = R.length := by
  rw [dk_putF h.2.1 h.2.2.1 h.2.2.2.1 h.2.2.2.2]
  exact ⟨_, rfl, by simp⟩
end DL
set_option maxHeartbeats 1000000
namespace DL
open PySem PySem.Spec PyProof.Rows L2 MT
inductive Er where
  | mark (d : D) | tick (d : D) | many | push (d : D) | row (d : D) | length (d : D)
@[reducible] def Er.cls : Er → Str
  | .mark _ => "NoMark" | .tick _ => "BadTick" | .many => "TooManyPushes" | .push _ => "NoPush" | .row _ => "NoRow" | .length _ => "BadLength"
/-- an edit whose values may be of any kind -/
inductive RE where
  | push (m v : D) | pull (i : D) | stretch (m l : D)
@[reducible] def raw : Ed → RE
  | .push m v => .push (natD m) (.int v) | .pull i => .pull (natD i) | .stretch m l => .stretch (natD m) (natD l)
end DL
set_option maxHeartbeats 1000000
namespace DL
open PySem PySem.Spec PyProof.Rows L2 MT
end DL
set_option maxHeartbeats 1000000
namespace DL
open PySem PySem.Spec PyProof.Rows L2 MT
section
variable {X : Cx} {a : Expr} {fr : DTA} {pos : Pos}
@[reducible] def diEnumR (fr : DTA) : DTI := fun ρ M R => fr ρ M fun ds M1 => match ds with
  | [.lst xs] => R (enumD 0 xs) stYes M1
  | [.ref n] => match M1[n]? with
    | some (.lst xs) => R (enumD 0 xs) (fun M' => M'[n]? = some (.lst xs)) M1
    | _ => False
  | _ => False
end
end DL
set_option maxHeartbeats 1000000
namespace DL
open PySem PySem.Spec PyProof.Rows L2 MT
mutual
/-- tuples, lists and dicts -/
def pel : D → Bool
  | .non | .bl _ | .int _ | .str _ => true
  | .tup ds => pels ds
  | .lst ds => pels ds
  | .dct _ ds => pels ds
  | .ref _ | .scr _ | .exo _ _ _ _ _ | .clo _ _ _ _ => false
def pels : List D → Bool
  | [] => true
  | d :: ds => pel d && pels ds
end
structure ShLOk (n h : Nat) (d : D) : Prop where
  pe : DL.pel d = true
  showable : (toPyE d).showable = true
  depth : (toPyE d).depth ≤ h
  len : (toPyE d).shown.length ≤ n
inductive ShL : Nat → Nat → D → Prop
  | non : ShL 4 0 .non
  | bl (b : Bool) : ShL 5 0 (.bl b)
  | int {i : Int} {n : Nat} (h : Sh n 0 (.int i)) : ShL n 0 (.int i)
  | str {x : Str} {n : Nat} (h : (reprText x).length ≤ n) : ShL n 0 (.str x)
  | by_ {n h : Nat} {d : D} (ok : ShLOk n h d) : ShL n h d
  | tup {n h m : Nat} {ds : List D} (hd : ∀ d ∈ ds, ShL n h d) (hl : ds.length ≤ m) : ShL (m * (n + 2) + 3) (h + 1) (.tup ds)
  | lst {n h m : Nat} {ds : List D} (hd : ∀ d ∈ ds, ShL n h d) (hl : ds.length ≤ m) : ShL (m * (n + 2) + 3) (h + 1) (.lst ds)
  | up {n h n' h' : Nat} {d : D} (s : ShL n h d) (hn : n ≤ n') (hh : h ≤ h') : ShL n' h' d
theorem shLAll {n h : Nat} : ∀ {ds : List D}, (∀ d ∈ ds, ShLOk n h d) → DL.pels ds = true ∧ PyData.showableAll (toPyEs ds) = true ∧ PyData.depthAll (toPyEs ds) ≤ h ∧ ((PyData.shownAll (toPyEs ds)).map (·.length)).sum ≤ ds.length * n ∧ (PyData.shownAll (toPyEs ds)).length = ds.length
  | [], _ => ⟨rfl, rfl, Nat.zero_le _, Nat.zero_le _, rfl⟩
  | d :: ds, hd => by
    obtain ⟨a1, a2, a3, a4⟩ := hd d List.mem_cons_self
    obtain ⟨b1, b2, b3, b4, b5⟩ := shLAll (ds := ds) fun x hx => hd x (List.mem_cons_of_mem _ hx)
    refine ⟨?_, ?_, ?_, ?_, ?_⟩
    · show (DL.pel d && DL.pels ds) = true
      rw [a1, b1]; rfl
    · show (PyData.showable (toPyE d) && PyData.showableAll (toPyEs ds)) = true
      rw [a2, b2]; rfl
    · show max (PyData.depth (toPyE d)) (PyData.depthAll (toPyEs ds)) ≤ h
      exact Nat.max_le.mpr ⟨a3, b3⟩
    · show (PyData.shown (toPyE d)).length + ((PyData.shownAll (toPyEs ds)).map (·.length)).sum ≤ (ds.length + 1) * n
      rw [Nat.add_mul]
      omega
    · show (PyData.shownAll (toPyEs ds)).length + 1 = ds.length + 1
      rw [b5]
theorem ShL.ok' {n h : Nat} {d : D} (s : ShL n h d) : ShLOk n h d := by
  induction s with
  | non => exact ⟨rfl, rfl, Nat.le_refl _, by decide +kernel⟩
  | bl b => exact ⟨rfl, rfl, Nat.zero_le _, by cases b <;> decide +kernel⟩
  | int h => exact ⟨rfl, h.ok'.showable, Nat.zero_le _, h.ok'.len⟩
  | str h => exact ⟨rfl, rfl, Nat.zero_le _, h⟩
  | by_ h => exact h
  | @tup n h m ds hd hl ih =>
    obtain ⟨b1, b2, b3, b4, b5⟩ := shLAll ih
    refine ⟨b1, b2, Nat.succ_le_succ b3, ?_⟩
    show (tupleText (PyData.shownAll (toPyEs ds))).length ≤ _
    refine Nat.le_trans (tupleText_len_le _) ?_
    rw [b5, Nat.mul_add]
    have := Nat.mul_le_mul_right n hl
    omega
  | @lst n h m ds hd hl ih =>
    obtain ⟨b1, b2, b3, b4, b5⟩ := shLAll ih
    refine ⟨b1, b2, Nat.succ_le_succ b3, ?_⟩
    show (listText (PyData.shownAll (toPyEs ds))).length ≤ _
    refine Nat.le_trans (listText_len_le _) ?_
    rw [b5, Nat.mul_add]
    have := Nat.mul_le_mul_right n hl
    omega
  | up s hn hh ih => exact ⟨ih.pe, ih.showable, Nat.le_trans ih.depth hh, Nat.le_trans ih.len hn⟩
theorem ntB_ok {K : PySem.W.Frag} {C : Str} (c : ntB C K = true) : NotSub K (He.ga K C) "tuple" := (of_decide_eq_true c : PySem.W.subIn K (.ref (He.ga K C)) (.type "tuple") = some false)
end DL
set_option maxHeartbeats 1000000
namespace DL
open PySem PySem.Spec PyProof.Rows L2 MT
theorem rps_strs {K : PySem.W.Frag} {F : Hp} {al : List Addr} : ∀ ys : List Str, Rps K F al (ys.map V.str) (ys.map D.str)
  | [] => .nil
  | y :: ys => .cons (.str y) (rps_strs ys)
section
variable {X : Cx} {o e : Expr} {fo fe : DTE} {pos apos : Pos}
/-- a method of a text with a text -/
@[reducible] def dM1 (g : Str → Str → Sto → DK → Prop) (fo fe : DTE) : DTE := fun ρ M Q => fo ρ M fun x M1 => match x with
  | .str a => fe ρ M1 fun y M2 => match y with
    | .str b => g a b M2 Q
    | _ => False
  | _ => False
theorem dM1_mono {g : Str → Str → Sto → DK → Prop} (ho : DE X o fo) (he : DE X e fe) (hg : ∀ a b M (Q Q' : DK), (∀ d M, Q d M → Q' d M) → g a b M Q → g a b M Q') (ρ : Dn) (M : Sto) (Q Q' : DK) (w : ∀ d M, Q d M → Q' d M) (q : dM1 g fo fe ρ M Q) : dM1 g fo fe ρ M Q' :=
  ho.mono _ _ _ _ (fun x M1 q1 => by
    cases x with
    | str a => exact he.mono _ _ _ _ (fun y M2 q2 => by
        cases y with
        | str b => exact hg a b M2 _ _ w q2
        | _ => exact q2.elim) q1
    | _ => exact q1.elim) q
def gSplit (a b : Str) (M : Sto) (Q : DK) : Prop := (b.length == 0) = false ∧ a.length + 2 ≤ sizeLine ∧ Q (.lst ((Txt.split a b).map D.str)) M
/-- o.split(e) -/
theorem d_split (ho : DE X o fo) (he : DE X e fe) (hs : starEach [e] X.env = [(false, eval e X.env)] := by rfl) (hbase : attributeBase o "split" X.env (eval o X.env) = eval o X.env := by rfl) (hline : (apos.endLine == pos.line) = true := by rfl) :
    DE X (.Call (.Attribute o "split" apos) [e] [] pos) (dM1 gSplit fo fe) := by
  refine ⟨PE.of (pe_split ho.pe he.pe hs hbase hline) fun σ H Q ⟨ρ, M, al, F, G, W, s, q⟩ => ?_, dM1_mono ho he fun a b M Q Q' w q => ⟨q.1, q.2.1, w _ _ q.2.2⟩⟩
  refine ho.seq W s q fun x M1 al1 F1 H1 v q1 e1 W1 r1 s1 => ?_
  cases r1 with
  | str a =>
    refine ⟨⟨a, rfl⟩, ?_⟩
    refine he.seq W1 s1 q1 fun y M2 al2 F2 H2 u q2 e2 W2 r2 s2 => ?_
    cases r2 with
    | str b =>
      refine ⟨a, b, rfl, rfl, q2.1, q2.2.1, fun p hp => ?_⟩
      obtain ⟨W', e'⟩ := W2.newF (o := .lst ((Txt.split a b).map V.str)) hp
      exact q2.2.2 al2 _ _ _ (e1.trans (e2.trans e')) W' (.lst upd_same (rps_strs _))
    | _ => exact q2.elim
  | _ => exact q1.elim
/-- int of a text -/
@[reducible] def gIntS : G1 := fun d M Q => match d with
  | .str a => ∃ n, PySem.intText? a = some n ∧ a.length ≤ 640 ∧ Q (.int n) M
  | _ => False
theorem o_intS : ON X (.type "int") (g1 gIntS) := ON.of1 call_int_str (fun d M Q Q' w q => by
    cases d with
    | str a =>
      obtain ⟨n, h1, h2, h3⟩ := q
      exact ⟨n, h1, h2, w _ _ h3⟩
    | _ => exact q.elim) fun al F G H M x d Q W r q => by
  cases r with
  | str a =>
    obtain ⟨n, h1, h2, h3⟩ := q
    exact ⟨a, n, rfl, h1, h2, kont.here h3 W (.int _)⟩
  | _ => exact q.elim
/-- one sign in a text -/
@[reducible] def gInS (neg : Bool) : G2 := fun x y M Q => match x, y with
  | .str a, .str z => ∃ c : Nat, a = ⟨#[c]⟩ ∧ Q (.bl (decide (c ∈ z.cps.toList) ^^ neg)) M
  | _, _ => False
theorem gInS_mono (neg : Bool) : Mono2 (gInS neg) := fun x y M Q Q' w q => by
  cases x with
  | str a =>
    cases y with
    | str z =>
      obtain ⟨c, h1, h2⟩ := q
      exact ⟨c, h1, w _ _ h2⟩
    | _ => exact q.elim
  | _ => cases y <;> exact q.elim
theorem o_inS : O2 X (compareOp .In) (gInS false) := O2.of op_in_sign (gInS_mono _) fun al F G H M x y dx dy Q W r1 r2 q => by
  cases r1 with
  | str a =>
    cases r2 with
    | str z =>
      obtain ⟨c, rfl, h2⟩ := q
      rw [Bool.xor_false] at h2
      exact ⟨c, z, rfl, rfl, kont.here h2 W (.bl _)⟩
    | _ => exact q.elim
  | _ => cases r2 <;> exact q.elim
theorem o_notinS : O2 X (compareOp .NotIn) (gInS true) := O2.of op_notIn_sign (gInS_mono _) fun al F G H M x y dx dy Q W r1 r2 q => by
  cases r1 with
  | str a =>
    cases r2 with
    | str z =>
      obtain ⟨c, rfl, h2⟩ := q
      rw [Bool.xor_true] at h2
      exact ⟨c, z, rfl, rfl, kont.here h2 W (.bl _)⟩
    | _ => exact q.elim
  | _ => cases r2 <;> exact q.elim
/-- for over a text: its signs -/
def signsD (x : Str) : List D := x.cps.toList.map fun c => D.str ⟨#[c]⟩
@[reducible] def diStr (fa : DTE) : DTI := fun ρ M R => fa ρ M fun d M1 => match d with
  | .str x => R (signsD x) stYes M1
  | _ => False
theorem its_ok {K : PySem.W.Frag} {al : List Addr} {F G : Hp} {x : Str} {st : Sto → Prop} : ItOk K (Its x) (signsD x) st al F G := by
  intro al' F' G' H' M' e sg W hst i
  refine ⟨fun d hd => ?_, fun hl => ?_⟩
  · unfold signsD at hd
    rw [List.getElem?_map] at hd
    obtain ⟨c, hc, rfl⟩ := Option.map_eq_some_iff.mp hd
    have hc2 : x.cps[i]? = some c := by rw [← Array.getElem?_toList]; exact hc
    refine ⟨(Array.getElem?_eq_some_iff.mp hc2).1, fun v H'' hy => ?_⟩
    obtain ⟨rfl, c', h1, rfl⟩ := hy
    rw [hc2] at h1
    cases h1
    exact ⟨F', Sm.refl _, W, .str _⟩
  · unfold signsD at hl
    rw [List.length_map, Array.length_toList] at hl
    exact hl
theorem di_str {tg a : Expr} {fa : DTE} (h : DE X a fa) : DI X tg a (diStr fa) := by
  refine ⟨PI.of (pi_str h.pe) fun σ H R ⟨ρ, M, al, F, G, W, es, q⟩ => ?_, fun ρ M Q Q' w q => h.mono _ _ _ _ (fun d M1 q1 => ?_) q⟩
  · refine h.seq W es q fun d M1 al1 F1 H1 v q1 e1 W1 r1 s1 => ?_
    cases r1 with
    | str x => exact ⟨x, rfl, q1 al1 F1 H1 _ e1 W1 its_ok⟩
    | _ => exact q1.elim
  · cases d with
    | str x => exact w _ _ _ q1
    | _ => exact q1.elim
end
end DL
set_option maxHeartbeats 1000000
namespace DL
open PySem PySem.Spec PyProof.Rows L2 MT
section
variable {X : Cx} {e : Expr}
/-- an expression that is never reached -/
@[reducible] def dNeverE : DTE := fun _ _ _ => False
theorem d_neverE : DE X e dNeverE := ⟨⟨fun pins s σ H Q I ⟨_, _, _, _, _, _, _, q⟩ => q.elim⟩, fun _ _ _ _ _ q => q⟩
end
section
variable {X : Cx} {pins : List (Addr × Obj)} {σ : L2.St} {H : Hp} {s : Shared}
theorem star_unpackL {a : Addr} {x : V} {xs : List V} {Q : List Value → Shared → Prop} (hc : X.calm = true) (I : L2.Inv X pins σ H s) (hq : SqL X.K H a (x :: xs)) (hz : xs.length ≤ 1000)
    (k : ∀ (p : Addr) (s' : Shared) (u : Value), H p = none → L2.Inv X pins σ (upd H p (.lst xs)) s' → RelV x u → Q [u, .ref p] s') : wpAny (model X.prog X.w) X.A (unpackItems (.ref a) 2 (some 1)) Q X.xe s := by
  obtain ⟨its, rv, hl0, _⟩ := I.list hq
  have hl := hl0.isList
  cases rv with
  | @cons _ u _ us ru rus =>
  have hh := I.ok.hd hc
  have hus : us.length ≤ 1000 := by rw [← rus.length]; exact hz
  have hlt : a ≠ s.heap.objs.size := by obtain ⟨o, ho, _⟩ := hl; exact Nat.ne_of_lt (Heap.lt_size ho)
  unfold unpackItems
  refine wpAny_bind ?_
  unfold notIterableAtAll
  refine wpAny_bind (wpAny_specialOf hl.typeIs F.slot_list_iter.lookup ?_)
  refine wpAny_pure ?_
  simp only [Bool.false_eq_true, if_false]
  have hl1 : ∀ o, (s.heap.push o).IsList a (u :: us).toArray := fun o => hl.at fun _ e => Heap.get?_push_of_some _ e
  refine wpAny_bind (wpAny_holding (wpAny_pyIter_list hl ?_))
  refine wpAny_bind (wpAny_holding (draw_lst hlt 1 0 _ _ ⟨_, Heap.get?_push_size _ rfl, rfl, rfl⟩ (hl1 _) (by simp) fun h₁ hit₁ hl₁ hs₁ => ?_))
  rw [Nat.zero_add] at hit₁
  have hit₁' := hit₁
  obtain ⟨oi, hoi, _⟩ := hit₁'
  have hl₁' := hl₁
  obtain ⟨ol, hol, _⟩ := hl₁'
  rw [show List.take 1 (List.drop 0 (u :: us).toArray.toList) = [u] by simp]
  rw [if_neg (show ¬ ([u].length < 1) from Nat.lt_irrefl 1)]
  refine wpAny_bind (wpAny_holding (PySem.W.kun_collect (s := { s with heap := h₁ }) (T := "list_iterator") (.inr (.inr (.inl rfl))) (Walks.list (A := X.A.in1) hh s.heap.objs.size a hlt (u :: us).toArray) (fun j u st => st.1.typeIs) (k := 1) (by simp) ⟨hit₁, hl₁⟩ (Heap.lt_size hoi) (Heap.lt_size hol) (fun h₂ tk hk => ?_) (by rw [sizeLine_eq]; simp; omega)))
  rw [show List.drop 1 (u :: us).toArray.toList = us by simp]
  show wpAny _ _ (if us.length < 2 - 1 - 1 then _ else _) _ _ _
  rw [if_neg (by omega)]
  show wpAny _ _ (newList (us.take (us.length - (2 - 1 - 1))) >>= fun d => pure ([u] ++ [d] ++ us.drop (us.length - (2 - 1 - 1)))) _ _ _
  rw [show us.length - (2 - 1 - 1) = us.length by omega, List.take_length, List.drop_length]
  have hkeep : ∀ b o, s.heap.get? b = some o → h₂.get? b = some o := fun b o e => hk b o (Nat.ne_of_lt (Heap.lt_size e)) (hs₁.extBut b o (Nat.ne_of_lt (Heap.lt_size e)) (Heap.get?_push_of_some _ e))
  have I2 : L2.Inv X pins σ H { s with heap := h₂, toks := tk } := I.kept hkeep
  refine wpAny_bind (wpAny_newObj_type (wpAny_pure ?_) (by show us.toArray.size ≤ sizeLine; rw [sizeLine_eq]; simp; omega))
  refine k h₂.objs.size _ u (I2.hok.fresh (Nat.le_refl _)) ?_ ru
  exact I2.laid (t' := tk) (h' := h₂.push { cls := .type "list", data := .seq us.toArray }) (fun b o e => Heap.get?_push_of_some _ e) (Nat.le_refl _) ⟨by rw [sizeLine_eq]; omega, us, 0, rus, Heap.get?_push_size _ rfl⟩
def gStar1L (K : PySem.W.Frag) (t : TGs) : TG := fun v σ H Q => ∃ a x xs, v = .ref a ∧ SqL K H a (x :: xs) ∧ xs.length ≤ 1000 ∧ ∀ p, H p = none → t [x, .ref p] σ (upd H p (.lst xs)) Q
theorem pg_star1L {t1 t2 : Expr} {p2 pos : Pos} {k : Nat} {t : TGs} (hc : X.calm = true) (h : PGs X [t1, t2] t) (hn : assignEach [t1, .Starred t2 p2] X.env = [(false, assign t1 X.env), (true, assign t2 X.env)] := by rfl)
    (hm : (assignEach [t1, t2] X.env).map (·.2) = [assign t1 X.env, assign t2 X.env] := by rfl) : PG X (.Tuple [t1, .Starred t2 p2] k pos) (gStar1L X.K t) := by
  refine ⟨fun pins s σ H v u Q I r ⟨a, x, xs, e1, hq, hz, hw⟩ => ?_⟩
  subst e1
  cases r
  rw [assign_Tuple]
  refine wpAny_bind (wpAny_standAt ?_)
  unfold unpack
  rw [hn]
  show wpAny _ _ ((holding [Value.ref a] (unpackItems (.ref a) 2 (some 1))) >>= fun vs => assignInOrder [assign t1 X.env, assign t2 X.env] vs) _ _ s
  refine wpAny_bind (wpAny_holding (star_unpackL hc I hq hz fun p s' u hp I' ru => ?_))
  rw [← hm]
  exact h.run pins s' σ _ [x, .ref p] [u, .ref p] Q I' (.cons ru (.cons rfl .nil)) (hw p hp)
@[reducible] def dgStar1L (g : DTGs) : DTG := fun d ρ M Q => match d with
  | .lst (x :: xs) => xs.length ≤ 1000 ∧ g [x, .lst xs] ρ M Q
  | _ => False
theorem dg_star1L {t1 t2 : Expr} {p2 pos : Pos} {k : Nat} {g : DTGs} {js : List Nat} (hc : X.calm = true) (h : DGs X [t1, t2] g js) (hn : assignEach [t1, .Starred t2 p2] X.env = [(false, assign t1 X.env), (true, assign t2 X.env)] := by rfl)
    (hm : (assignEach [t1, t2] X.env).map (·.2) = [assign t1 X.env, assign t2 X.env] := by rfl) : DG X (.Tuple [t1, .Starred t2 p2] k pos) (dgStar1L g) js := by
  refine ⟨PG.of (pg_star1L hc h.pg hn hm) fun v σ H Q ⟨d, ρ, M, al, F, G, W, es, r, q⟩ => ?_, fun d ρ M Q Q' w q => ?_⟩
  · unfold dgStar1L at q
    split at q
    · next x xs =>
      cases r with
      | lst a b =>
        cases b with
        | cons b1 b2 =>
          refine ⟨_, _, _, rfl, SqL.of (W.sm _ _ a), (by rw [b2.length]; exact q.1), fun p hp => ?_⟩
          obtain ⟨W', e⟩ := W.newF (o := .lst _) hp
          exact ⟨_, ρ, M, al, _, G, W', es.ext e, .cons (b1.ext e) (.cons (.lst upd_same (b2.ext e)) .nil), h.mono _ _ _ _ _ (fun ρ' M' k al' F' H' σ' e' => k al' F' H' σ' (e.trans e')) q.2⟩
    · exact q.elim
  · unfold dgStar1L at q ⊢
    split at q
    · exact ⟨q.1, h.mono _ _ _ _ _ w q.2⟩
    · exact q.elim
end
section
variable {X : Cx} {a : Expr} {fa : DTE} {pos : Pos}
/-- instances of class C are (or are not) instances of class C' -/
def KC (K : PySem.W.Frag) (C C' : Addr) (b : Bool) : Prop := PySem.W.kitOne K (.ref C) (.ref C') = some b
@[reducible] def dIsiC (K : PySem.W.Frag) (C' : Addr) (fa : DTE) : DTE := fun ρ M Q => fa ρ M fun d M1 => match d with
  | .ref n => match M1[n]? with
    | some (.ins C _) => InC K C ∧ ∃ b, KC K C C' b ∧ Q (.bl b) M1
    | _ => False
  | _ => False
theorem d_isiC {x : Str} {C' : Addr} {p p2 : Pos} (hm2 : X.mg x = some (.ref C')) (hm : X.mg "isinstance" = none) (h : DE X a fa) (hg : Gl X "isinstance" := by rfl) (hg2 : Gl X x := by rfl) (hd2 : (x == ("__debug__" : Str)) = false := by decide)
    (hs : starEach [a, .Name x p2] X.env = (false, eval a X.env) :: starEach [.Name x p2] X.env := by rfl) (hs2 : starEach [.Name x p2] X.env = (false, eval (.Name x p2) X.env) :: starEach [] X.env := by rfl) (hpl : (backTo pos (starEach [.Name x p2] X.env)).any (·.1) = false := by rfl) :
    DE X (.Call (.Name "isinstance" p) [a, .Name x p2] [] pos) (dIsiC X.K C' fa) := by
  refine ⟨PE.of (pe_callB call_isi hg hm (by decide +kernel) (pa_cons h.pe (pa_cons (pe_glob (v := .ref C') hg2 hm2 rfl hd2) pa_nil hs2) hs) (by decide) (by decide) hs hpl) fun σ H Q ⟨ρ, M, al, F, G, W, s, q⟩ => ?_, fun ρ M Q Q' w q => h.mono _ _ _ _ (fun d M1 q1 => ?_) q⟩
  · refine h.seq W s q fun d M1 al1 F1 H1 v q1 e1 W1 r1 s1 => ?_
    cases d with
    | ref n =>
      dsimp only at q1
      split at q1
      · next C fs em =>
        obtain ⟨c1, b, c2, q2⟩ := q1
        obtain ⟨p, dx, vs, rfl, _, h2, h3, h4⟩ := cell_ins W1 r1 em
        exact ⟨_, .ref C', .ref C, .ref C', b, rfl, .own C', .base (.ins h2 c1.cl c1.ha c1.hn c1.htk c1.hm), c2, q2 al1 F1 H1 _ e1 W1 (.bl _)⟩
      · exact q1.elim
    | _ => exact q1.elim
  · cases d with
    | ref n =>
      dsimp only at q1 ⊢
      split at q1
      · obtain ⟨c1, b, c2, q2⟩ := q1
        exact ⟨c1, b, c2, w _ _ q2⟩
      · exact q1.elim
    | _ => exact q1.elim
end
section
variable {X : Cx} {C f : Addr} {fd : FuncData} {ps : List Str} {k : Nat} {ds : DSp}
theorem own_runN {pins : List (Addr × Obj)} {σ : L2.St} {H : Hp} {s : Shared} {vs : List V} {us : List Value} {Q : VK} {R : Value → Shared → Prop} (F : FnG X.prog X.w X.K X.mg X.base (CXd X.prog X.w) k f fd ps (spOf X.K ds)) (hgd : X.A.guards = some []) (hr : Room k X.A) (hb : Binds X.K fd ps [])
    (I : L2.Inv X pins σ H s) (rv : Vals vs us) (h : spOf X.K ds vs H Q (fun _ _ _ => False)) (fin : ∀ u s', EP X pins σ Q u s' → R u s') : wpAny (model X.prog X.w) X.A (call (.ref f) us) R X.xe s := by
  have hl : (us ++ []).length = ps.length := by
    rw [← F.len _ _ _ _ h, List.append_nil]
    exact rv.length.symm
  refine wpAny_call (codeAny_mono (F.run X.A X.stack s H ⟨us, []⟩ us vs Q (fun _ _ _ => False) hgd hr I.env0 (by
    have := hb s us I.kIn hl
    rw [List.append_nil] at this
    exact this) rv h) fun r s' hq => ?_)
  match r, hq with
  | .error er, hq =>
    exact (cx_no hq).elim
  | .ok (.ret u), hq => exact fin u s' (I.after hq)
  | .ok .next, hq => exact hq.elim
  | .ok .brk, hq => exact hq.elim
  | .ok .cont, hq => exact hq.elim
@[reducible] def gEqI (C : Addr) (ds : DSp) : G2 := fun x y M Q => match x with
  | .ref n => match y with
    | .ref m => match M[n]? with
      | some (.ins C' fs) => match M[m]? with
        | some (.ins C'' gs) => C' = C ∧ C'' = C ∧ ds [.ref n, .ref m] M (fun v M2 => ∃ b : Bool, v = .bl b ∧ Q (.bl b) M2) fun _ _ _ => False
        | _ => False
      | _ => False
    | _ => False
  | _ => False
theorem gEqI_mono (hm : MonoSp ds) : Mono2 (gEqI C ds) := fun x y M Q Q' w q => by
  cases x with
  | ref n =>
    cases y with
    | ref m =>
      unfold gEqI at q ⊢
      dsimp only at q ⊢
      split at q
      · split at q
        · exact ⟨q.1, q.2.1, hm _ _ _ _ _ _ (fun v M2 ⟨i, a, d⟩ => ⟨i, a, w _ _ d⟩) (fun _ _ _ z => z) q.2.2⟩
        · exact q.elim
      · exact q.elim
    | _ => exact q.elim
  | _ => exact q.elim
theorem o_eqI (C0 : ClMe X.prog X.w X.K X.mg X.base C "__eq__" k ps ds) (hgd : X.A.guards = some []) (hr : Room (k + 2) X.A) : O2 X (compareOp .Eq) (gEqI C ds) := by
  obtain ⟨f, fd, c, hm, G, hb⟩ := C0.ex
  have hmono := C0.mono
  refine ⟨fun pins s σ al F Gg H M x y v u dx dy Q I rx ry W r1 r2 q => ?_, gEqI_mono hmono⟩
  cases dx with
  | ref n =>
    cases dy with
    | ref m =>
      replace q : gEqI C ds (.ref n) (.ref m) M (kont X.K al F Gg Q) := q
      unfold gEqI at q
      dsimp only at q
      split at q
      · next C' fs em =>
        split at q
        · next C'' gs em2 =>
          obtain ⟨rfl, rfl, q2⟩ := q
          obtain ⟨p, dx, vs, rfl, _, h2, h3, h4⟩ := cell_ins W r1 em
          obtain ⟨p', dx', vs', rfl, _, h2', h3', h4'⟩ := cell_ins W r2 em2
          obtain rfl : v = Value.ref p := rx
          obtain rfl : u = Value.ref p' := ry
          obtain ⟨mA, O, _, _, _, _⟩ := ins_get I.hok h2
          obtain ⟨od, J, _⟩ := O.look
          obtain ⟨mA', O', _, _, _, _⟩ := ins_get I.hok h2'
          obtain ⟨od', J', _⟩ := O'.look
          obtain ⟨mF, hF⟩ := I.fr
          show wpAny (model X.prog X.w) X.A (richCompare .Eq (.ref p) (.ref p')) (EP X pins σ Q) X.xe s
          refine PySem.W.cmp_K (op := .Eq) (tb := .ref _) hr.units0 hF I.ok.mod.kin J J'.type (by simp [PySem.W.notFirst]) hm.at_ hm.fn (own_runN (vs := [V.ref p, V.ref p']) (us := [Value.ref p, Value.ref p']) G hgd (hr.mono (by omega)) hb I (.cons (show L2.RelV (V.ref p) (Value.ref p) from rfl) (.cons (show L2.RelV (V.ref p') (Value.ref p') from rfl) .nil)) (Q := fun v H1 => ∃ b : Bool, v = .bl b ∧ Q (.bl b) H1) ⟨[.ref n, .ref m], M, al, F, Gg, W, .cons r1 (.cons r2 .nil), hmono _ _ _ _ _ _ (fun v M2 ⟨b, e1, q3⟩ => ?_) (fun _ _ _ z => z.elim) q2⟩ fun u s' ⟨v, H', I', rv, b, e1, q3⟩ => ?_)
          · subst e1
            cases (show u = Value.bool b from rv)
            exact ⟨.bl b, H', I', rfl, q3⟩
          · subst e1
            intro al' F' H' v e' W' r'
            cases r'
            exact ⟨b, rfl, q3 al' F' H' _ e' W' (.bl b)⟩
        · exact q.elim
      · exact q.elim
    | _ => exact q.elim
  | _ => exact q.elim
end
section
variable {X : Cx} {a b : Expr} {fa fb : DTE} {rest : List Expr} {pos : Pos}
@[reducible] def dOrT (fa fb : DTE) : DTE := fun ρ M Q => fa ρ M fun d M1 => gTru d M1 fun b M2 => if b = true then Q d M2 else fb ρ M2 Q
theorem d_orT (h : DE X a fa) (g : DE X (.BoolOp .Or (b :: rest) pos) fb) : DE X (.BoolOp .Or (a :: b :: rest) pos) (dOrT fa fb) := by
  refine ⟨PE.of (pe_orT h.pe g.pe) fun σ H Q ⟨ρ, M, al, F, G, W, es, q⟩ => ?_, fun ρ M Q Q' w q => h.mono _ _ _ _ (fun d M1 q1 => gTru_mono _ _ _ _ (fun b M2 q2 => ?_) q1) q⟩
  · refine h.seq W es q fun d M1 al1 F1 H1 v q1 e1 W1 r1 s1 => ?_
    refine gTru_ok (Q := fun k H2 => if k = true then Q v H2 else Lift X fb σ H2 Q) W1 r1 (gTru_mono _ _ _ _ (fun b M2 q2 al' F' H' e' W' => ?_) q1)
    cases b with
    | true => exact q2 al' F' H' v (e1.trans e') W' (r1.ext e')
    | false => exact ⟨ρ, M2, al', F', G, W', s1.ext e', g.mono _ _ _ _ (fun d M3 k => k.ext (e1.trans e')) q2⟩
  · cases b with
    | true => exact w _ _ q2
    | false => exact g.mono _ _ _ _ w q2
end
theorem kcB_ok {K : PySem.W.Frag} {C C' : Str} {b : Bool} (c : kcB C C' b K = true) : KC K (He.ga K C) (He.ga K C') b := by unfold KC; exact of_decide_eq_true c
end DL
set_option maxHeartbeats 1000000
namespace DL
open PySem PySem.Spec PyProof.Rows L2 MT
theorem size_line {n : Nat} (h : n ≤ 1000) : n ≤ sizeLine := by rw [sizeLine_eq]; omega
theorem c1 : Str.length (":" : Str) = 1 := by decide +kernel
theorem c2 : Str.length ("@" : Str) = 1 := by decide +kernel
theorem c3 : Str.length (" " : Str) = 1 := by decide +kernel
def isFig (c : Nat) : Bool := decide (48 ≤ c) && decide (c ≤ 57)
theorem isFig_iff {c : Nat} : isFig c = true ↔ 48 ≤ c ∧ c ≤ 57 := by unfold isFig; simp
/-- the number of at most ten figures, without a needless zero ahead -/
def numQ (l : List Nat) : Option Nat := if (1 ≤ l.length ∧ l.length ≤ 10) ∧ l.all isFig = true ∧ ¬ (l.head? = some 48 ∧ l ≠ [48]) then some (NumText.digitsVal l) else none
@[reducible] def optN : Option Nat → D
  | none => .non
  | some n => natD n
def numW (x : Str) : Option Nat := numQ (TL.tl x)
def splW (x : Str) : List Str := Txt.split x " "
end DL
set_option maxHeartbeats 1000000
namespace DL
open PySem PySem.Spec PyProof.Rows L2 MT
def mulS (a : Str) (n : Nat) : Str := ⟨((List.replicate n (TL.tl a)).flatten).toArray⟩
section
variable {X : Cx}
theorem foldl_cat : ∀ (l : List (Array Nat)) (a : Array Nat), (l.foldl (· ++ ·) a).toList = a.toList ++ (l.map Array.toList).flatten
  | [], a => by simp
  | b :: l, a => by
    rw [List.foldl_cons, foldl_cat l (a ++ b), Array.toList_append, List.map_cons, List.flatten_cons, List.append_assoc]
theorem mulS_eq (a : Str) (n : Nat) : (⟨(List.replicate n a.cps).foldl (· ++ ·) #[]⟩ : Str) = mulS a n := by
  refine TL.ext_tl ?_
  show ((List.replicate n a.cps).foldl (· ++ ·) #[]).toList = _
  rw [foldl_cat, List.map_replicate]
  rfl
theorem mulS_len (a : Str) (n : Nat) : (mulS a n).length = n * a.length := by
  rw [TL.len_tl]
  show ((List.replicate n (TL.tl a)).flatten).length = _
  rw [List.length_flatten, List.map_replicate, List.sum_replicate_nat, TL.len_tl a]
theorem op_mul_str : OpR X (binaryOp .Mult) (fun x y H Q => ∃ a k, x = .str a ∧ y = .int k ∧ 0 ≤ k ∧ k ≤ 1000 ∧ a.length ≤ 10000 ∧ Q (.str (mulS a k.toNat)) H) := by
  intro pins s σ H x y v u Q I rx ry h
  obtain ⟨a, k, rfl, rfl, k0, k1, hl, q⟩ := h
  obtain ⟨t, rfl⟩ := rx
  obtain ⟨t', rfl⟩ := ry
  have hm : a.length * k.toNat ≤ 10000 * 1000 := Nat.mul_le_mul hl (by omega)
  refine PySem.P.mul_str ?_ (fun h1 _ => ?_) (fun h1 _ => ?_) ?_
  · rw [decide_eq_false (by omega), decide_eq_false (by omega)]; rfl
  · have : (a.length : Int) * k ≤ 2 ^ 63 - 1 := by
      have e : ((a.length * k.toNat : Nat) : Int) = (a.length : Int) * k := by
        rw [Int.natCast_mul, Int.toNat_of_nonneg k0]
      omega
    have := (Int.le_ediv_iff_mul_le (show (0 : Int) < k by omega)).mpr this
    omega
  · show decide (a.length * k.toNat > sizeLine) = false
    refine decide_eq_false ?_
    rw [sizeLine_eq]
    omega
  · by_cases c1 : k < 1
    · rw [if_pos c1]
      have e : mulS a k.toNat = Str.empty := by rw [show k.toNat = 0 by omega]; rfl
      rw [e] at q
      exact ⟨by decide, ⟨.str Str.empty, H, I.tok _, ⟨_, rfl⟩, q⟩⟩
    rw [if_neg c1]
    by_cases c2 : (k == 1 || a.length == 0) = true
    · rw [if_pos c2]
      have e : mulS a k.toNat = a := by
        rcases Bool.or_eq_true_iff.mp c2 with h | h
        · rw [eq_of_beq h]
          refine TL.ext_tl ?_
          show ((List.replicate 1 (TL.tl a)).flatten) = _
          simp
        · have hz : TL.tl a = [] := List.length_eq_zero_iff.mp ((TL.len_tl a).symm.trans (eq_of_beq h))
          refine TL.ext_tl ?_
          show ((List.replicate k.toNat (TL.tl a)).flatten) = _
          rw [hz]
          simp
      rw [e] at q
      exact ⟨.str a, H, I, ⟨_, rfl⟩, q⟩
    · rw [if_neg c2, mulS_eq]
      exact ⟨by rw [mulS_len, sizeLine_eq, Nat.mul_comm]; omega, ⟨.str _, H, I.tok _, ⟨_, rfl⟩, q⟩⟩
@[reducible] def gMulS : G2 := fun x y M Q => match x, y with
  | .str a, .int k => 0 ≤ k ∧ k ≤ 1000 ∧ a.length ≤ 10000 ∧ Q (.str (mulS a k.toNat)) M
  | _, _ => False
theorem gMulS_mono : Mono2 gMulS := fun x y M Q Q' w q => by
  unfold gMulS at q ⊢
  split at q
  · exact ⟨q.1, q.2.1, q.2.2.1, w _ _ q.2.2.2⟩
  · exact q.elim
theorem o_mulS : O2 X (binaryOp .Mult) gMulS := O2.of op_mul_str gMulS_mono fun al F G H M x y dx dy Q W r1 r2 q => by
  unfold gMulS at q
  split at q
  · cases r1; cases r2
    exact ⟨_, _, rfl, rfl, q.1, q.2.1, q.2.2.1, kont.here q.2.2.2 W (.str _)⟩
  · exact q.elim
variable {pos : Pos}
variable {a : Expr} {fa : DTE}
end
end DL
set_option maxHeartbeats 1000000
namespace DL
open PySem PySem.Spec PyProof.Rows L2 MT
section
variable {X : Cx} {CX : CXT} {a e : Expr} {es : List Expr} {fr : DTA} {pos p apos : Pos} {x m : Str} {k i : Nat} {C q0 g f : Addr} {mc : Value} {fd : FuncData} {ps : List Str} {sp : Sp} {t : TA}
theorem run_cmG {pins : List (Addr × Obj)} {σ : L2.St} {H : Hp} {s : Shared} {q : Addr} {E : L2.St → XK} {Q : VK} {us : List Value} {vs : List V} (F : FnG X.prog X.w X.K X.mg X.base CX k g fd ps sp) (hgd : X.A.guards = some []) (hr : Room k X.A) (hb : Binds X.K fd ps []) (hx : PassesAt CX X σ (E σ))
    (I : L2.Inv X ((q, PySem.W.methodObj (.ref g) (.ref C)) :: pins) σ H s) (r : Vals vs us) (h : sp (.ref C :: vs) H Q (E σ)) : wpAny (model X.prog X.w) X.A (call (.ref q) us) (EP X pins σ Q) X.xe s := by
  have rr : Vals (V.ref C :: vs) (Value.ref C :: us) := .cons rfl r
  have ll : (Value.ref C :: us ++ []).length = ps.length := by
    have e := rr.length
    rw [F.len _ _ _ _ h] at e
    rw [List.append_nil]
    exact e.symm
  have hbi := hb s (Value.ref C :: us) I.kIn ll
  rw [List.append_nil] at hbi
  have z : wpAny (model X.prog X.w) X.A (call (.ref q) us) (EP X ((q, PySem.W.methodObj (.ref g) (.ref C)) :: pins) σ Q) X.xe s := by
    refine wpAny_call (PySem.W.method_call (ClX.pin_at I) (codeAny_mono (F.run X.A X.stack s H ⟨Value.ref C :: us, []⟩ _ _ Q (E σ) hgd hr I.env0 hbi rr h) fun res s' z => ?_))
    match res, z with
    | .error e, z => exact hx _ H s e s' I z
    | .ok (.ret u), z => exact I.after z
    | .ok .next, z => exact z.elim
    | .ok .brk, z => exact z.elim
    | .ok .cont, z => exact z.elim
  exact thn z fun _ _ y => ClX.unpinE y
end
section
variable {X : Cx} {CX : CXT} {o e : Expr} {es : List Expr} {ta : TE} {t : TA} {fo fe : DTE} {fr : DTA} {pos apos p : Pos} {m : Str} {k : Nat} {C f : Addr} {fd : FuncData} {ps : List Str} {sp : Sp}
theorem getboundP {pins : List (Addr × Obj)} {σ : L2.St} {H : Hp} {s : Shared} {a C dx g : Addr} {fs : List (Str × V)} {A : Around} {E : Value → Shared → Prop} {b : Bool} {Q : Value → Shared → Prop} (I : L2.Inv X pins σ H s) (e : H a = some (.ins C dx fs)) (c : Cls X.K C) (k : BMeth X.K C m g) (l : fs.lookup m = none)
    (h : ∀ s', L2.Inv X ((s.heap.objs.size, PySem.W.methodObj (.ref g) (.ref a)) :: pins) σ H s' → Q (.ref s.heap.objs.size) s') : wpAny (model X.prog X.w) A (getAttr (.ref a) m b) Q E s := by
  obtain ⟨mA, O, r, _, _, _⟩ := ins_get I.hok e
  have hn : mA m = none := RelO.none_of (by rw [← l]; exact r m)
  obtain ⟨od, J, hl⟩ := O.look
  have hl' : PySem.W.lookIn m od = some none := by rw [hl, hn]
  refine PySem.W.get_bind I.kIn J (PySem.W.plainGet_of (c.get m)).1 (PySem.W.findObj_fn c.hd k.mt.at_ k.gf k.tk k.cp hl') (PySem.W.plainGet_of (c.get m)).2 ?_
  refine wpAny_call (PySem.W.fn_get (s := { s with toks := s.toks + 1 }) I.kIn (beq_iff_eq.mp k.mt.fn) (PySem.W.handed_on rfl ?_))
  exact h _ (ClX.met_new I)
theorem peG_methSt {e2 : Expr} {E : L2.St → XK} (he : PE X o ta) (c : Cls X.K C) (hm : BMeth X.K C m f) (F : FnG X.prog X.w X.K X.mg X.base CX k f fd ps sp) (hgd : X.A.guards = some []) (hr : Room k X.A) (hb : Binds X.K fd ps []) (hx : ∀ σ, PassesAt CX X σ (E σ)) (ha : PA X [e, .Starred e2 p] t)
    (hbase : attributeBase o m X.env (eval o X.env) = eval o X.env := by rfl) (hst : starEach [e, .Starred e2 p] X.env = [(false, eval e X.env), (true, eval e2 X.env)] := by rfl) :
    PE X (.Call (.Attribute o m apos) [e, .Starred e2 p] [] pos) (fun σ H Q => ta σ H fun x H1 => ∃ a dx fs, x = .ref a ∧ H1 a = some (.ins C dx fs) ∧ fs.lookup m = none ∧ t σ H1 fun vs H2 => sp (x :: vs) H2 Q (E σ)) := by
  refine ⟨fun pins s σ H Q I h => ?_⟩
  refine starcall2_of hbase hst (thn (he.run pins s σ H _ I h) fun u s1 ⟨x, H1, I1, rx, a, dx, fs, ex, ea, l, q⟩ => ?_)
  subst ex
  obtain rfl : u = Value.ref a := rx
  refine getboundP I1 ea c hm l fun s2 I2 => ?_
  have hs := ha.run pos _ s2 σ H1 _ I2 q
  rw [hst] at hs
  refine PySem.W.ks_call (P := PySem.W.MethP X.K s1.heap.objs.size f (.ref a)) rfl (PySem.W.keeps_M hm.fi) (Calls.evalArgs_plain (thn hs fun us s3 ⟨vs, H2, I3, r, q2⟩ => ?_))
  refine ⟨⟨ClX.pin_at I3, I3.kIn⟩, ?_⟩
  exact run_cmG F hgd hr hb (hx σ) I3 r q2
theorem d_methSt {e2 : Expr} {ds : DSp} (C0 : ClMe X.prog X.w X.K X.mg X.base C m k ps ds) (hB : ∀ f, Meth X.K C m f → BMeth X.K C m f) (hgd : X.A.guards = some []) (hr : Room k X.A) (ho : DE X o fo) (ha : DA X [e, .Starred e2 p] fr)
    (hbase : attributeBase o m X.env (eval o X.env) = eval o X.env := by rfl) (hst : starEach [e, .Starred e2 p] X.env = [(false, eval e X.env), (true, eval e2 X.env)] := by rfl) :
    DE X (.Call (.Attribute o m apos) [e, .Starred e2 p] [] pos) (dMeth C m ds fo fr) := by
  obtain ⟨f, fd, c, hm, G, hb⟩ := C0.ex
  have hmono := C0.mono
  refine ⟨PE.of (peG_methSt ho.pe c (hB f hm) G hgd hr hb (passD X) ha.pa hbase hst) fun σ H Q ⟨ρ, M, al, F, Gg, W, s, q⟩ => ?_, fun ρ M Q Q' w q => ho.mono _ _ _ _ (fun x M1 q1 => ?_) q⟩
  · refine ho.seq W s q fun x M1 al1 F1 H1 v q1 e1 W1 r1 s1 => ?_
    cases x with
    | ref n =>
      dsimp only at q1
      split at q1
      · next C' fs em =>
        obtain ⟨rfl, c2, q2⟩ := q1
        obtain ⟨p, dx, vs, rfl, _, h2, h3, h4⟩ := cell_ins W1 r1 em
        refine ⟨p, dx, vs, rfl, h2, look_gone h3 c2, ?_⟩
        refine ha.seq W1 s1 q2 fun args M2 al2 F2 H2 us q3 e2 W2 r2 s2 => ?_
        exact ⟨.ref n :: args, M2, al2, F2, Gg, W2, .cons (r1.ext e2) r2, hmono _ _ _ _ _ _ (fun d M3 k => kont.ext k (e1.trans e2)) (fun c fs M3 z al3 F3 H3 o e3 W3 f3 => s2.xo c fs ρ.v M3 al3 F3 H3 o σ e3 W3 (s2.sl.ext e3) f3 z) q3⟩
      · exact q1.elim
    | _ => exact q1.elim
  · cases x with
    | ref n =>
      dsimp only at q1 ⊢
      split at q1
      · exact ⟨q1.1, q1.2.1, ha.mono _ _ _ _ (fun args M2 q2 => hmono _ _ _ _ _ _ w (fun _ _ _ z => z) q2) q1.2.2⟩
      · exact q1.elim
    | _ => exact q1.elim
end
theorem fn_getIn {K : PySem.W.Frag} {g : Addr} (h : PySem.W.isFn K (.ref g) = true) : PySem.W.specialIn K (.ref g) "__get__" = some (some (.builtin "function.__get__")) ∧ PySem.W.takesIn K (.ref g) = some false := by
  have e := beq_iff_eq.mp h
  refine ⟨?_, ?_⟩
  · unfold PySem.W.specialIn
    rw [e, Option.bind_some]
    kernel_rfl
  · unfold PySem.W.takesIn PySem.W.specialIn
    rw [e, Option.bind_some, Option.bind_some]
    kernel_rfl
theorem DfM.bm {K : PySem.W.Frag} {C : Addr} {m q : Str} {st : Stmt} (d : DfM K C m q st) (cp : PySem.W.copiedNames.contains m = false) : ∀ f, Meth K C m f → BMeth K C m f := fun f M => by
  obtain ⟨g, fd, F, M2⟩ := d.ex
  have e := M.at_
  rw [M2.at_] at e
  cases e
  obtain ⟨h1, h2⟩ := fn_getIn M.fn
  refine ⟨M, h1, h2, cp, ?_⟩
  obtain ⟨oc, od, kV, doc, pm, an, cdv, ct, osl, rfl, lk, _⟩ := F.ex
  unfold PySem.W.fnIn
  rw [lk]
end DL
set_option maxHeartbeats 1000000
namespace DL
open PySem PySem.Spec PyProof.Rows L2 MT
theorem FnG.imp {P : Program} {w : World} {K : PySem.W.Frag} {mg : Str → Option Value} {base : Heap} {CX : CXT} {k : Nat} {f : Addr} {fd : FuncData} {ps : List Str} {sp sp' : Sp} (F : FnG P w K mg base CX k f fd ps sp) (h : ∀ vs H Q E, sp' vs H Q E → sp vs H Q E) : FnG P w K mg base CX k f fd ps sp' :=
  ⟨fun vs H Q E q => F.len _ _ _ _ (h _ _ _ _ q), fun A outer s H args us vs Q E hg hr e0 hb rv q => F.run A outer s H args us vs Q E hg hr e0 hb rv (h _ _ _ _ q)⟩
end DL
set_option maxHeartbeats 1000000
namespace DL
open PySem PySem.Spec PyProof.Rows L2 MT
section
variable {X : Cx} {CX : CXT} {o e v : Expr} {es : List Expr} {kws : List Keyword} {ta : TE} {t tk : TA} {fo fe fv : DTE} {fr : DTA} {pos apos p kpos : Pos} {m kn : Str} {k n : Nat} {C f : Addr} {Cs : List Addr} {fd : FuncData} {ps ks : List Str} {sp : Sp} {dvs : List V} {dds : List Value} {g : List Value → List Value → List Value} {gV : List V → List V → List V}
structure ClMeKL (P : Program) (w : World) (K : PySem.W.Frag) (mg : Str → Option Value) (base : Heap) (Cs : List Addr) (m : Str) (k : Nat) (ps : List Str) (n : Nat) (ks : List Str) (dd : List D) (ds : DSp) : Prop where
  ex : ∃ (f : Addr) (fd : FuncData), (∀ C ∈ Cs, Cls K C ∧ Meth K C m f) ∧ FnG P w K mg base (CXd P w) k f fd ps (spOf K ds) ∧ (∃ dvs dds, Vals dvs dds ∧ (∀ F al, Rps K F al dvs dd) ∧ Binds K fd ps dds) ∧ ∃ g, KBn K fd ps n ks g (fun vs zs => vs ++ zs)
  mono : MonoSp ds
end
structure DfML (K : PySem.W.Frag) (Cs : List Addr) (m qual : Str) (st : Stmt) : Prop where
  ex : ∃ (f : Addr) (fd : FuncData), Fun K m qual st f fd ∧ ∀ C ∈ Cs, Meth K C m f
structure DfMKL (K : PySem.W.Frag) (Cs : List Addr) (m qual : Str) (st : Stmt) (kn : Str) (dv : V) : Prop where
  ex : ∃ (f : Addr) (fd : FuncData), FunK1 K m qual st kn dv f fd ∧ ∀ C ∈ Cs, Meth K C m f
theorem DfML.bm {K : PySem.W.Frag} {Cs : List Addr} {m q : Str} {st : Stmt} (d : DfML K Cs m q st) (cp : PySem.W.copiedNames.contains m = false) : ∀ f, ∀ C ∈ Cs, Meth K C m f → BMeth K C m f := fun f C hC M => by
  obtain ⟨g, fd, F, M2⟩ := d.ex
  exact DfM.bm ⟨g, fd, F, M2 C hC⟩ cp f M
end DL
set_option maxHeartbeats 1000000
namespace DL
open PySem PySem.Spec PyProof.Rows L2 MT
end DL
set_option maxHeartbeats 1000000
namespace DL
open PySem PySem.Spec PyProof.Rows L2 MT
end DL
set_option maxHeartbeats 1000000
namespace DL
open PySem PySem.Spec PyProof.Rows L2 MT
end DL
set_option maxHeartbeats 1000000
namespace DL
open PySem PySem.Spec PyProof.Rows L2 MT
/-- the cells and the unused digits -/
abbrev CR := List Int × List Int
def Gd (b : Nat) (cs : CR) (n : Int) : Prop := (1 ≤ cs.1.length ∧ cs.1.length ≤ 63 ∧ cs.2.length = cs.1.length) ∧ ((∀ c ∈ cs.1, 0 ≤ c) ∧ ∀ c ∈ cs.2, 0 ≤ c) ∧ 0 ≤ n ∧ n + b ≤ 1000000
theorem Gd.le {b b' : Nat} {cs : CR} {n : Int} (g : Gd b cs n) (h : b' ≤ b) : Gd b' cs n := ⟨g.1, g.2.1, g.2.2.1, by have := g.2.2.2; omega⟩
end DL
set_option maxHeartbeats 1000000
namespace DL
open PySem PySem.Spec PyProof.Rows L2 MT
end DL
set_option maxHeartbeats 1000000
namespace DL
open PySem PySem.Spec PyProof.Rows L2 MT
end DL
set_option maxHeartbeats 1000000
namespace DL
open PySem PySem.Spec PyProof.Rows L2 MT
/-- isinstance(e, C) in a try's body: the classes are told by K itself -/
theorem d_isiCK {X : Cx} {a : Expr} {fa : DTE} {pos : Pos} {K : PySem.W.Frag} (hK : X.K = K) {x : Str} {C' : Addr} {p p2 : Pos} (hm2 : X.mg x = some (.ref C')) (hm : X.mg "isinstance" = none) (h : DE X a fa) (hg : Gl X "isinstance" := by rfl) (hg2 : Gl X x := by rfl) (hd2 : (x == ("__debug__" : Str)) = false := by decide)
    (hs : starEach [a, .Name x p2] X.env = (false, eval a X.env) :: starEach [.Name x p2] X.env := by rfl) (hs2 : starEach [.Name x p2] X.env = (false, eval (.Name x p2) X.env) :: starEach [] X.env := by rfl) (hpl : (backTo pos (starEach [.Name x p2] X.env)).any (·.1) = false := by rfl) :
    DE X (.Call (.Name "isinstance" p) [a, .Name x p2] [] pos) (dIsiC K C' fa) := by
  subst hK
  exact d_isiC hm2 hm h hg hg2 hd2 hs hs2 hpl
end DL
set_option maxHeartbeats 1000000
namespace DL
open PySem PySem.Spec PyProof.Rows L2 MT
end DL
set_option maxHeartbeats 1000000
namespace DL
open PySem PySem.Spec PyProof.Rows L2 MT
end DL
set_option maxHeartbeats 2000000
namespace DL
open PySem PySem.Spec PyProof.Rows L2
open L2H (RoomH Hot1 PinOk HotC)
end DL
set_option maxHeartbeats 2000000
namespace DL
open PySem PySem.Spec PyProof.Rows L2
end DL
set_option maxHeartbeats 2000000
namespace DL
open PySem PySem.Spec PyProof.Rows L2
inductive HdC (X : Cx) : List ExceptHandler → List Cla → Prop
  | nil : HdC X [] []
  | cons {t : Expr} {n : Str} {i : Nat} {cs : List Value} {ts : Addr → Value → Option Addr → TS} {b₀ : Stmt} {suite : List Stmt} {pos' : Pos} {hds : List ExceptHandler} {l : List Cla} (T : Tst X t cs) (hi : X.N[i]? = some n) (hln : X.env.kindOf n = some .local)
      (hsu : ∀ (a : Addr) (oe : Obj) (cls : Value) (d : Option Addr) (pn : List (Addr × Obj)), L2.Zc cls d oe → (∃ vs, oe.data = .fields vs) → PSs (X.suite a ((a, oe) :: pn)) (b₀ :: suite) (ts a cls d)) (r : HdC X hds l) :
      HdC X (.ExceptHandler (some t) (some n) (b₀ :: suite) pos' :: hds) ((cs, i, ts) :: l)
end DL
set_option maxHeartbeats 2000000
namespace DL
open PySem PySem.Spec PyProof.Rows L2
theorem FldOk.ext {K : PySem.W.Frag} {F F' : Hp} {al al' : List Addr} {o : Option Addr} {fs : List (Str × D)} (h : FldOk K F al o fs) (e : Ext al F al' F') : FldOk K F' al' o fs := by
  rcases h with h | ⟨q, vs, rfl, h1, h2, h3⟩
  · exact .inl h
  · exact .inr ⟨q, vs, rfl, e.sm _ _ h1, h2, h3.ext e⟩
inductive DHdC (X : Cx) : List ExceptHandler → List Dcl → Prop
  | nil : DHdC X [] []
  | cons {t : Expr} {n : Str} {i : Nat} {cs : List Value} {fs : Addr → Value → Option Addr → DTS} {b₀ : Stmt} {suite : List Stmt} {pos' : Pos} {hds : List ExceptHandler} {l : List Dcl} (T : Tst X t cs) (hi : X.N[i]? = some n) (hln : X.env.kindOf n = some .local)
      (hsu : ∀ (a : Addr) (oe : Obj) (cls : Value) (d : Option Addr) (pn : List (Addr × Obj)), L2.Zc cls d oe → (∃ vs, oe.data = .fields vs) → DSs (X.suite a ((a, oe) :: pn)) (b₀ :: suite) (fs a cls d)) (r : DHdC X hds l) :
      DHdC X (.ExceptHandler (some t) (some n) (b₀ :: suite) pos' :: hds) ((cs, i, fs) :: l)
theorem DHdC.hd {X : Cx} {hds : List ExceptHandler} {l : List Dcl} (h : DHdC X hds l) : HdC X hds (l.map (liftC X.K)) := by
  induction h with
  | nil => exact .nil
  | cons T hi hln hsu r ih => exact .cons T hi hln (fun a oe cls d pn hz hd => PSs.of (hsu a oe cls d pn hz hd).ps fun E σ H h => LiftSN.of h) ih
theorem DHdC.mono {X : Cx} {hds : List ExceptHandler} {l : List Dcl} (h : DHdC X hds l) : ∀ c ∈ l, ∀ a cls d, MonoS (c.2.2 a cls d) := by
  induction h with
  | nil => exact fun c hc => nomatch hc
  | cons T hi hln hsu r ih =>
    intro c hc a cls d
    rcases List.mem_cons.mp hc with rfl | hc
    · exact (hsu a { cls := cls, dict := d, data := .fields #[.none, .none, .none] } cls d [] ⟨rfl, rfl⟩ ⟨_, rfl⟩).mono
    · exact ih c hc a cls d
end DL
set_option maxHeartbeats 1000000
namespace DL
open PySem PySem.Spec PyProof.Rows L2 MT
end DL
set_option maxHeartbeats 1000000
namespace PySem
namespace SeqAt
open Builtin
end SeqAt
end PySem
namespace DL
open PySem PySem.Spec PyProof.Rows L2 MT
end DL
set_option maxHeartbeats 1000000
namespace DL
open PySem PySem.Spec PyProof.Rows L2 MT
end DL
namespace DL
open PySem PySem.Spec PyProof.Rows L2 LamX NdefX
structure LF where
  params : Arguments
  body : Expr
  scope : Scope
  qual : Str
  cl : List (Str × Addr)
  c : Addr
abbrev LF.nf (L : LF) : NF := ⟨"<lambda>", L.qual, L.params, [], L.scope, L.cl, L.c⟩
/-- the captured cells, in the base -/
structure CellsB (base : Heap) (cl : List (Str × Addr)) (fr : List Str) (vs : List V) : Prop where
  len : vs.length = fr.length
  all : ∀ y c, cl.lookup y = some c → ∃ v, base.IsCell c v
  inj : ∀ x y c, cl.lookup x = some c → cl.lookup y = some c → x = y
  has : ∀ (i : Nat) (y : Str), fr[i]? = some y → ∃ c, cl.lookup y = some c ∧ ∀ v, vs[i]? = some v → ∃ u, L2.RelV v u ∧ base.IsCell c (some u)
theorem CellsB.at_ {base : Heap} {cl : List (Str × Addr)} {fr : List Str} {vs : List V} (C : CellsB base cl fr vs) {h : Heap} {H : Hp} (bs : ∀ b o, base.get? b = some o → h.get? b = some o ∧ H b = none) : CellsAt cl fr (vs.map some) h H := by
  have up : ∀ {c v}, base.IsCell c v → h.IsCell c v ∧ H c = none := fun {c v} ⟨o, e, d⟩ => ⟨⟨o, (bs _ _ e).1, d⟩, (bs _ _ e).2⟩
  refine ⟨by rw [List.length_map]; exact C.len, fun y c e => ?_, C.inj, fun i y e => ?_⟩
  · obtain ⟨v, z⟩ := C.all y c e
    exact ⟨(up z).2, v, (up z).1⟩
  · obtain ⟨c, hc, hv⟩ := C.has i y e
    refine ⟨c, hc, fun v ev => ?_⟩
    rw [List.getElem?_map] at ev
    cases q : vs[i]? with
    | none => rw [q] at ev; cases ev
    | some z =>
      rw [q] at ev
      cases ev
      obtain ⟨u, r, y⟩ := hv _ q
      exact ⟨u, r, (up y).1⟩
end DL
namespace DL
open PySem PySem.Spec PyProof.Rows L2 LamX NdefX
/-- what the def that makes the lambda must be: its code object, its table, among the marks -/
structure LamAt (K : PySem.W.Frag) (mg : Str → Option Value) (code : Value) (qual : Str) : Prop where
  ex : ∃ c P : Addr, code = .ref c ∧ (∀ base : Heap, K.In base → TabB base mg c P) ∧ (P, qual ++ "<lambda>") ∈ Tk K ∧ ∀ p ∈ Tk K, p.1 = P → p.2 = qual ++ "<lambda>"
theorem Wd.code {K : PySem.W.Frag} {al : List Addr} {F G H : Hp} {M : Sto} {P d : Addr} {q : Str} {ps : Array Value} {pos : Pos} (W : Wd K al F G H M) (hp : (P, q) ∈ Tk K) (hu : ∀ p ∈ Tk K, p.1 = P → p.2 = q) (hP : H P = some (.tbl ps)) (hd : H d = none) :
    Wd K al (upd F d (CodeO d q)) G (upd (upd H P (.tbl (ps ++ #[rawInt pos.line, rawInt pos.col, .ref d]))) d (CodeO d q)) M ∧ Ext al F al (upd F d (CodeO d q)) := by
  have t := W.tb _ hp
  have nPd : P ≠ d := ne_of_none hP hd
  have eF : Ext al F al (upd F d (CodeO d q)) := ⟨⟨[], by simp⟩, Sm.new (W.sm.free hd)⟩
  have off : ∀ b, b ≠ P → b ≠ d → upd (upd H P (.tbl (ps ++ #[rawInt pos.line, rawInt pos.col, .ref d]))) d (CodeO d q) b = H b := fun b z1 z2 => by rw [upd_ne z2, upd_ne z1]
  have notP : ∀ b, b ∈ al → b ≠ P := fun b hb z => t.na (z ▸ hb)
  refine ⟨⟨fun b o e => ?_, fun b o e => ?_, fun b o e => ⟨?_, (W.fg b o e).2⟩, W.len, W.nd, fun b hb => ?_, fun n c b e1 e2 => ?_, fun p hp2 => ?_⟩, eF⟩
  · by_cases hb : b = d
    · subst hb; rw [upd_same] at e ⊢; exact e
    · rw [upd_ne hb] at e
      rw [off b (fun z => by rw [z, t.nf] at e; cases e) hb]
      exact W.sm b o e
  · rw [off b (fun z => by rw [z, t.ng] at e; cases e) (ne_of_none (W.sg b o e) hd)]
    exact W.sg b o e
  · rw [upd_ne (ne_of_none (W.sg b o e) hd)]
    exact (W.fg b o e).1
  · rw [upd_ne (show b ≠ d from fun z => W.notin hd (z ▸ hb))]
    exact W.out b hb
  · have hb := List.mem_of_getElem? e2
    exact (W.cel n c b e1 e2).ext eF (off b (notP b hb) fun z => W.notin hd (z ▸ hb))
  · have t2 := W.tb p hp2
    obtain ⟨qs, y1, y2, y3⟩ := t2.ok
    have npd : p.1 ≠ d := ne_of_none y1 hd
    refine ⟨?_, (upd_ne npd).trans t2.nf, t2.ng, t2.na⟩
    by_cases hb : p.1 = P
    · have eq : qs = ps := by rw [hb, hP] at y1; cases y1; rfl
      subst eq
      have eL : (qs ++ #[rawInt pos.line, rawInt pos.col, .ref d]).toList = qs.toList ++ [rawInt pos.line, rawInt pos.col, .ref d] := by simp
      refine ⟨_, by rw [hb, upd_ne nPd, upd_same], by rw [eL]; exact PySem.TriplesOk_snoc _ _ _ _ y2, fun pos2 cv z => ?_⟩
      rw [eL] at z
      rcases among_app _ y2 z with z | z
      · obtain ⟨c0, w1, w2⟩ := y3 pos2 cv z
        exact ⟨c0, w1, eF.sm _ _ w2⟩
      · refine ⟨d, z, ?_⟩
        rw [hu p hp2 hb]
        exact upd_same
    · exact ⟨qs, by rw [off p.1 hb npd]; exact y1, y2, fun pos2 cv z => let ⟨c0, w1, w2⟩ := y3 pos2 cv z; ⟨c0, w1, eF.sm _ _ w2⟩⟩
/-- how the lambda's names lie to those of the def that makes it -/
structure LamS (X : Cx) (scope : Scope) (fr : List Str) (js : List Nat) : Prop where
  free : ∀ y ∈ scope.names, y.2 = .free → X.env.scope.names.lookup y.1 = some .cell ∨ X.env.scope.names.lookup y.1 = some .free
  frm : ∀ y ∈ fr, (y, NameKind.free) ∈ scope.names
  js : js.map (fun j => X.N[j]?) = fr.map some
  nofr : ∀ {pins : List (Addr × Obj)} {σ : L2.St} {H : Hp} {s : Shared}, Inv X pins σ H s → ∀ (y : Str) (c : Addr), (y, NameKind.free) ∈ scope.names → X.env.cells.lookup y = some c → c ∉ frs X.stack
/-- of a block: the cells of the def around it are no frames -/
def NoFr (X : Cx) (scope : Scope) (cl : List (Str × Addr)) : Prop := ∀ (y : Str) (c : Addr), scope.names.lookup y = some .free → cl.lookup y = some c → c ∉ frs X.stack
theorem LamS.blk {X : Cx} {s : Shared} {H : Hp} {C : Addr} {cl : List (Str × Addr)} {fp : List Addr} {bsc scope sc : Scope} {fr N : List Str} {js : List Nat} (hcl : NoFr X bsc cl) (hN : X.N = N) (hsc : X.env.scope = sc) (h : ndefB (relS bsc sc) scope fr = true)
    (hb : (scope.names.all fun y => !decide (y.2 = .free) || decide (bsc.names.lookup y.1 = some .free)) = true) (hj : js.map (fun j => N[j]?) = fr.map some) : LamS (X.blk s H bsc (compEnvC bsc cl C X.env) fp) scope fr js := by
  subst hN
  subst hsc
  refine ⟨ndef_free (sc := relS bsc X.env.scope) h, ndef_fr h, hj, fun {pins σ H s} I y c hy e => hcl y c ?_ e⟩
  have z := List.all_eq_true.mp hb _ hy
  rw [Bool.or_eq_true, Bool.not_eq_true', decide_eq_false_iff_not, decide_eq_true_iff] at z
  exact z.resolve_left fun n => n rfl
section
variable {X : Cx} {pins : List (Addr × Obj)} {σ : L2.St} {H : Hp} {s : Shared} {scope : Scope} {fr : List Str} {js : List Nat}
theorem LamS.has (L : LamS X scope fr js) (ok : X.Ok) : ∀ y ∈ scope.names, y.2 = .free → ∃ c, X.env.cells.lookup y.1 = some c := fun y hy e => (L.free y hy e).elim (fun z => ok.has _ (.inl z)) fun z => ok.has _ (.inr z)
end
structure LamD (K : PySem.W.Frag) (mg : Str → Option Value) (x q : Str) : Prop where
  ex : ∀ f : Addr, mg x = some (.ref f) → ∃ c P P' q', tabAt K f = some (c, P', q') ∧ P' = P ∧ (∀ base : Heap, K.In base → TabB base mg c P) ∧ (P, q) ∈ Tk K ∧ ∀ p ∈ Tk K, p.1 = P → p.2 = q
theorem LamD.at_ {K : PySem.W.Frag} {mg : Str → Option Value} {x x2 q qual : Str} {st : Stmt} {f : Addr} {fd : FuncData} {cdv : Value} (L : LamD K mg x q) (hm : mg x = some (.ref f)) (F : Fun K x2 qual st f fd) (hc : fd.code = cdv) {qe : Str} (hq : qe ++ "<lambda>" = q) : LamAt K mg cdv qe := by
  obtain ⟨c, P, P', q', h1, rfl, h3, h4, h5⟩ := L.ex f hm
  obtain ⟨oc, od, kV, doc, pm, an, cd2, ct, osl, rfl, lk, _⟩ := F.ex
  subst hq
  refine ⟨c, P', ?_, h3, h4, h5⟩
  rw [← hc]
  unfold tabAt at h1
  rw [lk] at h1
  dsimp only at h1 ⊢
  split at h1
  · next c2 e2 =>
    split at h1
    · split at h1
      · cases h1
        rfl
      · cases h1
    · cases h1
  · cases h1
end DL
namespace DL
open PySem PySem.Spec PyProof.Rows L2 LamX NdefX
end DL
set_option maxHeartbeats 4000000
namespace DL
open PySem PySem.Spec PyProof.Rows L2 MT
end DL
set_option maxHeartbeats 1000000
namespace DL
open PySem PySem.Spec PyProof.Rows L2
end DL
set_option maxHeartbeats 1000000
namespace DL
open PySem PySem.Spec PyProof.Rows L2
theorem DfMKL.at {K : PySem.W.Frag} {Cs : List Addr} {m q : Str} {st : Stmt} {kn : Str} {dv : V} {C : Addr} (d : DfMKL K Cs m q st kn dv) (h : C ∈ Cs) : DfMK K C m q st kn dv := by
  obtain ⟨f, fd, F, M⟩ := d.ex
  exact ⟨f, fd, F, M C h⟩
theorem ClMeKL.at {P : Program} {w : World} {K : PySem.W.Frag} {mg : Str → Option Value} {base : Heap} {Cs : List Addr} {m : Str} {k : Nat} {ps : List Str} {n : Nat} {ks : List Str} {dd : List D} {ds : DSp} {C : Addr} (c : ClMeKL P w K mg base Cs m k ps n ks dd ds) (h : C ∈ Cs) : ClMeK P w K mg base C m k ps n ks dd ds := by
  obtain ⟨f, fd, a, G, x, y⟩ := c.ex
  exact ⟨⟨f, fd, (a C h).1, (a C h).2, G, x, y⟩, c.mono⟩
end DL
namespace MT
open DL (minI maxI minI_le minI_mem le_maxI maxI_mem minI_uniq maxI_uniq)
end MT
set_option maxHeartbeats 1000000
namespace DL
open PySem PySem.Spec PyProof.Rows L2 MT
end DL
set_option maxHeartbeats 1000000
namespace DL
open PySem PySem.Spec PyProof.Rows L2 MT
end DL
set_option maxHeartbeats 1000000
namespace DL
open PySem PySem.Spec PyProof.Rows L2 MT
end DL
set_option maxHeartbeats 1000000
namespace DL
open PySem PySem.Spec PyProof.Rows L2 MT
end DL
set_option maxHeartbeats 1000000
namespace DL
open PySem PySem.Spec PyProof.Rows L2 MT
end DL
set_option maxHeartbeats 1000000
namespace HotY
open PySem PySem.Spec PyProof.Rows L2 HotX
end HotY
namespace L2
open PySem PySem.Spec PyProof.Rows HotX HotY L2H
section
variable {X : Cx} {pos : Pos}
/-- a walk whose end is not reached -/
structure TurnH (P : Program) (w : World) (K : PySem.W.Frag) (tg : Expr) (J : It) (fp : List Addr) (it : Addr) (tn : Nat → Heap → Prop) : Prop where
  obj : ∀ i h, tn i h → ∀ b ∈ fp, ∃ o, h.get? b = some o ∧ ∀ v, o.data ≠ .cell v
  keep : ∀ i h h', tn i h → (∀ b ∈ fp, ∀ o, h.get? b = some o → h'.get? b = some o) → tn i h'
  item : ∀ (Y : Cx), Y.prog = P → Y.w = w → Y.K = K → ∀ (i : Nat) (ps : List (Addr × Obj)) (s : Shared) (σ : St) (H : Hp) (E : Value → Shared → Prop), Inv Y ps σ H s → (∀ b ∈ fp, FpOk Y ps H b) → tn i s.heap → J.go i H →
    wpAny (model P w) Y.A (pyNext (.ref it)) (fun r s1 => ∃ u, r = some u ∧ wpAny (model P w) Y.A (letOwnedTupleGo tg (.ref it) u) (fun _ s2 => ∃ x H', Inv Y ps σ H' s2 ∧ RelV x u ∧ J.yld i H x H' ∧ tn (i + 1) s2.heap ∧ ∀ b ∈ fp, H' b = none) E s1) E s
def PIEH (X : Cx) (ps : List (Addr × Obj)) (σ : St) (tg : Expr) (R : It → Hp → Prop) (itv : Value) (s2 : Shared) : Prop :=
  ∃ (it : Addr) (fp : List Addr) (tn : Nat → Heap → Prop) (J : It) (H2 : Hp), itv = .ref it ∧ Inv X ps σ H2 s2 ∧ TurnH X.prog X.w X.K tg J fp it tn ∧ tn 0 s2.heap ∧ (∀ b ∈ fp, FpOk X ps H2 b) ∧ R J H2
structure PIH (X : Cx) (tg iter : Expr) (wi : TI) : Prop where
  run : ∀ (ps : List (Addr × Obj)) (s : Shared) (σ : St) (H : Hp) (R : It → Hp → Prop), Inv X ps σ H s → wi σ H R →
    wpAny (model X.prog X.w) X.A (eval iter X.env) (fun v s1 => wpAny (model X.prog X.w) X.A (pyIter v) (PIEH X ps σ tg R) X.xe s1) X.xe s
theorem PIH.of {tg e : Expr} {t t2 : TI} (h : PIH X tg e t) (w : ∀ σ H Q, t2 σ H Q → t σ H Q) : PIH X tg e t2 := ⟨fun ps s σ H R J q => h.run ps s σ H R J (w σ H R q)⟩
end
end L2
namespace DL
open PySem PySem.Spec PyProof.Rows L2 HotX HotY
open L2H (RoomH Hot1 PinOk cxH HotC inv_startH)
end DL
set_option maxHeartbeats 1000000
namespace DL
open PySem PySem.Spec PyProof.Rows L2
end DL
set_option maxHeartbeats 1000000
namespace PySem
open PySem PySem.Spec
end PySem
namespace L2
open PySem PySem.Spec PyProof.Rows GenW
end L2
set_option maxHeartbeats 1000000
namespace DL
open PySem PySem.Spec PyProof.Rows L2 MT
structure DEndsG where
  nx : List DL.D → Dn → Sto → Prop
  rt : List DL.D → DK
  bk : List DL.D → Dn → Sto → Prop := fun _ _ _ => False
  ct : List DL.D → Dn → Sto → Prop := fun _ _ _ => False
structure DEndsG.Le (D D' : DEndsG) : Prop where
  nx : ∀ ys ρ M, D.nx ys ρ M → D'.nx ys ρ M
  rt : ∀ ys d M, D.rt ys d M → D'.rt ys d M
  bk : ∀ ys ρ M, D.bk ys ρ M → D'.bk ys ρ M
  ct : ∀ ys ρ M, D.ct ys ρ M → D'.ct ys ρ M
@[reducible] def DEndsG.at_ (D : DEndsG) (ys : List DL.D) : DEnds := ⟨D.nx ys, D.rt ys, D.bk ys, D.ct ys⟩
abbrev DTGn := DEndsG → List DL.D → Dn → Sto → Prop
def kG (K : PySem.W.Frag) (al : List Addr) (F G : Hp) (x : DXS) (Q : List V → L2.St → Hp → Prop) : List DL.D → Dn → Sto → Prop := fun ys ρ M' => ∀ al' F' H' σ' vs, Ext al F al' F' → Wd K al' F' G H' M' → Sl K F' al' σ' ρ.v → ρ.x = x → Rps K F' al' vs ys → Q vs σ' H'
def kR (K : PySem.W.Frag) (al : List Addr) (F G : Hp) (Q : List V → VK) : List DL.D → DK := fun ys d M' => ∀ al' F' H' v vs, Ext al F al' F' → Wd K al' F' G H' M' → Rp K F' al' v d → Rps K F' al' vs ys → Q vs v H'
theorem kG.ext {K : PySem.W.Frag} {al al1 : List Addr} {F F1 G : Hp} {x : DXS} {Q : List V → L2.St → Hp → Prop} {ys : List DL.D} {ρ : Dn} {M : Sto} (h : kG K al F G x Q ys ρ M) (e : Ext al F al1 F1) : kG K al1 F1 G x Q ys ρ M :=
  fun al' F' H' σ' vs e' W s q r => h al' F' H' σ' vs (e.trans e') W s q r
theorem kR.ext {K : PySem.W.Frag} {al al1 : List Addr} {F F1 G : Hp} {Q : List V → VK} {ys : List DL.D} {d : D} {M : Sto} (h : kR K al F G Q ys d M) (e : Ext al F al1 F1) : kR K al1 F1 G Q ys d M :=
  fun al' F' H' v vs e' W r rs => h al' F' H' v vs (e.trans e') W r rs
def kontG (K : PySem.W.Frag) (al : List Addr) (F G : Hp) (x : DXS) (E : GEnds) : DEndsG := ⟨kG K al F G x E.nx, kR K al F G E.rt, kG K al F G x E.bk, kG K al F G x E.ct⟩
def LiftGn (X : Cx) (f : DTGn) : TGn := fun E vs σ H => ∃ ρ M al F G ys, Wd X.K al F G H M ∧ Es X F G al σ ρ ∧ Rps X.K F al vs ys ∧ f (kontG X.K al F G ρ.x E) ys ρ M
def MonoGn (f : DTGn) : Prop := ∀ (D D' : DEndsG) ys ρ M, D.Le D' → f D ys ρ M → f D' ys ρ M
structure DGS (X : Cx) (st : Stmt) (f : DTGn) : Prop where
  gs : GS X st (LiftGn X f)
  mono : MonoGn f
theorem GS.of {X : Cx} {st : Stmt} {t t' : TGn} (h : GS X st t) (w : ∀ D ys σ H, t' D ys σ H → t D ys σ H) : GS X st t' :=
  ⟨fun A S ip R n ys s₀ c fs K J gd lv s σ H D g hn k hI ht => h.run A S ip R n ys s₀ c fs K J gd lv s σ H D g hn k hI (w _ _ _ _ ht)⟩
theorem GSs.of {X : Cx} {st : List Stmt} {t t' : TGn} (h : GSs X st t) (w : ∀ D ys σ H, t' D ys σ H → t D ys σ H) : GSs X st t' :=
  ⟨fun A S ip R n ys s₀ c fs K J gd lv s σ H D g hn k hI ht => h.run A S ip R n ys s₀ c fs K J gd lv s σ H D g hn k hI (w _ _ _ _ ht)⟩
section
variable {X : Cx} {st : Stmt} {sts : List Stmt} {pos yp : Pos} {e : Expr}
theorem DGS.weak {f g : DTGn} (h : DGS X st f) (w : ∀ E ys ρ M, g E ys ρ M → f E ys ρ M) (m : MonoGn g) : DGS X st g :=
  ⟨GS.of h.gs fun E vs σ H ⟨ρ, M, al, F, G, ys, W, es, r, q⟩ => ⟨ρ, M, al, F, G, ys, W, es, r, w _ _ _ _ q⟩, m⟩
end
end DL
set_option maxHeartbeats 1000000
namespace DL
open PySem PySem.Spec PyProof.Rows L2 MT
end DL
set_option maxHeartbeats 1000000
namespace DL
open PySem PySem.Spec PyProof.Rows L2 MT
theorem Df.ref {K : PySem.W.Frag} {mg : Str → Option Value} {x : Str} {st : Stmt} (d : Df K mg x st) : mg x = some (.ref (cls mg x)) := by
  obtain ⟨f, fd, F, hm⟩ := d.ex
  rw [cls_of hm]
  exact hm
end DL
set_option maxHeartbeats 1000000
namespace DL
open PySem PySem.Spec PyProof.Rows L2 MT
end DL
set_option maxHeartbeats 1000000
namespace DL
open PySem PySem.Spec PyProof.Rows L2 MT Builtin Float
end DL
set_option maxHeartbeats 1000000
namespace DL
open PySem PySem.Spec PyProof.Rows L2 MT
end DL
set_option maxHeartbeats 1000000
namespace DL
open PySem PySem.Spec PyProof.Rows L2
section
open Builtin Builtin.Str
/-- at most n of the places are changed -/
def replN (x y z : Str) (n : Nat) : Str :=
  if ((occurrences x y 0 x.length n).isEmpty || (y.length == 0 && z.length == 0)) = true then x else glued z (partsBetween x (occurrences x y 0 x.length n) y.length)
theorem repl_tree (x y z : Str) (k : Int) (t u v v2 : Tok) (hk : (decide (k < -(2 ^ 63 : Int)) || decide (k ≥ 2 ^ 63)) = false) : «str.replace» ⟨[.str x t, .str y u, .str z v, .int k v2], []⟩ =
    (if ((occurrences x y 0 x.length (limitOf x k)).isEmpty || (y.length == 0 && z.length == 0)) = true then (do rule "str.replace.nothing"; ret (.str x t)) else
          (do let same ← isSame (.str y u) (.str z v)
              if same = true then (do rule "str.replace.old-is-new"; ret (.str x t)) else
              if tooLong (x.length + (occurrences x y 0 x.length (limitOf x k)).length * z.length) = true then unsupported "str.replace:memory" else
              retStr (glued z (partsBetween x (occurrences x y 0 x.length (limitOf x k)) y.length)))) := by
  show (do let limit ← countLimit "str.replace" (some (.int k v2)) (x.length + 1); _) = _
  rw [countLimit_int "str.replace" k v2 (x.length + 1) hk]
  rfl
theorem replN_fits {x z : Str} (y : Str) (n : Nat) (hb : x.length + n * z.length ≤ 16777216) : (glued z (partsBetween x (occurrences x y 0 x.length n) y.length)).length ≤ sizeLine := by
  have h1 := StrLaws.occ_length_le x y 0 x.length n
  have hy : (glued y (partsBetween x (occurrences x y 0 x.length n) y.length)).length = x.length := by rw [StrLaws.glued_between_self]
  rw [size_glued, length_partsBetween, Nat.add_sub_cancel] at hy
  rw [size_glued, length_partsBetween, Nat.add_sub_cancel, sizeLine_eq]
  have h2 : (occurrences x y 0 x.length n).length * z.length ≤ n * z.length := Nat.mul_le_mul_right _ h1
  omega
theorem replN_len (x y z : Str) (n : Nat) : (replN x y z n).length ≤ x.length + n * z.length := by
  unfold replN
  split
  · omega
  have h1 := StrLaws.occ_length_le x y 0 x.length n
  have hy : (glued y (partsBetween x (occurrences x y 0 x.length n) y.length)).length = x.length := by rw [StrLaws.glued_between_self]
  rw [size_glued, length_partsBetween, Nat.add_sub_cancel] at hy
  rw [size_glued, length_partsBetween, Nat.add_sub_cancel]
  have h2 : (occurrences x y 0 x.length n).length * z.length ≤ n * z.length := Nat.mul_le_mul_right _ h1
  omega
theorem call_replN {prog : Program} {w : World} {A : Around} {E : Value → Shared → Prop} {s : Shared} {x y z : Str} {t u v v2 : Tok} {n : Nat} {Q : Value → Shared → Prop} (hu : u ≠ 0) (hv : v ≠ 0) (huv : u ≠ v) (hyz : (y == z) = false) (hn : n < 100000)
    (hb : x.length + n * z.length ≤ 16777216) (hq : ∀ t' k, Q (.str (replN x y z n) t') { s with toks := k }) : wpAny (model prog w) A (call (.builtin "str.replace") [.str x t, .str y u, .str z v, .int (n : Int) v2]) Q E s := by
  have hk : (decide ((n : Int) < -(2 ^ 63 : Int)) || decide ((n : Int) ≥ 2 ^ 63)) = false := by
    rw [Bool.or_eq_false_iff, decide_eq_false_iff_not, decide_eq_false_iff_not]
    omega
  have hl0 : limitOf x (n : Int) = n := by
    unfold limitOf
    rw [if_neg (by omega)]
    exact Int.toNat_natCast n
  have hl : tooLong (x.length + (occurrences x y 0 x.length n).length * z.length) = false := by
    have h1 := StrLaws.occ_length_le x y 0 x.length n
    have h2 : (occurrences x y 0 x.length n).length * z.length ≤ n * z.length := Nat.mul_le_mul_right _ h1
    have e : (2 : Nat) ^ 24 = 16777216 := by decide
    unfold tooLong sizeLine
    exact decide_eq_false (by omega)
  have g : Gives («str.replace» ⟨[.str x t, .str y u, .str z v, .int (n : Int) v2], []⟩) (if ((occurrences x y 0 x.length n).isEmpty || (y.length == 0 && z.length == 0)) = true then .val (.str x t) else .str (glued z (partsBetween x (occurrences x y 0 x.length n) y.length))) := by
    rw [repl_tree x y z n t u v v2 hk, hl0]
    cases hc : ((occurrences x y 0 x.length n).isEmpty || (y.length == 0 && z.length == 0))
    · rw [isSame_str_other y z u v (by simp [hu, hv]) (by simp [huv]) hyz, hl]
      exact .of_eq rfl
    · exact .rule (.of_eq rfl)
  refine call_gives F.slot_str_replace (typeIs_str _ _ _) F.entry_str_replace (F.args_str_replace_4 _ _ _ _) g ?_
  have hq' := hq
  unfold replN at hq'
  cases hc : ((occurrences x y 0 x.length n).isEmpty || (y.length == 0 && z.length == 0))
  · rw [hc] at hq'
    simp only [Bool.false_eq_true, if_false] at hq' ⊢
    exact ⟨replN_fits y n hb, hq' _ _⟩
  · rw [hc] at hq'
    simp only [if_true] at hq' ⊢
    exact hq' t s.toks
end
def tReplN (to : TE) (y z : Str) (n : Nat) : TE := fun σ H Q => to σ H fun v H1 => ∃ x, v = .str x ∧ x.length + n * z.length ≤ 16777216 ∧ Q (.str (replN x y z n)) H1
section
variable {X : Cx} {o e f : Expr} {te tf to : TE} {y z : Str} {j k l : Nat} {c0 c1 c2 apos pos p p' : Pos} {es : List Expr} {ta : TA}
theorem pet_replN {n : Nat} (ho : PE X o to) (hyz : (y == z) = false := by decide) (hn : n < 100000 := by decide)
    (hbase : attributeBase o "replace" X.env (eval o X.env) = eval o X.env := by rfl)
    (hfew : ((backTo pos (starEach [.Constant (.str y) j c0, .Constant (.str z) k c1, .Constant (.int (n : Int)) l c2] X.env)).all (fun x => !x.1) && (backToKw pos (keywordEach [] X.env)).all (fun x => x.1.isSome)
      && decide (([.Constant (.str y) j c0, .Constant (.str z) k c1, .Constant (.int (n : Int)) l c2] : List Expr).length + ([] : List Keyword).length + (if ([] : List Keyword).isEmpty then 0 else 1) < 30)) = true := by rfl)
    (hline : (apos.endLine == pos.line) = true := by rfl) :
    PET X (.Call (.Attribute o "replace" apos) [.Constant (.str y) j c0, .Constant (.str z) k c1, .Constant (.int (n : Int)) l c2] [] pos) (tReplN to y z n) := by
  intro pins s σ H Q h0 I h
  refine wpAny_Call_method_late hbase hfew hline rfl (wpAny_mono (PySem.wpAny_toks (ho.run pins s σ H _ I h)) (fun v s1 q => ?_) fun _ _ z => z.2)
  obtain ⟨hk, v', H1, I1, r1, x, e1, hb, q⟩ := q
  subst e1
  obtain ⟨tx, e2⟩ := r1
  subst e2
  refine ⟨"str", _, PySem.F.plainAttrs_str, PySem.F.slot_str_replace, PySem.F.type_str_replace, typeIs_str _ _ _, (fun _ e => nomatch e), Calls.callWith_builtin rfl (Calls.evalArgs_plain ?_)⟩
  show wpAny _ _ (spliced ((false, eval (.Constant (.str y) j c0) X.env) :: (false, eval (.Constant (.str z) k c1) X.env) :: (false, eval (.Constant (.int (n : Int)) l c2) X.env) :: [])) _ _ _
  refine Calls.spliced_cons (Calls.Constant_str (Calls.spliced_cons (Calls.Constant_str (Calls.spliced_cons (wpAny_Constant_int (Calls.spliced_nil ?_))))))
  exact call_replN (by show s1.toks ≠ 0; omega) (by show s1.toks + 1 ≠ 0; omega) (by show s1.toks ≠ s1.toks + 1; omega) hyz hn hb fun t' k => ⟨.str (replN x y z n), H1, I1.tok k, ⟨t', rfl⟩, q⟩
def PE1 (X : Cx) (e : Expr) (t : TE) : Prop :=
  ∀ (pins : List (Addr × Obj)) (s : Shared) (σ : L2.St) (H : Hp) (Q : VK), Inv X pins σ H s → t σ H Q → wpAny (model X.prog X.w) X.A (eval e X.env) (fun v s' => 1 ≤ s'.toks ∧ EP X pins σ Q v s') X.xe s
def PA1 (X : Cx) (es : List Expr) (t : TA) : Prop :=
  ∀ (pos : Pos) (pins : List (Addr × Obj)) (s : Shared) (σ : L2.St) (H : Hp) (Q : List V → Hp → Prop), Inv X pins σ H s → t σ H Q → wpAny (model X.prog X.w) X.A (spliced (backTo pos (starEach es X.env))) (fun v s' => 1 ≤ s'.toks ∧ AP X pins σ Q v s') X.xe s
theorem PE1.of {t t' : TE} (h : PE1 X e t) (w : ∀ σ H Q, t' σ H Q → t σ H Q) : PE1 X e t' := fun pins s σ H Q I q => h pins s σ H Q I (w σ H Q q)
theorem PA1.of {t t' : TA} (h : PA1 X es t) (w : ∀ σ H Q, t' σ H Q → t σ H Q) : PA1 X es t' := fun pos pins s σ H Q I q => h pos pins s σ H Q I (w σ H Q q)
theorem PET.of' {t t' : TE} (h : PET X e t) (w : ∀ σ H Q, t' σ H Q → t σ H Q) : PET X e t' := fun pins s σ H Q h0 I q => h pins s σ H Q h0 I (w σ H Q q)
theorem PAT.of' {t t' : TA} (h : PAT X es t) (w : ∀ σ H Q, t' σ H Q → t σ H Q) : PAT X es t' := fun pos pins s σ H Q h0 I q => h pos pins s σ H Q h0 I (w σ H Q q)
theorem pe1_str {x : Str} : PE1 X (.Constant (.str x) j p) (tC (.str x)) := fun pins s σ H Q I h => Calls.Constant_str ⟨by show 1 ≤ s.toks + 1; omega, .str x, H, I.tok _, ⟨s.toks, rfl⟩, h⟩
theorem pe1_op {op : Operator} {r : R2} (ho : OpR X (binaryOp op) r) (ha : PE X e te) (hb : PE1 X f tf) : PE1 X (.BinOp e op f pos) (tOp r te tf) := by
  intro pins s σ H Q I h
  refine wpAny_BinOp (thn (ha.run pins s σ H _ I h) fun v s1 ⟨x, H1, I1, r1, q1⟩ => thn (hb pins s1 σ H1 _ I1 q1) fun u s2 ⟨h2, y, H2, I2, r2, q2⟩ => ?_)
  exact wpAny_mono (PySem.wpAny_toks (ho pins s2 σ H2 x y v u Q I2 r1 r2 q2)) (fun _ _ z => ⟨Nat.le_trans h2 z.1, z.2⟩) fun _ _ z => z.2
theorem pa1_cons (ha : PE1 X e te) (hr : PA X es ta) (hs : starEach (e :: es) X.env = (false, eval e X.env) :: starEach es X.env := by rfl) : PA1 X (e :: es) (tCons te ta) := by
  intro pos pins s σ H Q I h
  rw [hs]
  show wpAny _ _ (spliced ((false, eval e X.env) :: backTo pos (starEach es X.env))) _ _ s
  refine Calls.spliced_cons (thn (ha pins s σ H _ I h) fun u s1 ⟨h1, x, H1, I1, r1, q1⟩ => ?_)
  refine wpAny_mono (PySem.wpAny_toks (hr.run pos pins s1 σ H1 _ I1 q1)) (fun us s2 z => ?_) fun _ _ z => z.2
  obtain ⟨hk, xs, H2, I2, r2, q2⟩ := z
  exact ⟨Nat.le_trans h1 hk, x :: xs, H2, I2, .cons r1 r2, q2⟩
theorem pe1_lst (h : PA1 X es ta) : PE1 X (.List es pos) (tLst ta) := by
  intro pins s σ H Q I hq
  refine wpAny_List_spliced (thn (h pos pins s σ H _ I hq) fun us s1 ⟨h1, xs, H1, I1, r, z, q⟩ => ⟨by rw [← r.length]; exact z, ?_⟩)
  have hf : H1 s1.heap.objs.size = none := I1.hok.fresh (Nat.le_refl _)
  refine ⟨h1, .ref s1.heap.objs.size, upd H1 s1.heap.objs.size (.lst xs), I1.laid (t' := s1.toks) (fun b u e => Heap.get?_push_of_some _ e) (Nat.le_refl _) ?_, rfl, q _ hf⟩
  exact ⟨z, us, 0, r, Heap.get?_push_size _ rfl⟩
/-- x = e, behind it a token is out -/
theorem pss_set1 {i : Nat} {x : Str} {rest : List Stmt} {u : TS} {pos' : Pos} (hN : X.N.Nodup) (hi : X.N[i]? = some x) (hx : Loc X.env.scope x) (he : PE1 X e te) (h2 : PSsT X rest u)
    (hs : swapsWith e (some (.Name x pos')) pos.line X.env = pure false := by rfl) (hf : X.fn x = true ∨ X.env.scope.names.lookup x = some .local := by first | exact .inl rfl | exact .inr rfl | assumption) :
    PSs X (.Assign [.Name x pos'] e pos :: rest) (tSeq (tAsg te (gName i)) u) := by
  refine ⟨fun pins s σ H D I h => ?_⟩
  refine wpAny_execs_cons (wpAny_Assign_Name (thn (he pins s σ H _ I h) fun v s1 ⟨h1, y, H1, I1, r1, q1⟩ => ?_) hs)
  refine wpAny_mono (PySem.wpAny_toks (store_ok (Q := fun _ s2 => Inv X pins (σ.set i (some y)) H1 s2) I1 hN hi hx r1 (fun _ I2 => I2) hf)) (fun _ s2 q => ?_) fun _ _ z => z.2
  exact h2 pins s2 _ H1 D (Nat.le_trans h1 q.1) q.2 q1
theorem pat_one (ha : PET X e te) (hs : starEach [e] X.env = (false, eval e X.env) :: starEach [] X.env := by rfl) : PAT X [e] (tCons te tNil) := pat_cons ha pat_nil hs
theorem pet_bm {T : String} {name : Str} {id : String} {r : V → List V → Hp → VK → Prop} {cpos : Pos} (pa : PlainAttrs T) (slot : Slot T name id) (hty : typeOf (.builtin id) = pure (.type "method_descriptor")) (hm : MtR X id r) (ho : PE X o to) (ha : PAT X (e :: es) ta)
    (hbase : attributeBase o name X.env (eval o X.env) = eval o X.env := by rfl)
    (hfew : ((backTo cpos (starEach (e :: es) X.env)).all (fun x => !x.1) && (backToKw cpos (keywordEach [] X.env)).all (fun x => x.1.isSome)
      && decide ((e :: es).length + ([] : List Keyword).length + (if ([] : List Keyword).isEmpty then 0 else 1) < 30)) = true := by rfl)
    (hline : (apos.endLine == cpos.line) = true := by rfl) (hs : starEach (e :: es) X.env = (false, eval e X.env) :: starEach es X.env := by rfl) (hplain : (backTo cpos (starEach es X.env)).any (·.1) = false := by rfl) :
    PET X (.Call (.Attribute o name apos) (e :: es) [] cpos) (tBM X.K T r to ta) := by
  intro pins s σ H Q h0 I h
  refine wpAny_Call_method_late hbase hfew hline rfl (wpAny_mono (PySem.wpAny_toks (ho.run pins s σ H _ I h)) (fun v s1 zz => ?_) fun _ _ z => z.2)
  obtain ⟨hk, x, H1, I1, r1, ty, q1⟩ := zz
  obtain ⟨h1, h2⟩ := tyV_is I1 r1 ty
  refine ⟨T, id, pa, slot, hty, h1, h2, ?_⟩
  have hA := ha cpos pins s1 σ H1 _ (Nat.le_trans h0 hk) I1 q1
  rw [hs] at hA ⊢
  refine Calls.callWith_builtin (by show (false || (backTo cpos (starEach es X.env)).any (·.1)) = false; rw [hplain] <;> rfl) (Calls.evalArgs_plain ?_)
  exact thn hA fun us s2 ⟨vs, H2, I2, r2, q2⟩ => hm pins s2 σ H2 x vs v us Q I2 r1 r2 q2
theorem pst_expr (he : PET X e te) (hs : swapsWith e none pos.line X.env = pure false := by rfl) : PST X (.Expr e pos) (tDrop te) := by
  intro pins s σ H D h0 I h
  exact wpAny_Expr_any (thn (he pins s σ H _ h0 I h) fun v s1 ⟨x, H1, I1, r1, q1⟩ => ⟨σ, H1, I1, q1⟩) I.quiet hs
theorem pe_upper0 (ho : PE X o to) (hbase : attributeBase o "upper" X.env (eval o X.env) = eval o X.env := by rfl) (hline : (apos.endLine == pos.line) = true := by rfl) :
    PE X (.Call (.Attribute o "upper" apos) [] [] pos) (fun σ H Q => to σ H fun v H1 => ∃ x, v = .str x ∧ x.length ≤ 5592405 ∧ Q (.str (Txt.upper x)) H1) := by
  refine ⟨fun pins s σ H Q I h => ?_⟩
  refine J1.ev_upper hbase hline (thn (ho.run pins s σ H _ I h) fun v s1 ⟨x, H1, I1, r1, z, e1, hz, q⟩ => ?_)
  subst e1
  obtain ⟨t, e2⟩ := r1
  subst e2
  exact ⟨z, t, rfl, hz, fun t' k => ⟨.str (Txt.upper z), H1, I1.tok k, ⟨t', rfl⟩, q⟩⟩
end
section
variable {X : Cx} {a b c o e : Expr} {fa fb fc fo fe : DTE} {fr : DTA} {es : List Expr} {pos apos p p' : Pos} {y z : Str} {j k l : Nat} {c0 c1 c2 : Pos}
structure DE1 (X : Cx) (e : Expr) (f : DTE) : Prop where
  pe : PE1 X e (Lift X f)
  de : DE X e f
structure DA1 (X : Cx) (es : List Expr) (f : DTA) : Prop where
  pa : PA1 X es (LiftA X f)
  da : DA X es f
structure DET (X : Cx) (e : Expr) (f : DTE) : Prop where
  pe : PET X e (Lift X f)
  mono : ∀ ρ M (Q Q' : DK), (∀ d M, Q d M → Q' d M) → f ρ M Q → f ρ M Q'
structure DAT (X : Cx) (es : List Expr) (f : DTA) : Prop where
  pa : PAT X es (LiftA X f)
  mono : ∀ ρ M (Q Q' : List D → Sto → Prop), (∀ d M, Q d M → Q' d M) → f ρ M Q → f ρ M Q'
structure DST (X : Cx) (st : Stmt) (f : DTS) : Prop where
  ps : PST X st (LiftS X f)
  mono : MonoS f
structure DSsT (X : Cx) (sts : List Stmt) (f : DTS) : Prop where
  ps : PSsT X sts (LiftS X f)
  mono : MonoS f
theorem d1_str {x : Str} : DE1 X (.Constant (.str x) j pos) (dC (.str x)) := ⟨pe1_str.of fun _ H _ ⟨_, _, al, F, _, W, _, q⟩ => q al F H _ (Ext.refl _ _) W (.str x), d_str⟩
theorem tOp_of {op : Value → Value → Sem Value} {g : G2} (ho : O2 X op g) (ha : DE X a fa) (hb : DE X b fb) {σ : L2.St} {H : Hp} {Q : VK} (h : Lift X (dBin g fa fb) σ H Q) : tOp (r2 X.K g) (Lift X fa) (Lift X fb) σ H Q := by
  obtain ⟨ρ, M, al, F, G, W, s, q⟩ := h
  refine ha.seq W s q fun dx M1 al1 F1 H1 v q1 e1 W1 r1 s1 => ?_
  refine hb.seq W1 s1 q1 fun dy M2 al2 F2 H2 u q2 e2 W2 r2 s2 => ?_
  exact ⟨dx, dy, al2, F2, G, M2, W2, r1.ext e2, r2, ho.mono _ _ _ _ _ (fun d M3 k => k.ext (e1.trans e2)) q2⟩
theorem d1_op {op : Operator} {g : G2} (ho : O2 X (binaryOp op) g) (ha : DE X a fa) (hb : DE1 X b fb) : DE1 X (.BinOp a op b pos) (dBin g fa fb) :=
  ⟨(pe1_op ho.opR ha.pe hb.pe).of fun _ _ _ h => tOp_of ho ha hb.de h, d_op ho ha hb.de⟩
theorem da1_cons (ha : DE1 X a fa) (hr : DA X es fr) (hs : starEach (a :: es) X.env = (false, eval a X.env) :: starEach es X.env := by rfl) : DA1 X (a :: es) (dCons fa fr) :=
  ⟨(pa1_cons ha.pe hr.pa hs).of fun σ H Q ⟨ρ, M, al, F, G, W, s, q⟩ => by
    refine ha.de.seq W s q fun dx M1 al1 F1 H1 v q1 e1 W1 r1 s1 => ?_
    refine hr.seq W1 s1 q1 fun dy M2 al2 F2 H2 u q2 e2 W2 r2 s2 => ?_
    exact q2 al2 F2 H2 _ (e1.trans e2) W2 (.cons (r1.ext e2) r2), d_cons ha.de hr hs⟩
theorem d1_lst (h : DA1 X es fr) : DE1 X (.List es pos) (dLst fr) :=
  ⟨(pe1_lst h.pa).of fun σ H Q ⟨ρ, M, al, F, G, W, s, q⟩ => h.da.seq W s q fun ds M1 al1 F1 H1 vs q1 e1 W1 r1 s1 => ⟨le_line (by rw [r1.length]; exact q1.1), fun p hp => kont.lst (kont.ext q1.2 e1) W1 r1 hp⟩, d_lst h.da⟩
/-- o.replace(y, z, n) -/
@[reducible] def dReplN (y z : Str) (n : Nat) (fo : DTE) : DTE := fun ρ M Q => fo ρ M fun d M1 => match d with
  | .str x => x.length + n * z.length ≤ 16777216 ∧ Q (.str (replN x y z n)) M1
  | _ => False
theorem det_replN {n : Nat} (ho : DE X o fo) (hyz : (y == z) = false := by decide) (hn : n < 100000 := by decide)
    (hbase : attributeBase o "replace" X.env (eval o X.env) = eval o X.env := by rfl)
    (hfew : ((backTo pos (starEach [.Constant (.str y) j c0, .Constant (.str z) k c1, .Constant (.int (n : Int)) l c2] X.env)).all (fun x => !x.1) && (backToKw pos (keywordEach [] X.env)).all (fun x => x.1.isSome)
      && decide (([.Constant (.str y) j c0, .Constant (.str z) k c1, .Constant (.int (n : Int)) l c2] : List Expr).length + ([] : List Keyword).length + (if ([] : List Keyword).isEmpty then 0 else 1) < 30)) = true := by rfl)
    (hline : (apos.endLine == pos.line) = true := by rfl) :
    DET X (.Call (.Attribute o "replace" apos) [.Constant (.str y) j c0, .Constant (.str z) k c1, .Constant (.int (n : Int)) l c2] [] pos) (dReplN y z n fo) := by
  refine ⟨PET.of' (pet_replN ho.pe hyz hn hbase hfew hline) fun σ H Q ⟨ρ, M, al, F, G, W, s, q⟩ => ?_, fun ρ M Q Q' w q => ho.mono _ _ _ _ (fun d M1 q1 => ?_) q⟩
  · refine ho.seq W s q fun d M1 al1 F1 H1 v q1 e1 W1 r1 s1 => ?_
    cases r1 with
    | str x => exact ⟨x, rfl, q1.1, q1.2 al1 F1 H1 _ e1 W1 (.str _)⟩
    | _ => exact q1.elim
  · cases d with
    | str x => exact ⟨q1.1, w _ _ q1.2⟩
    | _ => exact q1.elim
theorem det_op {op : Operator} {g : G2} (ho : O2 X (binaryOp op) g) (ha : DET X a fa) (hb : DE X b fb) : DET X (.BinOp a op b pos) (dBin g fa fb) := by
  refine ⟨PET.of' (CwR.pet_op ho.opR ha.pe (CwR.PET.of hb.pe)) fun σ H Q ⟨ρ, M, al, F, G, W, s, q⟩ => ?_, fun ρ M Q Q' w q => ha.mono _ _ _ _ (fun x M1 q1 => hb.mono _ _ _ _ (fun y M2 q2 => ho.mono x y M2 Q Q' w q2) q1) q⟩
  refine ⟨ρ, M, al, F, G, W, s, ha.mono _ _ _ _ (fun dx M1 q1 al1 F1 H1 v e1 W1 r1 => ?_) q⟩
  refine hb.seq W1 (s.ext e1) q1 fun dy M2 al2 F2 H2 u q2 e2 W2 r2 s2 => ?_
  exact ⟨dx, dy, al2, F2, G, M2, W2, r1.ext e2, r2, ho.mono _ _ _ _ _ (fun d M3 k => k.ext (e1.trans e2)) q2⟩
theorem dat_one (ha : DET X a fa) (hs : starEach [a] X.env = (false, eval a X.env) :: starEach [] X.env := by rfl) : DAT X [a] (dCons fa dNil) := by
  refine ⟨PAT.of' (pat_one ha.pe hs) fun σ H Q ⟨ρ, M, al, F, G, W, s, q⟩ => ?_, fun ρ M Q Q' w q => ha.mono _ _ _ _ (fun x M1 q1 => w _ _ q1) q⟩
  exact ⟨ρ, M, al, F, G, W, s, ha.mono _ _ _ _ (fun dx M1 q1 al1 F1 H1 v e1 W1 r1 => q1 al1 F1 H1 _ e1 W1 (.cons r1 .nil)) q⟩
theorem DAT.seq {e : List Expr} {f : DTA} (h : DAT X e f) {ρ : Dn} {M : Sto} {al : List Addr} {F G H : Hp} {σ : L2.St} {R : List D → Sto → Prop} {P : List V → Hp → Prop} (W : Wd X.K al F G H M) (s : Es X F G al σ ρ) (q : f ρ M R)
    (k : ∀ d M1 al1 F1 H1 v, R d M1 → Ext al F al1 F1 → Wd X.K al1 F1 G H1 M1 → Rps X.K F1 al1 v d → Es X F1 G al1 σ ρ → P v H1) : LiftA X f σ H P :=
  ⟨ρ, M, al, F, G, W, s, h.mono _ _ _ _ (fun d M1 r al1 F1 H1 v e W1 rp => k d M1 al1 F1 H1 v r e W1 rp (s.ext e)) q⟩
/-- o.append(e) as a statement, a token being out -/
theorem dst_append {cpos : Pos} (ho : DE X o fo) (hr : DAT X [e] fr) (hsw : swapsWith (.Call (.Attribute o "append" apos) [e] [] cpos) none pos.line X.env = pure false := by rfl) (hb : attributeBase o "append" X.env (eval o X.env) = eval o X.env := by rfl)
    (h2 : ((backTo cpos (starEach [e] X.env)).all (fun x => !x.1) && (backToKw cpos (keywordEach [] X.env)).all (fun x => x.1.isSome) && decide ([e].length + ([] : List Keyword).length + (if ([] : List Keyword).isEmpty = true then 0 else 1) < 30)) = true := by rfl)
    (h3 : (apos.endLine == cpos.line) = true := by rfl) (h4 : starEach [e] X.env = (false, eval e X.env) :: starEach [] X.env := by rfl) (h5 : (backTo cpos (starEach [] X.env)).any (·.1) = false := by rfl) :
    DST X (.Expr (.Call (.Attribute o "append" apos) [e] [] cpos) pos) (dDrop (dMt stApp fo fr)) := by
  have hm : ∀ ρ M (Q Q' : DK), (∀ d M, Q d M → Q' d M) → dMt stApp fo fr ρ M Q → dMt stApp fo fr ρ M Q' := fun ρ M Q Q' w q => ho.mono _ _ _ _ (fun d M1 q1 => by
    cases d <;> first | exact q1.elim | skip
    refine ⟨q1.1, hr.mono _ _ _ _ (fun ys M2 q2 => ?_) q1.2⟩
    try dsimp only at q2 ⊢
    split at q2
    · exact stApp_mono _ _ _ _ (fun a b k => w _ _ k) q2
    · exact q2.elim) q
  have ht : PET X (.Call (.Attribute o "append" apos) [e] [] cpos) (Lift X (dMt stApp fo fr)) := PET.of' (pet_bm PySem.F.plainAttrs_list PySem.F.slot_list_append PySem.F.type_list_append mt_append ho.pe hr.pa hb h2 h3 h4 h5) fun σ H Q ⟨ρ, M, al, F, G, W, s, q⟩ => by
    refine ho.seq W s q fun d M1 al1 F1 H1 v q1 e1 W1 r1 s1 => ?_
    cases d <;> first | exact q1.elim | skip
    obtain ⟨ds, e⟩ := q1.1.ex
    obtain ⟨p, xs, rfl, hp, hx, rs⟩ := cell_ok W1 r1 e
    refine ⟨.inl ⟨rfl, xs, SqL.of hx⟩, hr.seq W1 s1 q1.2 fun ys M2 al2 F2 H2 us q2 e2 W2 r2 s2 => ?_⟩
    try dsimp only at q2
    split at q2
    · next ds2 c2 =>
      obtain ⟨p2, xs2, z, hp2, hx2, rs2⟩ := cell_ok W2 (r1.ext e2) c2
      cases z
      unfold stApp at q2
      split at q2
      · cases r2 with
        | cons a b =>
          cases b
          exact ⟨_, _, _, rfl, rfl, hx2, lt_line (by rw [rs2.length]; exact q2.1), q2.2 al2 F2 _ _ (e1.trans e2) (W2.write hp2 ⟨_, upd_same, rs2.append (.cons a .nil)⟩) .non⟩
      · exact q2.elim
    · exact q2.elim
  refine ⟨fun pins s σ H D h0 I ⟨ρ, M, al, F, G, W, es, q⟩ => pst_expr ht hsw pins s σ H D h0 I ⟨ρ, M, al, F, G, W, es, hm _ _ _ _ (fun d M1 q1 al1 F1 H1 v e1 W1 r1 => q1 al1 F1 H1 σ e1 W1 (es.ext e1).sl rfl) q⟩, fun D D' ρ M w q => hm _ _ _ _ (fun d M1 q1 => w.nx _ _ q1) q⟩
theorem dsst_one {st : Stmt} {f : DTS} (h : DST X st f) : DSsT X [st] f := ⟨CwR.psst_one h.ps, h.mono⟩
/-- x = e; .. -/
theorem dss_set1 (i : Nat) {x : Str} {rest : List Stmt} {g : DTS} {pos' : Pos} (hN : X.N.Nodup) (he : DE1 X e fe) (h2 : DSsT X rest g) (hi : X.N[i]? = some x := by rfl) (hx : Loc X.env.scope x := by first | exact Or.inl rfl | exact Or.inr rfl)
    (hs : swapsWith e (some (.Name x pos')) pos.line X.env = pure false := by rfl) (hf : X.fn x = true ∨ X.env.scope.names.lookup x = some .local := by first | exact .inl rfl | exact .inr rfl) :
    DSs X (.Assign [.Name x pos'] e pos :: rest) (dSeq (dAsg fe (dgName i)) g) := by
  refine ⟨PSs.of (pss_set1 hN hi hx he.pe h2.ps hs hf) fun E σ H ⟨ρ, M, al, F, G, W, es, q⟩ => ?_, fun D D' ρ M w q => he.de.mono _ _ _ _ (fun d M1 q1 => h2.mono _ _ _ _ w q1) q⟩
  exact he.de.seq W es q fun d M1 al1 F1 H1 v q1 e1 W1 r1 s1 => ⟨_, M1, al1, F1, G, W1, s1.set r1 i, MonoS.up h2.mono q1 (kontS_ext e1)⟩
/-- o.upper() -/
@[reducible] def dUpper (fo : DTE) : DTE := fun ρ M Q => fo ρ M fun d M1 => match d with
  | .str x => x.length ≤ 5592405 ∧ Q (.str (Txt.upper x)) M1
  | _ => False
theorem d_upper (ho : DE X o fo) (hbase : attributeBase o "upper" X.env (eval o X.env) = eval o X.env := by rfl) (hline : (apos.endLine == pos.line) = true := by rfl) : DE X (.Call (.Attribute o "upper" apos) [] [] pos) (dUpper fo) := by
  refine ⟨PE.of (pe_upper0 ho.pe hbase hline) fun σ H Q ⟨ρ, M, al, F, G, W, s, q⟩ => ?_, fun ρ M Q Q' w q => ho.mono _ _ _ _ (fun d M1 q1 => ?_) q⟩
  · refine ho.seq W s q fun d M1 al1 F1 H1 v q1 e1 W1 r1 s1 => ?_
    cases r1 with
    | str x => exact ⟨x, rfl, q1.1, q1.2 al1 F1 H1 _ e1 W1 (.str _)⟩
    | _ => exact q1.elim
  · cases d with
    | str x => exact ⟨q1.1, w _ _ q1.2⟩
    | _ => exact q1.elim
end
end DL
set_option maxHeartbeats 1000000
namespace DL
open PySem PySem.Spec PyProof.Rows L2
end DL
namespace Law
open PySem PySem.Spec PyProof.Rows L2 DL MT
local macro_rules | `(tactic| walk_at "go1") => `(tactic| ((repeat (first | (with_reducible conv => whnf); (simp only [lk_states, lk_tables, lk_notes, lk_standing, lk_watching, seqDs_lt, seqDs_tt, seqDs_tl, seqDs_ll, seqD_tup, seqD_lst, tyNm_non, tyNm_bl, tyNm_int, tyNm_str, tyNm_tup, tyNm_lst, tyNm_dct, tabInt_NoneType, tabInt_bool, tabInt_int, tabInt_str, tabInt_tuple, tabInt_list, tabInt_dict, tabBool_NoneType, tabBool_bool, tabBool_int, tabBool_str, tabBool_tuple, tabBool_list, tabBool_dict, tabTuple_NoneType, tabTuple_bool, tabTuple_int, tabTuple_str, tabTuple_tuple, tabTuple_list, tabTuple_dict, tabStr_NoneType, tabStr_bool, tabStr_int, tabStr_str, tabStr_tuple, tabStr_list, tabStr_dict, tabList_NoneType, tabList_bool, tabList_int, tabList_str, tabList_tuple, tabList_list, tabList_dict, vw_tup, vw_lst, vw_int, vw_str, vw_bl, vw_non, get_ga, get_gb, set_ga, set_gb, range_2, gTru, decide_true, len_snoc, get_newS, set_newS, List.getLast?_concat, rng_two, List.dropLast_concat, List.flatten_cons, List.flatten_nil, Bool.false_eq_true, reduceIte, Bool.not_true, Bool.not_false, get_new, get_new1, set_new, set_new1, atI_back, atI_back2, Int.zero_add, itemsOf_tup, itemsOf_lst, itemsOf_ref, seqOf_lst, seqOf_ref, lenOf_tup, lenOf_lst, lenOf_ref, List.getElem?_cons_zero, List.getElem?_cons_succ, List.set_cons_zero, List.set_cons_succ, List.cons_append, List.nil_append, List.length_cons, List.length_nil, List.length_map, List.length_append, Nat.zero_add, atI_0, atI_1, atI_2, atI_3, ixN_0, ixN_1, Option.bind_some, Option.map_some, Bool.xor_false, Bool.xor_true, startD, DL.isNon, List.map_cons, List.map_nil, List.replicate_succ, List.replicate_zero, List.append_nil, Nat.reduceAdd, Nat.reduceSub, Int.reduceToNat, Int.reducePow, Int.reduceNeg, Int.reduceSub, Int.reduceAdd, Int.reduceMul, wipeD]) | (with_reducible conv => whnf); (with_reducible refine And.intro ?side ?_); (case side => first | (with_reducible assumption) | (with_reducible rfl) | omega | decide | (exact ⟨by omega, by omega, by omega⟩) | (exact ⟨by omega, by omega⟩) | (unfold CMul; omega) | (exact ⟨_, get_new _ _⟩) | (exact ⟨_, get_new1 _ _ _⟩) | (exact ⟨_, get_newS _ _ _⟩) | (exact ⟨_, get_ga _ _ _ _⟩) | (exact ⟨_, get_gb _ _ _ _ _⟩) | (exact ⟨_, rfl⟩)))); (with_reducible conv => whnf)))
local macro_rules | `(tactic| walk_at "go4") => `(tactic| ((repeat (first | (simp only [dSeq, dAsg, dBin, dUn, dVar, dC, dNil, dCons, dApp, dTru, dBl, dAnd, dOr, dNot, dAndV, dOrV, dNotV, dIf, dIfS, dNext, dDrop, dRet, dRetN, dPar, dPar3, dgName, dgNil, dgCons, dgTup, dgSub, dTup, dLst, dLstM, dStar, dSl, dSlS, dNoPart, dPart, dMt, dMt0, stApp, stPop, dExt, diEnum, diEnum2, diEnumR, gMulA, dChain, dCall, dIsi, dYes, diSeq, diStr, dM1, dIsiC, gEqI, dgStar1L, dNeverE, dOrT, diR1, diR2, diR3, diZip, g1, g2I, gI0, gInt, gAdd, gMul, gMulM, gAddM, gNeg, gLen, lenOf, gTuple, gList, gAbs, gIx, gSl, gTru, gIsN, gInt1, gStrI, seqOf, itemsOf, spF, List.map_cons, List.map_nil, List.length_cons, List.length_nil, List.append_nil, List.cons_append, List.nil_append, List.getElem?_cons_zero, List.getElem?_cons_succ, List.set_cons_zero, List.set_cons_succ, Nat.reduceAdd, Nat.reduceSub, Option.bind_some, Option.map_some, Bool.xor_false, Bool.xor_true, dRevT, lk_states, lk_tables, lk_notes, lk_standing, lk_watching, seqDs_lt, seqDs_tt, seqDs_tl, seqDs_ll, seqD_tup, seqD_lst, tyNm_non, tyNm_bl, tyNm_int, tyNm_str, tyNm_tup, tyNm_lst, tyNm_dct, tabInt_NoneType, tabInt_bool, tabInt_int, tabInt_str, tabInt_tuple, tabInt_list, tabInt_dict, tabBool_NoneType, tabBool_bool, tabBool_int, tabBool_str, tabBool_tuple, tabBool_list, tabBool_dict, tabTuple_NoneType, tabTuple_bool, tabTuple_int, tabTuple_str, tabTuple_tuple, tabTuple_list, tabTuple_dict, tabStr_NoneType, tabStr_bool, tabStr_int, tabStr_str, tabStr_tuple, tabStr_list, tabStr_dict, tabList_NoneType, tabList_bool, tabList_int, tabList_str, tabList_tuple, tabList_list, tabList_dict, vw_tup, vw_lst, vw_int, vw_str, vw_bl, vw_non, get_ga, get_gb, set_ga, set_gb, range_2, decide_true, len_snoc, get_newS, set_newS, List.getLast?_concat, rng_two, List.dropLast_concat, Bool.false_eq_true, reduceIte, Bool.not_true, Bool.not_false, get_new, get_new1, set_new, set_new1, atI_back, atI_back2, Int.zero_add, itemsOf_tup, itemsOf_lst, itemsOf_ref, seqOf_lst, seqOf_ref, lenOf_tup, lenOf_lst, lenOf_ref, List.length_map, List.length_append, Nat.zero_add, atI_0, atI_1, atI_2, atI_3, ixN_0, ixN_1, DL.isNon, Int.reduceToNat, Int.reducePow, Int.reduceNeg, Int.reduceSub, Int.reduceAdd, Int.reduceMul]) | (with_reducible refine And.intro ?side ?_); (case side => first | (with_reducible assumption) | (with_reducible rfl) | omega | decide | (exact ⟨by omega, by omega, by omega⟩) | (exact ⟨by omega, by omega⟩) | (unfold CMul; omega) | (exact ⟨_, get_new _ _⟩) | (exact ⟨_, get_new1 _ _ _⟩) | (exact ⟨_, get_newS _ _ _⟩) | (exact ⟨_, get_ga _ _ _ _⟩) | (exact ⟨_, get_gb _ _ _ _ _⟩) | (exact ⟨_, rfl⟩))))))
local macro_rules | `(tactic| walk_at "go3") => `(tactic| ((repeat (first | (with_reducible conv => whnf); (simp only [lk_states, lk_tables, lk_notes, lk_standing, lk_watching, seqDs_lt, seqDs_tt, seqDs_tl, seqDs_ll, seqD_tup, seqD_lst, tyNm_non, tyNm_bl, tyNm_int, tyNm_str, tyNm_tup, tyNm_lst, tyNm_dct, tabInt_NoneType, tabInt_bool, tabInt_int, tabInt_str, tabInt_tuple, tabInt_list, tabInt_dict, tabBool_NoneType, tabBool_bool, tabBool_int, tabBool_str, tabBool_tuple, tabBool_list, tabBool_dict, tabTuple_NoneType, tabTuple_bool, tabTuple_int, tabTuple_str, tabTuple_tuple, tabTuple_list, tabTuple_dict, tabStr_NoneType, tabStr_bool, tabStr_int, tabStr_str, tabStr_tuple, tabStr_list, tabStr_dict, tabList_NoneType, tabList_bool, tabList_int, tabList_str, tabList_tuple, tabList_list, tabList_dict, vw_tup, vw_lst, vw_int, vw_str, vw_bl, vw_non, get_ga, get_gb, set_ga, set_gb, range_2, gTru, decide_true, len_snoc, get_newS, set_newS, List.getLast?_concat, rng_two, List.dropLast_concat, Bool.false_eq_true, reduceIte, Bool.not_true, Bool.not_false, get_new, get_new1, set_new, set_new1, atI_back, atI_back2, Int.zero_add, itemsOf_tup, itemsOf_lst, itemsOf_ref, seqOf_lst, seqOf_ref, lenOf_tup, lenOf_lst, lenOf_ref, List.getElem?_cons_zero, List.getElem?_cons_succ, List.set_cons_zero, List.set_cons_succ, List.cons_append, List.nil_append, List.length_cons, List.length_nil, List.length_map, List.length_append, Nat.zero_add, atI_0, atI_1, atI_2, atI_3, ixN_0, ixN_1, Option.bind_some, Option.map_some, Bool.xor_false, Bool.xor_true, startD, DL.isNon, List.map_cons, List.map_nil, List.append_nil, Nat.reduceAdd, Nat.reduceSub, Int.reduceToNat, Int.reducePow, Int.reduceNeg, Int.reduceSub, Int.reduceAdd, Int.reduceMul, wipeD]) | (with_reducible conv => whnf); (with_reducible refine And.intro ?side ?_); (case side => first | (with_reducible assumption) | (with_reducible rfl) | omega | decide | (exact ⟨by omega, by omega, by omega⟩) | (exact ⟨by omega, by omega⟩) | (unfold CMul; omega) | (exact ⟨_, get_new _ _⟩) | (exact ⟨_, get_new1 _ _ _⟩) | (exact ⟨_, get_newS _ _ _⟩) | (exact ⟨_, get_ga _ _ _ _⟩) | (exact ⟨_, get_gb _ _ _ _ _⟩) | (exact ⟨_, rfl⟩)))); (with_reducible conv => whnf)))
local macro_rules | `(tactic| walk_at "go2") => `(tactic| ((repeat (first | (with_reducible conv => whnf); (simp only [lk_states, lk_tables, lk_notes, lk_standing, lk_watching, seqDs_lt, seqDs_tt, seqDs_tl, seqDs_ll, seqD_tup, seqD_lst, tyNm_non, tyNm_bl, tyNm_int, tyNm_str, tyNm_tup, tyNm_lst, tyNm_dct, tabInt_NoneType, tabInt_bool, tabInt_int, tabInt_str, tabInt_tuple, tabInt_list, tabInt_dict, tabBool_NoneType, tabBool_bool, tabBool_int, tabBool_str, tabBool_tuple, tabBool_list, tabBool_dict, tabTuple_NoneType, tabTuple_bool, tabTuple_int, tabTuple_str, tabTuple_tuple, tabTuple_list, tabTuple_dict, tabStr_NoneType, tabStr_bool, tabStr_int, tabStr_str, tabStr_tuple, tabStr_list, tabStr_dict, tabList_NoneType, tabList_bool, tabList_int, tabList_str, tabList_tuple, tabList_list, tabList_dict, vw_tup, vw_lst, vw_int, vw_str, vw_bl, vw_non, get_ga, get_gb, set_ga, set_gb, range_2, gTru, decide_true, len_snoc, get_newS, set_newS, List.getLast?_concat, rng_two, List.dropLast_concat, List.flatten_cons, List.flatten_nil, Bool.false_eq_true, reduceIte, Bool.not_true, Bool.not_false, get_new, get_new1, set_new, set_new1, atI_back, atI_back2, Int.zero_add, itemsOf_tup, itemsOf_lst, itemsOf_ref, seqOf_lst, seqOf_ref, lenOf_tup, lenOf_lst, lenOf_ref, List.getElem?_cons_zero, List.getElem?_cons_succ, List.set_cons_zero, List.set_cons_succ, List.cons_append, List.nil_append, List.length_cons, List.length_nil, List.length_map, List.length_append, Nat.zero_add, atI_0, atI_1, atI_2, atI_3, ixN_0, ixN_1, Option.bind_some, Option.map_some, Bool.xor_false, Bool.xor_true, startD, DL.isNon, List.map_cons, List.map_nil, List.replicate_succ, List.replicate_zero, List.append_nil, Nat.reduceAdd, Nat.reduceSub, Int.reduceToNat, Int.reducePow, Int.reduceNeg, Int.reduceSub, Int.reduceAdd, Int.reduceMul, wipeD, get_dkA, get_dkB, get_dkC, set_dkA, set_dkB, set_dkC, intsOf_ints, eqv_tabs]) | (with_reducible conv => whnf); (with_reducible refine And.intro ?side ?_); (case side => first | (with_reducible assumption) | (with_reducible rfl) | omega | decide | (exact ⟨by omega, by omega, by omega⟩) | (exact ⟨by omega, by omega⟩) | (unfold CMul; omega) | (exact ⟨_, get_new _ _⟩) | (exact ⟨_, get_new1 _ _ _⟩) | (exact ⟨_, get_newS _ _ _⟩) | (exact ⟨_, get_ga _ _ _ _⟩) | (exact ⟨_, get_gb _ _ _ _ _⟩) | (exact ⟨_, get_dkA _ _ _ _ _⟩) | (exact ⟨_, get_dkB _ _ _ _ _ _⟩) | (exact ⟨_, get_dkC _ _ _ _ _ _ _⟩) | (exact ⟨_, rfl⟩)))); (with_reducible conv => whnf)))
theorem sc_is_number : FnScope ["value", "low", "high"] ["value", "low", "high"] (defScope s_is_number) := ⟨rfl, rfl, rfl, by decide +kernel, rfl, by decide +kernel, by decide +kernel⟩
theorem sc_is_row : FnScope ["index", "value"] ["index", "value"] (defScope s_is_row) := ⟨rfl, rfl, rfl, by decide +kernel, rfl, by decide +kernel, by decide +kernel⟩
theorem sc_tree_error : FnScope ["value", "index", "row"] ["value"] (defScope s_tree_error) := ⟨rfl, rfl, rfl, by decide +kernel, rfl, by decide +kernel, by decide +kernel⟩
theorem sc_is_mark : FnScope ["tree", "value"] ["tree", "value"] (defScope s_is_mark) := ⟨rfl, rfl, rfl, by decide +kernel, rfl, by decide +kernel, by decide +kernel⟩
theorem sc_marks_above : FnScope ["tree", "mark", "found"] ["tree", "mark"] (defScope s_marks_above) := ⟨rfl, rfl, rfl, by decide +kernel, rfl, by decide +kernel, by decide +kernel⟩
theorem sc_way_between : FnScope ["tree", "one", "other", "first", "last"] ["tree", "one", "other"] (defScope s_way_between) := ⟨rfl, rfl, rfl, by decide +kernel, rfl, by decide +kernel, by decide +kernel⟩
theorem sc_distance_between : FnScope ["tree", "one", "other", "way", "mark", "after"] ["tree", "one", "other"] (defScope s_distance_between) := ⟨rfl, rfl, rfl, by decide +kernel, rfl, by decide +kernel, by decide +kernel⟩
theorem sc_is_tick : FnScope ["value"] ["value"] (defScope s_is_tick) := ⟨rfl, rfl, rfl, by decide +kernel, rfl, by decide +kernel, by decide +kernel⟩
theorem sc_is_push : FnScope ["tree", "value"] ["tree", "value"] (defScope s_is_push) := ⟨rfl, rfl, rfl, by decide +kernel, rfl, by decide +kernel, by decide +kernel⟩
theorem sc_check_pushes : FnScope ["tree", "value", "index", "push"] ["tree", "value"] (defScope s_check_pushes) := ⟨rfl, rfl, rfl, by decide +kernel, rfl, by decide +kernel, by decide +kernel⟩
theorem sc_fall_at : FnScope ["tree", "pushes", "mark", "own", "tick"] ["tree", "pushes", "mark"] (defScope s_fall_at) := ⟨rfl, rfl, rfl, by decide +kernel, rfl, by decide +kernel, by decide +kernel⟩
theorem sc_falls_by : FnScope ["tree", "pushes", "mark"] ["tree", "pushes"] (defScope s_falls_by) := ⟨rfl, rfl, rfl, by decide +kernel, rfl, by decide +kernel, by decide +kernel⟩
theorem sc_falls_of : FnScope ["tree", "value"] ["tree", "value"] (defScope s_falls_of) := ⟨rfl, rfl, rfl, by decide +kernel, rfl, by decide +kernel, by decide +kernel⟩
theorem sc_parse_number : FnScope ["word", "figure"] ["word"] (defScope s_parse_number) := ⟨rfl, rfl, rfl, by decide +kernel, rfl, by decide +kernel, by decide +kernel⟩
theorem sc_is_within : FnScope ["value", "low", "high"] ["value", "low", "high"] (defScope s_is_within) := ⟨rfl, rfl, rfl, by decide +kernel, rfl, by decide +kernel, by decide +kernel⟩
theorem sc_with_push : FnScope ["tree", "pushes", "mark", "tick"] ["tree", "pushes", "mark", "tick"] (defScope s_with_push) := ⟨rfl, rfl, rfl, by decide +kernel, rfl, by decide +kernel, by decide +kernel⟩
theorem sc_without_push : FnScope ["pushes", "index"] ["pushes", "index"] (defScope s_without_push) := ⟨rfl, rfl, rfl, by decide +kernel, rfl, by decide +kernel, by decide +kernel⟩
theorem sc_stretched : FnScope ["tree", "mark", "length"] ["tree", "mark", "length"] (defScope s_stretched) := ⟨rfl, rfl, rfl, by decide +kernel, rfl, by decide +kernel, by decide +kernel⟩
theorem sc_table_of : FnScope ["tree", "pushes"] ["tree", "pushes"] (defScope s_table_of) := ⟨rfl, rfl, rfl, by decide +kernel, rfl, by decide +kernel, by decide +kernel⟩
theorem sc__law_deck : FnScope ["_law_script", "_law_cell"] ["_law_script"] (defScope s__law_deck) := ⟨rfl, rfl, rfl, by decide +kernel, rfl, by decide +kernel, by decide +kernel⟩
theorem sc__law_draw : FnScope ["_law_deck_here", "_law_many", "_law_cell", "_law_place"] ["_law_deck_here", "_law_many"] (defScope s__law_draw) := ⟨rfl, rfl, rfl, by decide +kernel, rfl, by decide +kernel, by decide +kernel⟩
theorem sc__law_tree : FnScope ["_law_deck_here", "_law_most", "_law_long", "_law_n", "_law_way", "_law_parents", "_law_k", "_law_parent"] ["_law_deck_here", "_law_most", "_law_long"] (defScope s__law_tree) := ⟨rfl, rfl, rfl, by decide +kernel, rfl, by decide +kernel, by decide +kernel⟩
theorem sc__law_pushes : FnScope ["_law_deck_here", "_law_tree_here", "_law_most", "_law_late", "_law_found", "_law_k", "_law_push"] ["_law_deck_here", "_law_tree_here", "_law_most", "_law_late"] (defScope s__law_pushes) := ⟨rfl, rfl, rfl, by decide +kernel, rfl, by decide +kernel, by decide +kernel⟩
theorem sc__law_state : FnScope ["_law_deck_here", "_law_marks", "_law_most", "_law_far", "_law_tree_here"] ["_law_deck_here", "_law_marks", "_law_most"] (defScope s__law_state) := ⟨rfl, rfl, rfl, by decide +kernel, rfl, by decide +kernel, by decide +kernel⟩
theorem sc__law_odd : FnScope ["_law_deck_here", "_law_some"] ["_law_deck_here"] (defScope s__law_odd) := ⟨rfl, rfl, rfl, by decide +kernel, rfl, by decide +kernel, by decide +kernel⟩
theorem sc__law_lines : FnScope ["_law_word", "_law_good", "_law_found", "_law_line", "_law_bad", "_law_one"] ["_law_word"] (defScope s__law_lines) := ⟨rfl, rfl, rfl, by decide +kernel, rfl, by decide +kernel, by decide +kernel⟩
theorem sc_law : FnScope ["_law_script", "_law_deck_here", "_law_tree_here", "_law_pushes_here", "_law_field", "_law_other", "_law_mark", "_law_tick", "_law_shell", "_law_lines_here", "_law_line"] ["_law_script"] (defScope s_law) := ⟨rfl, rfl, rfl, by decide +kernel, rfl, by decide +kernel, by decide +kernel⟩
theorem sc_Field___init__ : FnScope ["self", "tree", "error"] ["self", "tree"] (defScope s_Field___init__) := ⟨rfl, rfl, rfl, by decide +kernel, rfl, by decide +kernel, by decide +kernel⟩
theorem sc_Field_tree : FnScope ["self"] ["self"] (defScope s_Field_tree) := ⟨rfl, rfl, rfl, by decide +kernel, rfl, by decide +kernel, by decide +kernel⟩
theorem sc_Field_pushes : FnScope ["self"] ["self"] (defScope s_Field_pushes) := ⟨rfl, rfl, rfl, by decide +kernel, rfl, by decide +kernel, by decide +kernel⟩
theorem sc_Field_falls : FnScope ["self"] ["self"] (defScope s_Field_falls) := ⟨rfl, rfl, rfl, by decide +kernel, rfl, by decide +kernel, by decide +kernel⟩
theorem sc_Field___len__ : FnScope ["self"] ["self"] (defScope s_Field___len__) := ⟨rfl, rfl, rfl, by decide +kernel, rfl, by decide +kernel, by decide +kernel⟩
theorem sc_Field___eq__ : FnScope ["self", "other"] ["self", "other"] (defScope s_Field___eq__) := ⟨rfl, rfl, rfl, by decide +kernel, rfl, by decide +kernel, by decide +kernel⟩
theorem sc_Field_note_of : FnScope ["self", "tree", "pushes", "table"] ["self", "tree", "pushes", "table"] (defScope s_Field_note_of) := ⟨rfl, rfl, rfl, by decide +kernel, rfl, by decide +kernel, by decide +kernel⟩
theorem sc_Field_require_idle : FnScope ["self"] ["self"] (defScope s_Field_require_idle) := ⟨rfl, rfl, rfl, by decide +kernel, rfl, by decide +kernel, by decide +kernel⟩
theorem sc_Field_state_after : FnScope ["self", "edit", "tree", "pushes", "word", "values"] ["self", "edit"] (defScope s_Field_state_after) := ⟨rfl, rfl, rfl, by decide +kernel, rfl, by decide +kernel, by decide +kernel⟩
theorem sc_Field_perform : FnScope ["self", "edit", "tree", "pushes", "table"] ["self", "edit"] (defScope s_Field_perform) := ⟨rfl, rfl, rfl, by decide +kernel, rfl, by decide +kernel, by decide +kernel⟩
theorem sc_Field_push : FnScope ["self", "mark", "tick"] ["self", "mark", "tick"] (defScope s_Field_push) := ⟨rfl, rfl, rfl, by decide +kernel, rfl, by decide +kernel, by decide +kernel⟩
theorem sc_Shell___init__ : FnScope ["self", "field"] ["self", "field"] (defScope s_Shell___init__) := ⟨rfl, rfl, rfl, by decide +kernel, rfl, by decide +kernel, by decide +kernel⟩
theorem sc_Shell_answer : FnScope ["self", "name", "push", "tick"] ["self", "name"] (defScope s_Shell_answer) := ⟨rfl, rfl, rfl, by decide +kernel, rfl, by decide +kernel, by decide +kernel⟩
theorem sc_Shell_answer_two : FnScope ["self", "name", "first", "second"] ["self", "name", "first", "second"] (defScope s_Shell_answer_two) := ⟨rfl, rfl, rfl, by decide +kernel, rfl, by decide +kernel, by decide +kernel⟩
theorem sc_Shell_run : FnScope ["self", "words", "name", "rest", "numbers", "word"] ["self", "words"] (defScope s_Shell_run) := ⟨rfl, rfl, rfl, by decide +kernel, rfl, by decide +kernel, by decide +kernel⟩
theorem sc_Shell_execute : FnScope ["self", "line", "found", "error"] ["self", "line"] (defScope s_Shell_execute) := ⟨rfl, rfl, rfl, by decide +kernel, rfl, by decide +kernel, by decide +kernel⟩
structure Tp (K : PySem.W.Frag) (mg : Str → Option Value) : Prop where
  bn : Bn mg
  d__wall : Df K mg "_wall" s__wall
  d_error_name : Df K mg "error_name" s_error_name
  d_is_number : Df K mg "is_number" s_is_number
  d_is_row : Df K mg "is_row" s_is_row
  d_tree_error : Df K mg "tree_error" s_tree_error
  d_is_mark : Df K mg "is_mark" s_is_mark
  d_marks_above : Df K mg "marks_above" s_marks_above
  d_way_between : Df K mg "way_between" s_way_between
  d_distance_between : Df K mg "distance_between" s_distance_between
  d_is_tick : Df K mg "is_tick" s_is_tick
  d_is_push : Df K mg "is_push" s_is_push
  d_check_pushes : Df K mg "check_pushes" s_check_pushes
  d_fall_at : Df K mg "fall_at" s_fall_at
  d_falls_by : Df K mg "falls_by" s_falls_by
  d_falls_of : Df K mg "falls_of" s_falls_of
  d_neighbours_of : Df K mg "neighbours_of" s_neighbours_of
  d_is_needed : Df K mg "is_needed" s_is_needed
  d_needed_pushes : Df K mg "needed_pushes" s_needed_pushes
  d_parse_number : Df K mg "parse_number" s_parse_number
  d_parse_two : Df K mg "parse_two" s_parse_two
  d_push_text : Df K mg "push_text" s_push_text
  d_field_text : Df K mg "field_text" s_field_text
  d_parse_rows : Df K mg "parse_rows" s_parse_rows
  d_parse_field : Df K mg "parse_field" s_parse_field
  d_is_within : Df K mg "is_within" s_is_within
  d_is_edit : Df K mg "is_edit" s_is_edit
  d_with_push : Df K mg "with_push" s_with_push
  d_without_push : Df K mg "without_push" s_without_push
  d_stretched : Df K mg "stretched" s_stretched
  d_table_of : Df K mg "table_of" s_table_of
  d__law_deck : Df K mg "_law_deck" s__law_deck
  d__law_draw : Df K mg "_law_draw" s__law_draw
  d__law_tree : Df K mg "_law_tree" s__law_tree
  d__law_pushes : Df K mg "_law_pushes" s__law_pushes
  d__law_state : Df K mg "_law_state" s__law_state
  d__law_odd : Df K mg "_law_odd" s__law_odd
  d__law_lines : Df K mg "_law_lines" s__law_lines
  d_law : Df K mg "law" s_law
  g_Busy : mg "Busy" = some (.ref (cls mg "Busy"))
  g_BadTick : mg "BadTick" = some (.ref (cls mg "BadTick"))
  g_BadLength : mg "BadLength" = some (.ref (cls mg "BadLength"))
  g_NoRow : mg "NoRow" = some (.ref (cls mg "NoRow"))
  g_NoPush : mg "NoPush" = some (.ref (cls mg "NoPush"))
  g_NoMark : mg "NoMark" = some (.ref (cls mg "NoMark"))
  g_TooManyEdits : mg "TooManyEdits" = some (.ref (cls mg "TooManyEdits"))
  g_NothingToUndo : mg "NothingToUndo" = some (.ref (cls mg "NothingToUndo"))
  g_TooManyPushes : mg "TooManyPushes" = some (.ref (cls mg "TooManyPushes"))
  g_Field : mg "Field" = some (.ref (cls mg "Field"))
  cl_Field : Cls K (cls mg "Field")
  kc_Field_Busy : KC K (cls mg "Field") (cls mg "Busy") false
  kc_Field_BadTick : KC K (cls mg "Field") (cls mg "BadTick") false
  kc_Field_BadLength : KC K (cls mg "Field") (cls mg "BadLength") false
  kc_Field_NoRow : KC K (cls mg "Field") (cls mg "NoRow") false
  kc_Field_NoPush : KC K (cls mg "Field") (cls mg "NoPush") false
  kc_Field_NoMark : KC K (cls mg "Field") (cls mg "NoMark") false
  kc_Field_TooManyEdits : KC K (cls mg "Field") (cls mg "TooManyEdits") false
  kc_Field_NothingToUndo : KC K (cls mg "Field") (cls mg "NothingToUndo") false
  kc_Field_TooManyPushes : KC K (cls mg "Field") (cls mg "TooManyPushes") false
  kc_Field_Field : KC K (cls mg "Field") (cls mg "Field") true
  ic_Field : InC K (cls mg "Field")
  ns_Field : NotSub K (cls mg "Field") "list"
  nt_Field : NotSub K (cls mg "Field") "tuple"
  n_Field_states : NoAttr K (cls mg "Field") "states"
  n_Field_tables : NoAttr K (cls mg "Field") "tables"
  n_Field_notes : NoAttr K (cls mg "Field") "notes"
  n_Field_standing : NoAttr K (cls mg "Field") "standing"
  n_Field_watching : NoAttr K (cls mg "Field") "watching"
  g_Shell : mg "Shell" = some (.ref (cls mg "Shell"))
  cl_Shell : Cls K (cls mg "Shell")
  kc_Shell_Busy : KC K (cls mg "Shell") (cls mg "Busy") false
  kc_Shell_BadTick : KC K (cls mg "Shell") (cls mg "BadTick") false
  kc_Shell_BadLength : KC K (cls mg "Shell") (cls mg "BadLength") false
  kc_Shell_NoRow : KC K (cls mg "Shell") (cls mg "NoRow") false
  kc_Shell_NoPush : KC K (cls mg "Shell") (cls mg "NoPush") false
  kc_Shell_NoMark : KC K (cls mg "Shell") (cls mg "NoMark") false
  kc_Shell_TooManyEdits : KC K (cls mg "Shell") (cls mg "TooManyEdits") false
  kc_Shell_NothingToUndo : KC K (cls mg "Shell") (cls mg "NothingToUndo") false
  kc_Shell_TooManyPushes : KC K (cls mg "Shell") (cls mg "TooManyPushes") false
  kc_Shell_Field : KC K (cls mg "Shell") (cls mg "Field") false
  ic_Shell : InC K (cls mg "Shell")
  ns_Shell : NotSub K (cls mg "Shell") "list"
  nt_Shell : NotSub K (cls mg "Shell") "tuple"
  n_Shell_field : NoAttr K (cls mg "Shell") "field"
  d_Field___init__ : DfI K (cls mg "Field") "Field.__init__" s_Field___init__
  d_Field_tree : DfP K (cls mg "Field") "tree" "Field.tree" s_Field_tree
  d_Field_pushes : DfP K (cls mg "Field") "pushes" "Field.pushes" s_Field_pushes
  d_Field_falls : DfP K (cls mg "Field") "falls" "Field.falls" s_Field_falls
  d_Field___len__ : DfM K (cls mg "Field") "__len__" "Field.__len__" s_Field___len__
  d_Field___eq__ : DfM K (cls mg "Field") "__eq__" "Field.__eq__" s_Field___eq__
  d_Field_note_of : DfM K (cls mg "Field") "note_of" "Field.note_of" s_Field_note_of
  d_Field_require_idle : DfM K (cls mg "Field") "require_idle" "Field.require_idle" s_Field_require_idle
  d_Field_state_after : DfM K (cls mg "Field") "state_after" "Field.state_after" s_Field_state_after
  d_Field_perform : DfM K (cls mg "Field") "perform" "Field.perform" s_Field_perform
  d_Field_push : DfM K (cls mg "Field") "push" "Field.push" s_Field_push
  d_Shell___init__ : DfI K (cls mg "Shell") "Shell.__init__" s_Shell___init__
  d_Shell_answer : DfM K (cls mg "Shell") "answer" "Shell.answer" s_Shell_answer
  d_Shell_answer_two : DfM K (cls mg "Shell") "answer_two" "Shell.answer_two" s_Shell_answer_two
  d_Shell_run : DfM K (cls mg "Shell") "run" "Shell.run" s_Shell_run
  d_Shell_execute : DfM K (cls mg "Shell") "execute" "Shell.execute" s_Shell_execute
  k_BEHIND : ∃ t, mg "BEHIND" = some (.str ";" t)
  k_FIGURES : ∃ t, mg "FIGURES" = some (.str "0123456789" t)
  k_LONGEST : ∃ t, mg "LONGEST" = some (.int 10 t)
  k_MAX_EDITS : ∃ t, mg "MAX_EDITS" = some (.int 60 t)
  k_MAX_LENGTH : ∃ t, mg "MAX_LENGTH" = some (.int 1000000 t)
  k_MAX_MARKS : ∃ t, mg "MAX_MARKS" = some (.int 12 t)
  k_MAX_PUSHES : ∃ t, mg "MAX_PUSHES" = some (.int 20 t)
  k_MAX_TICK : ∃ t, mg "MAX_TICK" = some (.int 1000000000 t)
  k_NONE : ∃ t, mg "NONE" = some (.str "none" t)
  k_UNKNOWN_COMMAND : ∃ t, mg "UNKNOWN_COMMAND" = some (.str "unknown command" t)
section
variable {P : Program} {w : World} {K : PySem.W.Frag} {mg : Str → Option Value} {base : Heap}
theorem len_app (x y : Str) : (x ++ y).length = x.length + y.length := by rw [TL.len_tl, TL.tl_append, List.length_append, ← TL.len_tl, ← TL.len_tl]
theorem figs : ("0123456789" : Str).cps.toList = [48, 49, 50, 51, 52, 53, 54, 55, 56, 57] := by decide +kernel
theorem fig_in (c : Nat) : decide (c ∈ ("0123456789" : Str).cps.toList) = isFig c := by
  rw [figs]
  unfold isFig
  rw [Bool.eq_iff_iff, decide_eq_true_iff, Bool.and_eq_true, decide_eq_true_iff, decide_eq_true_iff]
  simp only [List.mem_cons, List.not_mem_nil, or_false]
  omega
theorem one_zero (c : Nat) : decide ((⟨#[c]⟩ : Str) = "0") = decide (c = 48) := by
  have e : ("0" : Str) = ⟨#[48]⟩ := by decide +kernel
  rw [e]
  by_cases h : c = 48
  · subst h
    rw [decide_eq_true rfl, decide_eq_true rfl]
  · rw [decide_eq_false h, decide_eq_false]
    intro z
    have := congrArg TL.tl z
    exact h (List.cons.inj this).1
theorem is_zero (x : Str) : decide (x = "0") = decide (TL.tl x = [48]) := by
  have e : ("0" : Str) = ⟨#[48]⟩ := by decide +kernel
  rw [e]
  by_cases h : TL.tl x = [48]
  · rw [decide_eq_true h, decide_eq_true (TL.ext_tl h)]
  · rw [decide_eq_false h, decide_eq_false fun z => h (by rw [z])]
theorem sgn_bls (x : Str) (f : Nat → Bool) : blsOf ((TL.tl x).map fun c => D.bl (f c)) = some ((TL.tl x).map f) := by
  rw [show ((TL.tl x).map fun c => D.bl (f c)) = ((TL.tl x).map f).map D.bl by rw [List.map_map]; rfl, blsOf_map]
theorem numW_none1 {x : Str} (h : ¬ (1 ≤ x.length ∧ x.length ≤ 10)) : numW x = none := by
  unfold numW numQ
  rw [← TL.len_tl, if_neg fun z => h z.1]
theorem numW_none2 {x : Str} (h : (TL.tl x).all isFig = false) : numW x = none := by
  unfold numW numQ
  rw [if_neg fun z => by rw [h] at z; exact Bool.false_ne_true z.2.1]
theorem numW_none3 {x : Str} (h : (TL.tl x).head? = some 48) (h2 : TL.tl x ≠ [48]) : numW x = none := by
  unfold numW numQ
  rw [if_neg fun z => z.2.2 ⟨h, h2⟩]
theorem numW_some {x : Str} (h1 : 1 ≤ x.length ∧ x.length ≤ 10) (h2 : (TL.tl x).all isFig = true) (h3 : ¬ ((TL.tl x).head? = some 48 ∧ TL.tl x ≠ [48])) : numW x = some (NumText.digitsVal (TL.tl x)) := by
  unfold numW numQ
  rw [← TL.len_tl, if_pos ⟨h1, h2, h3⟩]
theorem numW_int {x : Str} (h1 : 1 ≤ x.length ∧ x.length ≤ 10) (h2 : (TL.tl x).all isFig = true) : intText? x = some ((NumText.digitsVal (TL.tl x) : Nat) : Int) := by
  refine PySem.intText_digits (fun c hc => isFig_iff.mp (List.all_eq_true.mp h2 c hc)) (fun z => ?_) (by omega)
  have : x.length = x.cps.toList.length := TL.len_tl x
  rw [z] at this
  simp at this
  omega
def spParseN : DSp := fun args M Q _ => ∃ (x : Str), args = [.str x] ∧ x.length ≤ 100000 ∧ Q (optN (numW x)) M
theorem c_parse_number (T : Tp K mg) : Cl P w K mg base "parse_number" (0 + 1) ["word"] spParseN := by
  obtain ⟨f, fd, F, hm⟩ := T.d_parse_number.ex
  have S := sc_parse_number
  have B := T.bn
  obtain ⟨t_FIGURES, m_FIGURES⟩ := T.k_FIGURES
  obtain ⟨t_LONGEST, m_LONGEST⟩ := T.k_LONGEST
  refine ⟨⟨f, fd, fnD F S (fun args M Q E h => by (repeat (obtain ⟨_, h⟩ := h)); subst_vars; rfl) (fun cdv A outer s H E hgd hr => ⟨_, (ds_cons (ds_if (DW.dt (dw_or (dt_not (dt_chain o_le o_le d_int (d_callB o_len (by rfl) B.len b_len (d_cons (dv 0) d_nil)) (d_glob (by rfl) m_LONGEST))) (dw_or1 (dt_not (dt_val (d_callB (o_all rfl) (by rfl) B.all b_all (d_cons (d_lcI (own := [("figure", 1)]) rfl S.nd (di_str (dv 0)) (blkOk_by (N := ["word", "figure"]) (sc := defScope s_parse_number) (by decide +kernel)) (by decide) (fun _ _ _ _ _ => (dgn 1 S.nd)) (fun _ _ _ _ _ => dts_nil) (fun _ _ _ _ _ => (d_cmp o_inS (dv 1) (d_globS (by rfl) m_FIGURES)))) d_nil))))))) (ds_one (ds_ret d_non)) ds_nil)
  (ds_one (ds_ret (d_if (DW.dt (dw_and (dt_cmp (o_eq hr.units) (d_ix (dv 0) d_int (fun _ _ => rfl)) d_str) (dw_and1 (dt_cmp (o_ne hr.units) (dv 0) d_str)))) d_non (d_callTy o_intS (by rfl) B.int b_int (d_cons (dv 0) d_nil)))))), fun args M Q E' hM hA h => ?_⟩), hm, F.kp, (F.binds (ps := ["word"]) fun _ _ _ _ _ _ us hl => match us, hl with | [_], _ => rfl)⟩, ?_⟩
  rotate_left
  · exact fun args M Q Q' E E' w _ ⟨x0, x1, x2, k⟩ => ⟨x0, x1, x2, w _ _ k⟩
  · obtain ⟨x, rfl, hx, k⟩ := h
    have hlen := TL.len_tl x
    walk_at "go1"
    by_cases h1 : 1 ≤ x.length
    case' neg =>
      rw [decide_eq_false (by omega)]
      rw [numW_none1 (fun z => h1 z.1)] at k
      walk_at "go1"
      exact See.keep k
    rw [decide_eq_true (by omega)]
    walk_at "go1"
    by_cases h2 : x.length ≤ 10
    case' neg =>
      rw [decide_eq_false (by omega)]
      rw [numW_none1 (fun z => h2 z.2)] at k
      walk_at "go1"
      exact See.keep k
    rw [decide_eq_true (by omega)]
    walk_at "go1"
    unfold signsD
    refine lc_mapL (fun c => D.str ⟨#[c]⟩) (fun c => D.bl (isFig c)) (L := TL.tl x) (st := stYes) (M := M) trivial (by omega) (fun c hc kk hk => ?_) ?_
    · walk_at "go1"
      refine ⟨c, rfl, ?_⟩
      rw [fig_in]
      exact hk
    walk_at "go1"
    rw [sgn_bls]
    walk_at "go1"
    rw [List.all_map]
    by_cases h3 : (TL.tl x).all isFig = true
    case' neg =>
      rw [show (TL.tl x).all (id ∘ isFig) = false from Bool.eq_false_iff.mpr h3]
      rw [numW_none2 (Bool.eq_false_iff.mpr h3)] at k
      walk_at "go1"
      exact See.keep k
    rw [show (TL.tl x).all (id ∘ isFig) = true from h3]
    obtain ⟨c, r, e⟩ : ∃ c r, TL.tl x = c :: r := by
      cases e : TL.tl x with
      | nil => rw [e] at hlen; simp at hlen; omega
      | cons c r => exact ⟨c, r, rfl⟩
    have eat : atI x.cps.toList 0 = some c := by
      show atI (TL.tl x) ((0 : Nat) : Int) = some c
      exact atI_of rfl (by rw [e]; rfl)
    have last : ∀ Q : DK, (¬ (c = 48 ∧ TL.tl x ≠ [48])) → (∀ n : Nat, numW x = some n → Q (.int (n : Int)) M) → gIntS (.str x) M Q := fun Q hc q => by
      refine ⟨_, numW_int ⟨h1, h2⟩ h3, by omega, q _ (numW_some ⟨h1, h2⟩ h3 ?_)⟩
      rintro ⟨z1, z2⟩
      rw [e] at z1
      exact hc ⟨Option.some.inj z1, z2⟩
    walk_at "go1"
    rw [eat]
    walk_at "go1"
    rw [one_zero]
    by_cases h4 : c = 48
    case' neg =>
      rw [decide_eq_false h4]
      walk_at "go1"
      refine last _ (fun z => h4 z.1) fun n hn => ?_
      rw [hn] at k
      walk_at "go1"
      exact See.keep k
    rw [decide_eq_true h4]
    walk_at "go1"
    rw [is_zero]
    by_cases h5 : TL.tl x = [48]
    · rw [decide_eq_true h5]
      walk_at "go1"
      refine last _ (fun z => z.2 h5) fun n hn => ?_
      rw [hn] at k
      walk_at "go1"
      exact See.keep k
    · rw [decide_eq_false h5]
      rw [numW_none3 (by rw [e, h4]; rfl) h5] at k
      walk_at "go1"
      exact See.keep k
theorem c__law_draw (T : Tp K mg) : Cl P w K mg base "_law_draw" (0 + 1) ["_law_deck_here", "_law_many"] spDraw := by
  obtain ⟨f, fd, F, hm⟩ := T.d__law_draw.ex
  have S := sc__law_draw
  have B := T.bn
  refine ⟨⟨f, fd, fnD F S (fun args M Q E h => by (repeat (obtain ⟨_, h⟩ := h)); subst_vars; rfl) (fun cdv A outer s H E hgd hr => ⟨_, (ds_cons (ds_asg (d_op o_add (d_ix (dv 0) d_int (fun _ _ => rfl)) d_int) (dg_sub (dv 0) d_int))
  (ds_cons (dss 2 S.nd d_int)
  (ds_cons (dss 3 S.nd (d_un o_neg d_int))
  (ds_cons (ds_if (dt_cmp o_gt (d_callB o_len (by rfl) B.len b_len (d_cons (d_ix (dv 0) d_int (fun _ _ => rfl)) d_nil)) d_int) (ds_cons (dss 3 S.nd (d_op o_mod (d_ix (dv 0) d_int (fun _ _ => rfl)) (d_callB o_len (by rfl) B.len b_len (d_cons (d_ix (dv 0) d_int (fun _ _ => rfl)) d_nil))))
  (ds_one (dss 2 S.nd (d_ix (d_ix (dv 0) d_int (fun _ _ => rfl)) (dv 3) (fun _ _ => rfl))))) ds_nil)
  (ds_cons (ds_if (dt_cmp o_ge (dv 2) (d_op o_pow d_int d_int)) (ds_cons (ds_asg (d_op o_fdiv (dv 2) (dv 1)) (dg_sub (d_ix (dv 0) d_int (fun _ _ => rfl)) (dv 3)))
  (ds_one (ds_ret (d_op o_mod (dv 2) (dv 1))))) ds_nil)
  (ds_one (ds_ret (d_op o_mod (d_op o_mod (d_op o_pow (d_op o_add (d_op o_add (d_op o_mod (dv 2) d_int) (d_op o_mulA d_int (d_ix (dv 0) d_int (fun _ _ => rfl)))) d_int) d_int) d_int) (dv 1))))))))), fun args M Q E' hM hA h => ?_⟩), hm, F.kp, (F.binds (ps := ["_law_deck_here", "_law_many"]) fun _ _ _ _ _ _ us hl => match us, hl with | [_, _], _ => rfl)⟩, ?_⟩
  rotate_left
  · exact fun args M Q Q' E E' w _ ⟨x0, x1, x2, x3, x4, x5, x6, x7, x8, x9, k⟩ => ⟨x0, x1, x2, x3, x4, x5, x6, x7, x8, x9, fun y0 y1 y2 y3 y4 y5 => w _ _ (k y0 y1 y2 y3 y4 y5)⟩
  · obtain ⟨cs, n, R, lim, b, rfl, rfl, g, l0, l1, k⟩ := h
    obtain ⟨y1, y2, y3, y4⟩ := g
    have fin : ∀ (c : Int) (cs' : List Int), Good b cs' (n + 1) → 0 ≤ c → c < lim → See (R.length + 1 + 1) Q (.int c) (Cell.lst (List.map D.int cs') :: Cell.lst [D.ref 0, D.int (n + 1)] :: R) := fun c cs' hg h0 h1 => See.keep (k c cs' (n + 1) h0 h1 hg)
    have hg1 : Good b cs (n + 1) := ⟨y1, y2, by omega, by omega⟩
    have tail : ∀ c : Int, 0 ≤ c → See (R.length + 1 + 1) Q (.int (((c % 2147483587 + 7919 * (n + 1) + 1) ^ 5) % 2147483647 % lim)) (Cell.lst (List.map D.int cs) :: Cell.lst [D.ref 0, D.int (n + 1)] :: R) := fun c _ =>
      fin _ cs hg1 (Int.emod_nonneg _ (by omega)) (Int.emod_lt_of_pos _ l0)
    rw [show startD ["_law_deck_here", "_law_many", "_law_cell", "_law_place"] [D.ref 1, D.int lim] = [some (.ref 1), some (.int lim), none, none] from rfl]
    unfold dk
    walk_at "go4"
    refine ite_dec (fun h => ?_) (fun h => ?_) <;> (try simp only [List.length_map] at h)
    · walk_at "go4"
      have i0 : 0 ≤ (n + 1) % (cs.length : Int) := Int.emod_nonneg _ (by omega)
      have i1 : (n + 1) % (cs.length : Int) < cs.length := Int.emod_lt_of_pos _ h
      obtain ⟨c, hc, hc2, e⟩ := atI_ints i0 i1
      rw [e]
      have c0 := y2 c hc
      walk_at "go4"
      refine ite_dec (fun h2 => ?_) (fun h2 => ?_)
      · walk_at "go4"
        rw [ixN_of i0 i1]
        walk_at "go4"
        rw [← List.map_set]
        refine fin _ _ ⟨by rw [List.length_set]; exact y1, fun x hx => ?_, by omega, by omega⟩ (Int.emod_nonneg _ (by omega)) (Int.emod_lt_of_pos _ l0)
        rcases List.mem_or_eq_of_mem_set hx with z | z
        · exact y2 x z
        · rw [z]; exact Int.ediv_nonneg c0 (by omega)
      · walk_at "go4"
        exact tail c c0
    · walk_at "go4"
      refine ite_no (by omega) ?_
      walk_at "go4"
      exact tail 0 (by omega)
theorem c__law_deck (T : Tp K mg) : Cl P w K mg base "_law_deck" (0 + 1) ["_law_script"] spDeck := by
  obtain ⟨f, fd, F, hm⟩ := T.d__law_deck.ex
  have S := sc__law_deck
  have B := T.bn
  refine ⟨⟨f, fd, fnD F S (fun args M Q E h => by (repeat (obtain ⟨_, h⟩ := h)); subst_vars; rfl) (fun cdv A outer s H E hgd hr => ⟨_, (ds_one (ds_ret (d_lstM (d_cons (d_lcMI (own := [("_law_cell", 1)]) rfl S.nd (di_seq (d_slice (dv 0) do_none (do_some d_int))) (blkOk_by (N := ["_law_script", "_law_cell"]) (sc := defScope s__law_deck) (by decide +kernel)) (by decide) (fun _ _ _ _ _ => (dgn 1 S.nd)) (fun _ _ _ _ _ => dts_nil) (fun _ _ _ _ _ => (d_callB o_abs (by rfl) B.abs b_abs (d_cons (dv 1) d_nil)))) (d_cons d_int d_nil))))), fun args M Q E' hM hA h => ?_⟩), hm, F.kp, (F.binds (ps := ["_law_script"]) fun _ _ _ _ _ _ us hl => match us, hl with | [_], _ => rfl)⟩, ?_⟩
  rotate_left
  · exact fun args M Q Q' E E' w _ ⟨x0, x1, x2, x3, k⟩ => ⟨x0, x1, x2, x3, fun y0 y1 => w _ _ (k y0 y1)⟩
  · obtain ⟨ns, rfl, rfl, hl, k⟩ := h
    walk_at "go1"
    rw [cut_map]
    refine lc_map (fun d => match d with | .int i => .int (if i < 0 then -i else i) | d => d) trivial (by rw [List.length_map]; have := cut_len ns none (some 63); omega) (fun d hd kk hk => ?_) ?_
    · obtain ⟨i, hi, rfl⟩ := List.mem_map.mp hd
      walk_at "go1"
      exact hk
    · walk_at "go1"
      rw [List.map_map]
      refine See.keep ?_
      refine Eq.subst (motive := fun z => Q (.ref 1) ([Cell.lst z] ++ [Cell.lst [D.ref 0, D.int 0]])) ?_ (k ((cut ns none (some 63)).map fun i => if i < 0 then -i else i) ⟨?_, ?_, by omega, by omega⟩)
      · rw [List.map_map]
        rfl
      · rw [List.length_map]
        have := cut_len ns none (some 63)
        omega
      · intro c hc
        obtain ⟨i, _, rfl⟩ := List.mem_map.mp hc
        split <;> omega
def spTree55 : DSp := fun args M Q _ => ∃ (cs : List Int) (n : Int) (R : Sto) (most long b : Nat), args = [.ref 1, natD most, natD long] ∧ M = dk cs n ++ R ∧ Good (b + 40) cs n ∧ 1 ≤ most ∧ most ≤ 12 ∧ 1 ≤ long ∧ long ≤ 1000000 ∧ ∀ t cs' n', TreeOk t → t.length < most → Good b cs' n' → Q (treeD t) (dk cs' n' ++ R)
theorem rows_of {ps : List D} {ys : List D} {m : Nat} (hm : m ≤ 11) (h1 : ps.length = m) (h2 : ys.length = m) (hp : ∀ (j : Nat) (y : D), ps[j]? = some y → ∃ a : Nat, y = natD a ∧ a ≤ j) (hy : ∀ (j : Nat) (y : D), ys[j]? = some y → ∃ l : Nat, (∃ p, ps[j]? = some p ∧ y = .tup [p, natD l]) ∧ 1 ≤ l ∧ l ≤ 1000000) : ∃ t : Tr, D.tup ys = treeD t ∧ TreeOk t ∧ t.length = m := by
  have key : ∀ k, k ≤ m → ∃ t : Tr, ys.take k = t.map rowD ∧ t.length = k ∧ ∀ (j : Nat) (p : Nat × Nat), t[j]? = some p → p.1 ≤ j ∧ 1 ≤ p.2 ∧ p.2 ≤ 1000000 := by
    intro k
    induction k with
    | zero => exact fun _ => ⟨[], rfl, rfl, fun j p e => by simp at e⟩
    | succ k ih =>
      intro hk
      obtain ⟨t, e, hl, ht⟩ := ih (by omega)
      have hlt : k < ys.length := by omega
      obtain ⟨l, ⟨p, ep, ey⟩, l1, l2⟩ := hy k ys[k] (List.getElem?_eq_getElem hlt)
      obtain ⟨a, rfl, ha⟩ := hp k p ep
      refine ⟨t ++ [(a, l)], ?_, by simp [hl], fun j p ej => ?_⟩
      · rw [List.take_succ_eq_append_getElem hlt, e, ey, List.map_append]
        rfl
      · by_cases hj : j < t.length
        · rw [List.getElem?_append_left hj] at ej
          exact ht j p ej
        · have hj2 := (List.getElem?_eq_some_iff.mp ej).1
          rw [List.length_append, List.length_singleton] at hj2
          have : j = t.length := by omega
          subst this
          rw [List.getElem?_concat_length] at ej
          cases ej
          exact ⟨by show a ≤ t.length; omega, l1, l2⟩
  obtain ⟨t, e, hl, ht⟩ := key m (Nat.le_refl _)
  rw [← h2, List.take_length] at e
  exact ⟨t, by rw [e], ⟨by omega, ht⟩, hl⟩
theorem c__law_tree (T : Tp K mg) : Cl P w K mg base "_law_tree" (1 + 1) ["_law_deck_here", "_law_most", "_law_long"] spTree55 := by
  obtain ⟨f, fd, F, hm⟩ := T.d__law_tree.ex
  have S := sc__law_tree
  have B := T.bn
  have c__law_draw := @c__law_draw P w K mg base T
  refine ⟨⟨f, fd, fnD F S (fun args M Q E h => by (repeat (obtain ⟨_, h⟩ := h)); subst_vars; rfl) (fun cdv A outer s H E hgd hr => ⟨_, (ds_cons (ds_asg (d_tup (d_cons (d_op o_add d_int (d_cl c__law_draw hgd (hr.mono (by first | decide | omega)) (d_cons (dv 0) (d_cons (dv 1) d_nil)))) (d_cons (d_cl c__law_draw hgd (hr.mono (by first | decide | omega)) (d_cons (dv 0) (d_cons d_int d_nil))) d_nil))) (dg_tup (n := 2) rfl (dgs_cons (dgn 3 S.nd) (dgs_cons (dgn 4 S.nd) dgs_nil))))
  (ds_cons (ds_setLcI (i := 5) (own := [("_law_k", 6)]) rfl S.nd rfl rfl (sw_true rfl rfl rfl (by decide +kernel)) (di_range1 (by rfl) B.range (d_cons (d_op o_sub (dv 3) d_int) d_nil)) (blkOk_by (N := ["_law_deck_here", "_law_most", "_law_long", "_law_n", "_law_way", "_law_parents", "_law_k", "_law_parent"]) (sc := defScope s__law_tree) (by decide +kernel)) (by decide) (fun _ _ _ _ _ => (dgn 6 S.nd)) (fun _ _ _ _ _ => dts_nil) (fun _ _ _ _ _ => (d_ix (d_lst (d_cons (dv 6) (d_cons d_int (d_cons (d_cl c__law_draw hgd (hr.mono (by first | decide | omega)) (d_cons (dv 0) (d_cons (d_op o_add (dv 6) d_int) d_nil))) d_nil)))) (dv 4) (fun _ _ => rfl))))
  (ds_one (ds_ret (d_callTy o_tuple (by rfl) B.tuple b_tuple (d_cons (d_lcI (own := [("_law_parent", 7)]) rfl S.nd (di_seq (dv 5)) (blkOk_by (N := ["_law_deck_here", "_law_most", "_law_long", "_law_n", "_law_way", "_law_parents", "_law_k", "_law_parent"]) (sc := defScope s__law_tree) (by decide +kernel)) (by decide) (fun _ _ _ _ _ => (dgn 7 S.nd)) (fun _ _ _ _ _ => dts_nil) (fun _ _ _ _ _ => (d_tup (d_cons (dv 7) (d_cons (d_op o_add d_int (d_cl c__law_draw hgd (hr.mono (by first | decide | omega)) (d_cons (dv 0) (d_cons (dv 2) d_nil)))) d_nil))))) d_nil)))))), fun args M Q E' hM hA h => ?_⟩), hm, F.kp, (F.binds (ps := ["_law_deck_here", "_law_most", "_law_long"]) fun _ _ _ _ _ _ us hl => match us, hl with | [_, _, _], _ => rfl)⟩, ?_⟩
  rotate_left
  · exact fun args M Q Q' E E' w _ ⟨x0, x1, x2, x3, x4, x5, x6, x7, x8, x9, x10, x11, x12, k⟩ => ⟨x0, x1, x2, x3, x4, x5, x6, x7, x8, x9, x10, x11, x12, fun y0 y1 y2 y3 y4 y5 => w _ _ (k y0 y1 y2 y3 y4 y5)⟩
  · obtain ⟨cs, n, R, most, long, b, rfl, rfl, g, m1, m2, l1, l2, k⟩ := h
    walk_at "go1"
    refine dr (b := b + 39) g (by omega) (by omega) fun r1 cs n h1 g => ?_
    walk_at "go1"
    refine dr (b := b + 38) g (by decide) (by decide) fun way cs n hw g => ?_
    walk_at "go1"
    rw [show (1 + (r1 : Int) - 1).toNat = r1 by omega]
    refine lc_dk (b + 12) 1 (fun j y => ∃ a : Nat, y = natD a ∧ a ≤ j) (fun _ => trivial) (g.le (by omega)) (by omega) (fun j cs n rest hj g kk hk => ?_) fun ps cs n hpl hps g => ?_
    · walk_at "go1"
      refine dr (b := b + 12 + 1 * rest) g (by omega) (by omega) fun a cs n ha g => ?_
      have hp : ∃ p : Nat, p ≤ j ∧ atI [D.int (j : Int), D.int 0, D.int (a : Int)] (way : Int) = some (.int p) := by
        have : way = 0 ∨ way = 1 ∨ way = 2 := by omega
        rcases this with rfl | rfl | rfl
        · exact ⟨j, Nat.le_refl _, atI_0 _ _⟩
        · exact ⟨0, Nat.zero_le _, atI_1 _ _ _⟩
        · exact ⟨a, by omega, atI_2 _ _ _ _⟩
      obtain ⟨p, p1, e2⟩ := hp
      walk_at "go1"
      rw [e2]
      walk_at "go1"
      exact hk _ _ _ ⟨p, rfl, p1⟩ g
    · walk_at "go1"
      refine lc_dkL b 1 (fun j y => ∃ l : Nat, (∃ p, ps[j]? = some p ∧ y = .tup [p, natD l]) ∧ 1 ≤ l ∧ l ≤ 1000000) (fun _ => trivial) (g.le (by omega)) (by omega) (fun j d cs n rest hj g kk hk => ?_) fun ys cs n hyl hys g => ?_
      · obtain ⟨a, rfl, ha⟩ := hps j d hj
        walk_at "go1"
        refine dr (b := b + 1 * rest) g (by omega) (by omega) fun l cs n hl g => ?_
        walk_at "go1"
        exact hk _ _ _ ⟨1 + l, ⟨_, hj, rfl⟩, by omega, by omega⟩ g
      · obtain ⟨t, e, ht, htl⟩ := rows_of (m := r1) (by omega) hpl (by omega) hps hys
        walk_at "go1"
        rw [e]
        exact See.keep (k t cs n ht (by omega) g)
def spPushes55 : DSp := fun args M Q _ => ∃ (cs : List Int) (n : Int) (R : Sto) (t : Tr) (most late b : Nat), args = [.ref 1, treeD t, natD most, natD late] ∧ M = dk cs n ++ R ∧ Good (b + 70) cs n ∧ TreeOk t ∧ most ≤ 20 ∧ late ≤ 1000000000 ∧ ∀ (ps : Ps) cs' n', ps.length ≤ 20 → (∀ p ∈ ps, PushOk t p) → Good b cs' n' → Q (psD ps) (dk cs' n' ++ R)
def inv55 (t : Tr) (most late b c : Nat) (R : Sto) : List D → List D → Dn → Sto → Prop := fun done todo ρ M => done ++ todo = rng 0 c ∧ ∃ (ps : Ps) (cs : List Int) (n : Int) (x5 x6 : Option D), ρ = ⟨[some (.ref 1), some (treeD t), some (natD most), some (natD late), some (.ref (R.length + 2)), x5, x6], noX⟩ ∧ M = dk cs n ++ (R ++ [.lst (ps.map pushD)]) ∧ (∀ p ∈ ps, PushOk t p) ∧ ps.length = done.length ∧ Good (b + 3 * todo.length) cs n
theorem c__law_pushes (T : Tp K mg) : Cl P w K mg base "_law_pushes" (1 + 1) ["_law_deck_here", "_law_tree_here", "_law_most", "_law_late"] spPushes55 := by
  obtain ⟨f, fd, F, hm⟩ := T.d__law_pushes.ex
  have S := sc__law_pushes
  have B := T.bn
  have c__law_draw := @c__law_draw P w K mg base T
  refine ⟨⟨f, fd, fnD F S (fun args M Q E h => by (repeat (obtain ⟨_, h⟩ := h)); subst_vars; rfl) (fun cdv A outer s H E hgd hr => ⟨_, (ds_cons (dss 4 S.nd (d_lstM d_nil))
  (ds_cons (ds_forI (passes_of rfl) rfl (di_range1 (by rfl) B.range (d_cons (d_cl c__law_draw hgd (hr.mono (by first | decide | omega)) (d_cons (dv 0) (d_cons (d_op o_add (dv 2) d_int) d_nil))) d_nil)) (dgn 5 S.nd) (ds_cons (dss 6 S.nd (d_tup (d_cons (d_cl c__law_draw hgd (hr.mono (by first | decide | omega)) (d_cons (dv 0) (d_cons (d_op o_add (d_callB o_len (by rfl) B.len b_len (d_cons (dv 1) d_nil)) d_int) d_nil))) (d_cons (d_cl c__law_draw hgd (hr.mono (by first | decide | omega)) (d_cons (dv 0) (d_cons (d_op o_add (dv 3) d_int) d_nil))) d_nil))))
  (ds_one (ds_expr (d_append (dv 4) (d_cons (d_if (DW.dt (dw_and (dt_cmp (o_ne hr.units) (dv 4) (d_lst d_nil)) (dw_and1 (dt_cmp (o_eq hr.units) (d_cl c__law_draw hgd (hr.mono (by first | decide | omega)) (d_cons (dv 0) (d_cons d_int d_nil))) d_int)))) (d_ix (dv 4) d_int (fun _ _ => rfl)) (dv 6)) d_nil))))))
  (ds_one (ds_ret (d_callTy o_tuple (by rfl) B.tuple b_tuple (d_cons (dv 4) d_nil)))))), fun args M Q E' hM hA h => ?_⟩), hm, F.kp, (F.binds (ps := ["_law_deck_here", "_law_tree_here", "_law_most", "_law_late"]) fun _ _ _ _ _ _ us hl => match us, hl with | [_, _, _, _], _ => rfl)⟩, ?_⟩
  rotate_left
  · exact fun args M Q Q' E E' w _ ⟨x0, x1, x2, x3, x4, x5, x6, x7, x8, x9, x10, x11, x12, k⟩ => ⟨x0, x1, x2, x3, x4, x5, x6, x7, x8, x9, x10, x11, x12, fun y0 y1 y2 y3 y4 y5 => w _ _ (k y0 y1 y2 y3 y4 y5)⟩
  · obtain ⟨cs, n, R, t, most, late, b, rfl, rfl, g, ht, m1, l1, k⟩ := h
    have ht1 := ht.1
    walk_at "go1"
    rw [List.append_assoc]
    refine dr (b := b + 69) g (by omega) (by omega) fun c cs n hc g => ?_
    walk_at "go1"
    refine ⟨inv55 t most late b c R, ⟨rfl, [], cs, n, none, none, ?_, rfl, (fun _ h => nomatch h), rfl, g.le ?_⟩, fun _ _ _ _ _ => trivial, ?_, ?_⟩
    · rw [dk_two]
    · rw [rng_length]; omega
    · rintro done d todo ρ M ⟨e, ps, cs, n, x5, x6, rfl, rfl, hps, hl, g⟩
      obtain ⟨rfl, hlt⟩ := rng_at e
      rw [List.length_cons, Nat.mul_add] at g
      walk_at "go1"
      refine dr (b := b + 3 * todo.length + 2) g (by omega) (by omega) fun m cs n hm g => ?_
      walk_at "go1"
      refine dr (b := b + 3 * todo.length + 1) g (by omega) (by omega) fun v cs n hv g => ?_
      have hp : PushOk t (m, (v : Int)) := ⟨by show m ≤ t.length; omega, by show (0 : Int) ≤ (v : Int); omega, by show (v : Int) ≤ 1000000000; omega⟩
      have fin : ∀ (q : Nat × Int) (cs' : List Int) (n' : Int), PushOk t q → Good (b + 3 * todo.length) cs' n' → inv55 t most late b c R (done ++ [D.int (done.length : Int)]) todo ⟨[some (.ref 1), some (treeD t), some (natD most), some (natD late), some (.ref (R.length + 2)), some (.int (done.length : Int)), some (pushD (m, (v : Int)))], noX⟩ (dk cs' n' ++ (R ++ [.lst ((ps ++ [q]).map pushD)])) := fun q cs' n' hq g => by
        refine ⟨by rw [← e]; simp, ps ++ [q], cs', n', _, _, rfl, rfl, fun x hx => ?_, by simp [hl], g⟩
        rcases List.mem_append.mp hx with hx | hx
        · exact hps x hx
        · rw [show x = q by simpa using hx]; exact hq
      walk_at "go1"
      have em : ∀ (cs : List Int) (n : Int), (dk cs n ++ (R ++ [Cell.lst (ps.map pushD)]))[R.length + 2]? = some (.lst (ps.map pushD)) := fun cs n => get_dk cs n R _
      have hpl : Pl 2 (.lst (ps.map pushD)) := .lst fun d hd => by
        obtain ⟨p, _, rfl⟩ := List.mem_map.mp hd
        exact pl_push p
      refine ⟨hpl.eqRef (by decide) (em _ _), (show Pl 1 (.lst []) from .lst (h := 0) fun d hd => nomatch hd).eqOk (by decide) _, ?_⟩
      rw [vw_ref (em _ _), eqv_nil]
      have last : ∀ (q : Nat × Int) (cs' : List Int) (n' : Int), PushOk t q → Good (b + 3 * todo.length) cs' n' → inv55 t most late b c R (done ++ [D.int (done.length : Int)]) todo ⟨[some (.ref 1), some (treeD t), some (natD most), some (natD late), some (.ref (R.length + 2)), some (.int (done.length : Int)), some (pushD (m, (v : Int)))], noX⟩ (List.set (dk cs' n' ++ (R ++ [Cell.lst (ps.map pushD)])) (R.length + 2) (Cell.lst (ps.map pushD ++ [pushD q]))) := fun q cs' n' hq g => by
        rw [set_dk, show ps.map pushD ++ [pushD q] = (ps ++ [q]).map pushD by simp]
        exact fin q cs' n' hq g
      cases ps with
      | nil =>
        rw [List.map_nil, decide_eq_true rfl]
        walk_at "go1"
        have e0 := em cs n
        rw [List.map_nil] at e0
        rw [e0]
        walk_at "go1"
        exact last (m, (v : Int)) cs n hp (g.le (by omega))
      | cons q qs =>
        rw [List.map_cons, decide_eq_false (by simp)]
        walk_at "go1"
        refine dr (b := b + 3 * todo.length) g (by decide) (by decide) fun r cs n hr g => ?_
        have e0 := em cs n
        rw [List.map_cons] at e0
        walk_at "go1"
        refine ite_dec (fun h => ?_) (fun h => ?_)
        · walk_at "go1"
          rw [e0]
          walk_at "go1"
          rw [e0]
          walk_at "go1"
          exact ⟨by rw [List.length_cons] at hl; omega, last q cs n (hps q List.mem_cons_self) g⟩
        · walk_at "go1"
          rw [e0]
          walk_at "go1"
          exact ⟨by rw [List.length_cons] at hl; omega, last (m, (v : Int)) cs n hp g⟩
    · rintro done ρ M ⟨e, ps, cs, n, x5, x6, rfl, rfl, hps, hl, g⟩
      rw [List.append_nil] at e
      have hd := congrArg List.length e
      rw [rng_length] at hd
      walk_at "go1"
      rw [get_dk]
      walk_at "go1"
      refine see_dk hM ?_ (k ps cs n (by omega) hps g)
      exact bels_of fun d hd => by
        obtain ⟨p, _, rfl⟩ := List.mem_map.mp hd
        rfl
def spState55 : DSp := fun args M Q _ => ∃ (cs : List Int) (n : Int) (R : Sto) (marks most b : Nat), args = [.ref 1, natD marks, natD most] ∧ M = dk cs n ++ R ∧ Good (b + 150) cs n ∧ 1 ≤ marks ∧ marks ≤ 12 ∧ most ≤ 20 ∧ ∀ (s : FS) cs' n', StOk s → Good b cs' n' → Q (stateD s) (dk cs' n' ++ R)
theorem c__law_state (T : Tp K mg) : Cl P w K mg base "_law_state" (4 + 1) ["_law_deck_here", "_law_marks", "_law_most"] spState55 := by
  obtain ⟨f, fd, F, hm⟩ := T.d__law_state.ex
  have S := sc__law_state
  have B := T.bn
  have c__law_draw := @c__law_draw P w K mg base T
  have c__law_pushes := @c__law_pushes P w K mg base T
  have c__law_tree := @c__law_tree P w K mg base T
  refine ⟨⟨f, fd, fnD F S (fun args M Q E h => by (repeat (obtain ⟨_, h⟩ := h)); subst_vars; rfl) (fun cdv A outer s H E hgd hr => ⟨_, (ds_cons (dss 3 S.nd (d_cmp (o_eq hr.units) (d_cl c__law_draw hgd (hr.mono (by first | decide | omega)) (d_cons (dv 0) (d_cons d_int d_nil))) d_int))
  (ds_cons (dss 4 S.nd (d_cl c__law_tree hgd (hr.mono (by first | decide | omega)) (d_cons (dv 0) (d_cons (dv 1) (d_cons (d_ix (d_lst (d_cons d_int (d_cons (d_op o_pow d_int d_int) d_nil))) (d_callTy o_int1 (by rfl) B.int b_int (d_cons (dv 3) d_nil)) (fun _ _ => rfl)) d_nil)))))
  (ds_one (ds_ret (d_tup (d_cons (dv 4) (d_cons (d_cl c__law_pushes hgd (hr.mono (by first | decide | omega)) (d_cons (dv 0) (d_cons (dv 4) (d_cons (dv 2) (d_cons (d_ix (d_lst (d_cons d_int (d_cons (d_op o_pow d_int d_int) d_nil))) (d_callTy o_int1 (by rfl) B.int b_int (d_cons (dv 3) d_nil)) (fun _ _ => rfl)) d_nil))))) d_nil))))))), fun args M Q E' hM hA h => ?_⟩), hm, F.kp, (F.binds (ps := ["_law_deck_here", "_law_marks", "_law_most"]) fun _ _ _ _ _ _ us hl => match us, hl with | [_, _, _], _ => rfl)⟩, ?_⟩
  rotate_left
  · exact fun args M Q Q' E E' w _ ⟨x0, x1, x2, x3, x4, x5, x6, x7, x8, x9, x10, x11, k⟩ => ⟨x0, x1, x2, x3, x4, x5, x6, x7, x8, x9, x10, x11, fun y0 y1 y2 y3 y4 => w _ _ (k y0 y1 y2 y3 y4)⟩
  · obtain ⟨cs, n, R, marks, most, b, rfl, rfl, g, m1, m2, m3, k⟩ := h
    walk_at "go1"
    refine dr (b := b + 149) g (by omega) (by omega) fun c cs n hc g => ?_
    walk_at "go1"
    obtain ⟨long, e1, l1, l2⟩ : ∃ long : Nat, atI [D.int 6, D.int 1000000] (if decide ((c : Int) = 0) = true then 1 else 0) = some (natD long) ∧ 1 ≤ long ∧ long ≤ 1000000 := by
      by_cases h : (c : Int) = 0
      · rw [if_pos (decide_eq_true h)]; exact ⟨1000000, atI_1 _ _ _, by omega, by omega⟩
      · rw [if_neg (by rw [decide_eq_false h]; decide)]; exact ⟨6, atI_0 _ _, by omega, by omega⟩
    obtain ⟨late, e2, l3⟩ : ∃ late : Nat, atI [D.int 12, D.int 1000000000] (if decide ((c : Int) = 0) = true then 1 else 0) = some (natD late) ∧ late ≤ 1000000000 := by
      by_cases h : (c : Int) = 0
      · rw [if_pos (decide_eq_true h)]; exact ⟨1000000000, atI_1 _ _ _, by omega⟩
      · rw [if_neg (by rw [decide_eq_false h]; decide)]; exact ⟨12, atI_0 _ _, by omega⟩
    rw [e1]
    walk_at "go1"
    refine ⟨cs, n, R, marks, long, b + 80, rfl, rfl, g.le (by omega), m1, m2, l1, l2, fun t cs n ht hl g => ?_⟩
    walk_at "go1"
    rw [e2]
    walk_at "go1"
    refine ⟨cs, n, R, t, most, late, b, rfl, rfl, g.le (by omega), ht, m3, l3, fun ps cs n hpl hps g => ?_⟩
    walk_at "go1"
    exact See.keep (k (t, ps) cs n ⟨ht, hpl, hps⟩ g)
def spNum : DSp := fun args M Q _ => ∃ (v lo hi : Int), args = [.int v, .int lo, .int hi] ∧ Q (.bl (decide (lo ≤ v ∧ v ≤ hi))) M
theorem c_is_number (T : Tp K mg) : Cl P w K mg base "is_number" (0 + 1) ["value", "low", "high"] spNum := by
  obtain ⟨f, fd, F, hm⟩ := T.d_is_number.ex
  have S := sc_is_number
  have B := T.bn
  refine ⟨⟨f, fd, fnD F S (fun args M Q E h => by (repeat (obtain ⟨_, h⟩ := h)); subst_vars; rfl) (fun cdv A outer s H E hgd hr => ⟨_, (ds_one (ds_ret (d_and (d_isi tab_int (by rfl) B.isinstance (by rfl) B.int b_int (dv 0)) (d_and (d_not (d_isi tab_bool (by rfl) B.isinstance (by rfl) B.bool b_bool (dv 0))) (d_one (d_chain o_le o_le (dv 1) (dv 0) (dv 2) (fun h1 h2 h3 h4 h5 => pe_chain h1 h2 h3 h4 h5))))))), fun args M Q E' hM hA h => ?_⟩), hm, F.kp, (F.binds (ps := ["value", "low", "high"]) fun _ _ _ _ _ _ us hl => match us, hl with | [_, _, _], _ => rfl)⟩, ?_⟩
  rotate_left
  · exact fun args M Q Q' E E' w _ ⟨x0, x1, x2, x3, k⟩ => ⟨x0, x1, x2, x3, w _ _ k⟩
  · obtain ⟨v, lo, hi, rfl, k⟩ := h
    walk_at "go1"
    by_cases h1 : lo ≤ v
    · rw [decide_eq_true h1]
      walk_at "go1"
      rw [show decide (v ≤ hi) = decide (lo ≤ v ∧ v ≤ hi) by simp [h1]]
      exact See.keep k
    · rw [decide_eq_false h1]
      walk_at "go1"
      rw [decide_eq_false (fun z => h1 z.1)] at k
      exact See.keep k
def spAbove : DSp := fun args M Q _ => ∃ t m, args = [treeD t, natD m] ∧ TreeOk t ∧ m ≤ t.length ∧ Q (.ref M.length) (M ++ [.lst ((above t m).map natD)])
def invAbove (t : Tr) (m : Nat) (M : Sto) : Nat → Dn → Sto → Prop := fun mm ρ M' => ∃ xs y, ρ = ⟨[some (treeD t), some (natD m), some (.ref M.length)], noX⟩ ∧ M' = M ++ [.lst ((xs ++ [y]).map natD)] ∧ xs ++ above t y = above t m ∧ y ≤ m ∧ mm = y
theorem c_marks_above (T : Tp K mg) : Cl P w K mg base "marks_above" (0 + 1) ["tree", "mark"] spAbove := by
  obtain ⟨f, fd, F, hm⟩ := T.d_marks_above.ex
  have S := sc_marks_above
  have B := T.bn
  refine ⟨⟨f, fd, fnD F S (fun args M Q E h => by (repeat (obtain ⟨_, h⟩ := h)); subst_vars; rfl) (fun cdv A outer s H E hgd hr => ⟨_, (ds_cons (dss 2 S.nd (d_lstM (d_cons (dv 1) d_nil)))
  (ds_cons (ds_while (passes_of rfl) (dt_cmp o_gt (d_ix (dv 2) (d_un o_neg d_int) (fun _ _ => rfl)) d_int) (ds_one (ds_expr (d_append (dv 2) (d_cons (d_ix (d_ix (dv 0) (d_op o_sub (d_ix (dv 2) (d_un o_neg d_int) (fun _ _ => rfl)) d_int) (fun _ _ => rfl)) d_int (fun _ _ => rfl)) d_nil)))))
  (ds_one (ds_ret (dv 2))))), fun args M Q E' hM hA h => ?_⟩), hm, F.kp, (F.binds (ps := ["tree", "mark"]) fun _ _ _ _ _ _ us hl => match us, hl with | [_, _], _ => rfl)⟩, ?_⟩
  rotate_left
  · exact fun args M Q Q' E E' w _ ⟨x0, x1, x2, x3, x4, k⟩ => ⟨x0, x1, x2, x3, x4, w _ _ k⟩
  · obtain ⟨t, m, rfl, ht, hm, k⟩ := h
    walk_at "go1"
    refine ⟨invAbove t m M, ⟨m, [], m, rfl, rfl, rfl, Nat.le_refl _, rfl⟩, ?_⟩
    rintro mm ρ M' ⟨xs, y, rfl, rfl, e, hy, rfl⟩
    rw [List.map_append, List.map_cons, List.map_nil]
    walk_at "go1"
    refine ite_dec (fun hgt => ?_) (fun hgt => ?_)
    · obtain ⟨p, hp, e1, e2, plt⟩ := tree_get ht (m := mm) (by omega) (by omega)
      walk_at "go1"
      rw [tree_at (k := mm - 1) (by omega) hp]
      walk_at "go1"
      have hl := above_len t m
      have hl2 := congrArg List.length e
      rw [List.length_append] at hl2
      have hl3 := above_ne t mm
      have hl4 := List.length_pos_iff.mpr hl3
      have : t.length ≤ 11 := ht.1
      walk_at "go1"
      refine ⟨p.1, plt, xs ++ [mm], p.1, rfl, ?_, ?_, by omega, rfl⟩
      · simp
      · rw [← e, above_s t (show mm ≠ 0 by omega), e1]; simp
    · have : mm = 0 := by omega
      subst this
      walk_at "go1"
      rw [above_0] at e
      refine See.keep ?_
      rw [← e, List.map_append] at k
      exact k
def spWay : DSp := fun args M Q _ => ∃ t i j, args = [treeD t, natD i, natD j] ∧ TreeOk t ∧ i ≤ t.length ∧ j ≤ t.length ∧ Q (.tup ((lway t i j).map natD)) M
def invWay (t : Tr) (i j : Nat) (M : Sto) : Nat → Dn → Sto → Prop := fun mm ρ M' => ∃ A B, ρ = ⟨[some (treeD t), some (natD i), some (natD j), some (.ref M.length), some (.ref (M.length + 1))], noX⟩ ∧ M' = M ++ [.lst (A.map natD)] ++ [.lst (B.map natD)] ∧ A ≠ [] ∧ B ≠ [] ∧ A.length ≤ 20 ∧ B.length ≤ 20 ∧ join (strip A.reverse B.reverse) = lway t i j ∧ mm = A.length
theorem c_way_between (T : Tp K mg) : Cl P w K mg base "way_between" (1 + 1) ["tree", "one", "other"] spWay := by
  obtain ⟨f, fd, F, hm⟩ := T.d_way_between.ex
  have S := sc_way_between
  have B := T.bn
  have c_marks_above := @c_marks_above P w K mg base T
  refine ⟨⟨f, fd, fnD F S (fun args M Q E h => by (repeat (obtain ⟨_, h⟩ := h)); subst_vars; rfl) (fun cdv A outer s H E hgd hr => ⟨_, (ds_cons (dsp2 3 4 S.nd (d_cons (d_cl c_marks_above hgd (hr.mono (by first | decide | omega)) (d_cons (dv 0) (d_cons (dv 1) d_nil))) (d_cons (d_cl c_marks_above hgd (hr.mono (by first | decide | omega)) (d_cons (dv 0) (d_cons (dv 2) d_nil))) d_nil)))
  (ds_cons (ds_while (passes_of rfl) (DW.dt (dw_and (dt_cmp o_gt (d_callB o_len (by rfl) B.len b_len (d_cons (dv 3) d_nil)) d_int) (dw_and (dt_cmp o_gt (d_callB o_len (by rfl) B.len b_len (d_cons (dv 4) d_nil)) d_int) (dw_and1 (dt_cmp (o_eq hr.units) (d_ix (dv 3) (d_un o_neg d_int) (fun _ _ => rfl)) (d_ix (dv 4) (d_un o_neg d_int) (fun _ _ => rfl))))))) (ds_cons (ds_expr (d_pop (dv 3)))
  (ds_one (ds_expr (d_pop (dv 4))))))
  (ds_one (ds_ret (d_tup (d_star (dv 3) (d_star (d_sliceS (dv 4) (do_some (d_un o_neg d_int)) do_none (do_some (d_un o_neg d_int))) d_nil))))))), fun args M Q E' hM hA h => ?_⟩), hm, F.kp, (F.binds (ps := ["tree", "one", "other"]) fun _ _ _ _ _ _ us hl => match us, hl with | [_, _, _], _ => rfl)⟩, ?_⟩
  rotate_left
  · exact fun args M Q Q' E E' w _ ⟨x0, x1, x2, x3, x4, x5, x6, k⟩ => ⟨x0, x1, x2, x3, x4, x5, x6, w _ _ k⟩
  · obtain ⟨t, i, j, rfl, ht, hi, hj, k⟩ := h
    have hi2 := above_len t i
    have hj2 := above_len t j
    have ht1 := ht.1
    walk_at "go1"
    refine ⟨t, i, rfl, ht, hi, ?_⟩
    walk_at "go1"
    refine ⟨t, j, rfl, ht, hj, ?_⟩
    walk_at "go1"
    refine ⟨invWay t i j M, ⟨_, above t i, above t j, rfl, rfl, above_ne t i, above_ne t j, by omega, by omega, way_eq t i j, rfl⟩, ?_⟩
    rintro mm ρ M' ⟨A, B, rfl, rfl, hA, hB, lA, lB, e, rfl⟩
    have out : (∀ a x y b z u, A = a ++ [x] ++ [y] → B = b ++ [z] ++ [u] → x ≠ z) → See M.length Q (.tup (A.map natD ++ (pick (B.map natD) (some (-2)) none (some (-1))))) (M ++ [.lst (A.map natD)] ++ [.lst (B.map natD)]) := fun hs => by
      rw [pick_back2 _ (by simpa using hB), ← List.map_dropLast, ← List.map_reverse, ← List.map_append]
      rw [strip_stop hs] at e
      rw [e]
      exact See.drop2 (bel_nat _ _) hM k
    have lp : (pick (B.map natD) (some (-2)) none (some (-1))).length ≤ 20 := by
      rw [pick_back2 _ (by simpa using hB), List.length_reverse, List.length_dropLast, List.length_map]; omega
    walk_at "go1"
    refine ite_dec (fun h1 => ?_) (fun h1 => ?_)
    rotate_left
    · walk_at "go1"
      refine out (fun a x y b z u ea eb => absurd (congrArg List.length ea) (by simp; omega))
    walk_at "go1"
    refine ite_dec (fun h2 => ?_) (fun h2 => ?_)
    rotate_left
    · walk_at "go1"
      refine out (fun a x y b z u ea eb => absurd (congrArg List.length eb) (by simp; omega))
    obtain ⟨a, x, y, rfl⟩ := two_back (xs := A) (by omega)
    obtain ⟨b, z, u, rfl⟩ := two_back (xs := B) (by omega)
    simp only [List.map_append, List.map_cons, List.map_nil] at out lp ⊢
    walk_at "go1"
    refine ite_dec (fun h3 => ?_) (fun h3 => ?_)
    · have hxz : x = z := by omega
      subst hxz
      walk_at "go1"
      refine ⟨(a ++ [x]).length, by simp, a ++ [x], b ++ [x], rfl, by simp, by simp, by simp, by simp at lA ⊢; omega, by simp at lB ⊢; omega, ?_, rfl⟩
      rw [strip_step] at e
      exact e
    · walk_at "go1"
      simp only [List.length_append, List.length_cons, List.length_nil] at lA lB
      refine ⟨by omega, out (fun a' x' y' b' z' u' ea eb => ?_)⟩
      have h4 := List.append_inj' ea rfl
      have h5 := List.append_inj' h4.1 rfl
      have h6 := List.append_inj' eb rfl
      have h7 := List.append_inj' h6.1 rfl
      have h8 : x = x' := by simpa using h5.2
      have h9 : z = z' := by simpa using h7.2
      omega
def spDist : DSp := fun args M Q _ => ∃ t i j, args = [treeD t, natD i, natD j] ∧ TreeOk t ∧ i ≤ t.length ∧ j ≤ t.length ∧ Q (.int (dist t i j)) M
@[reducible] def legF (t : Tr) : D → D := fun d => match d with
  | .tup [.int x, .int y] => .int (ln t (max x y).toNat)
  | d => d
theorem legs_zip (t : Tr) : ∀ w : List Nat, (zipD (w.map natD) ((w.map natD).drop 1)).map (legF t) = (legs t w).map D.int
  | [] => rfl
  | [x] => rfl
  | x :: y :: r => by
    have ih := legs_zip t (y :: r)
    show legF t (.tup [natD x, natD y]) :: (zipD ((y :: r).map natD) (((y :: r).map natD).drop 1)).map (legF t) = _
    rw [ih]
    show D.int _ :: _ = D.int _ :: _
    rw [show (max (x : Int) (y : Int)).toNat = max x y by omega]
theorem c_distance_between (T : Tp K mg) : Cl P w K mg base "distance_between" (2 + 1) ["tree", "one", "other"] spDist := by
  obtain ⟨f, fd, F, hm⟩ := T.d_distance_between.ex
  have S := sc_distance_between
  have B := T.bn
  have c_way_between := @c_way_between P w K mg base T
  refine ⟨⟨f, fd, fnD F S (fun args M Q E h => by (repeat (obtain ⟨_, h⟩ := h)); subst_vars; rfl) (fun cdv A outer s H E hgd hr => ⟨_, (ds_cons (dss 3 S.nd (d_cl c_way_between hgd (hr.mono (by first | decide | omega)) (d_cons (dv 0) (d_cons (dv 1) (d_cons (dv 2) d_nil)))))
  (ds_one (ds_ret (d_callB (o_sum rfl) (by rfl) B.sum b_sum (d_cons (d_lcI (own := [("mark", 4), ("after", 5)]) rfl S.nd (di_zip (by rfl) B.zip (d_cons (dv 3) (d_cons (d_slice (dv 3) (do_some d_int) do_none) d_nil))) (blkOk_by (N := ["tree", "one", "other", "way", "mark", "after"]) (sc := defScope s_distance_between) (by decide +kernel)) (by decide) (fun _ _ _ _ _ => (dg_tup (n := 2) rfl (dgs_cons (dgn 4 S.nd) (dgs_cons (dgn 5 S.nd) dgs_nil)))) (fun _ _ _ _ _ => dts_nil) (fun _ _ _ _ _ => (d_ix (d_ix (dv 0) (d_op o_sub (d_callB (o_max2 rfl) (by rfl) B.max b_max (d_cons (dv 4) (d_cons (dv 5) d_nil))) d_int) (fun _ _ => rfl)) d_int (fun _ _ => rfl)))) d_nil))))), fun args M Q E' hM hA h => ?_⟩), hm, F.kp, (F.binds (ps := ["tree", "one", "other"]) fun _ _ _ _ _ _ us hl => match us, hl with | [_, _, _], _ => rfl)⟩, ?_⟩
  rotate_left
  · exact fun args M Q Q' E E' w _ ⟨x0, x1, x2, x3, x4, x5, x6, k⟩ => ⟨x0, x1, x2, x3, x4, x5, x6, w _ _ k⟩
  · obtain ⟨t, i, j, rfl, ht, hi, hj, k⟩ := h
    walk_at "go1"
    refine ⟨t, i, j, rfl, ht, hi, hj, ?_⟩
    walk_at "go1"
    have ll := lway_len t i j
    have ht1 := ht.1
    have lm := lway_mem t i j
    have l2 := lway_ok2 t i j
    rw [cut_1]
    refine lc_map (legF t) trivial ?_ (fun d hd kk hk => ?_) ?_
    · unfold zipD
      rw [List.length_zipWith, List.length_map]
      omega
    · obtain ⟨q, hq, e⟩ := List.getElem_of_mem hd
      obtain ⟨x, y, e1, e2, rfl⟩ := zipD_get (List.getElem?_eq_getElem hq |>.trans (congrArg some e))
      rw [List.getElem?_drop, List.getElem?_map] at e2
      rw [List.getElem?_map] at e1
      cases ex : (lway t i j)[q]? with
      | none => rw [ex] at e1; cases e1
      | some xn =>
        rw [ex] at e1
        cases ey : (lway t i j)[1 + q]? with
        | none => rw [ey] at e2; cases e2
        | some yn =>
          rw [ey] at e2
          cases e1
          cases e2
          have hne := Ok2_get l2 ex (by rw [Nat.add_comm]; exact ey)
          have hx := lm xn (List.mem_of_getElem? ex)
          have hy := lm yn (List.mem_of_getElem? ey)
          obtain ⟨p, hp, p1, p2, p3⟩ := tree_get ht (m := max xn yn) (by omega) (by omega)
          walk_at "go1"
          rw [tree_at (k := max xn yn - 1) (by split <;> omega) hp]
          walk_at "go1"
          have e5 : legF t (.tup [natD xn, natD yn]) = .int p.2 := by
            show D.int (ln t (max (xn : Int) (yn : Int)).toNat) = _
            rw [show (max (xn : Int) (yn : Int)).toNat = max xn yn by omega, p2]
          rw [e5] at hk
          exact hk
    · walk_at "go1"
      rw [legs_zip, intsOf_map]
      walk_at "go1"
      rw [legs_sum]
      exact See.keep k
def spMark : DSp := fun args M Q _ => ∃ (t : Tr) (v : Int), args = [treeD t, .int v] ∧ TreeOk t ∧ Q (.bl (decide (0 ≤ v ∧ v ≤ (t.length : Int)))) M
theorem c_is_mark (T : Tp K mg) : Cl P w K mg base "is_mark" (1 + 1) ["tree", "value"] spMark := by
  obtain ⟨f, fd, F, hm⟩ := T.d_is_mark.ex
  have S := sc_is_mark
  have B := T.bn
  have c_is_number := @c_is_number P w K mg base T
  refine ⟨⟨f, fd, fnD F S (fun args M Q E h => by (repeat (obtain ⟨_, h⟩ := h)); subst_vars; rfl) (fun cdv A outer s H E hgd hr => ⟨_, (ds_one (ds_ret (d_cl c_is_number hgd (hr.mono (by first | decide | omega)) (d_cons (dv 1) (d_cons d_int (d_cons (d_callB o_len (by rfl) B.len b_len (d_cons (dv 0) d_nil)) d_nil)))))), fun args M Q E' hM hA h => ?_⟩), hm, F.kp, (F.binds (ps := ["tree", "value"]) fun _ _ _ _ _ _ us hl => match us, hl with | [_, _], _ => rfl)⟩, ?_⟩
  rotate_left
  · exact fun args M Q Q' E E' w _ ⟨x0, x1, x2, x3, k⟩ => ⟨x0, x1, x2, x3, w _ _ k⟩
  · obtain ⟨t, v, rfl, ht, k⟩ := h
    have ht1 := ht.1
    walk_at "go1"
    exact ⟨v, 0, _, rfl, See.keep k⟩
def spTick : DSp := fun args M Q _ => ∃ (v : Int), args = [.int v] ∧ Q (.bl (decide (0 ≤ v ∧ v ≤ 1000000000))) M
theorem c_is_tick (T : Tp K mg) : Cl P w K mg base "is_tick" (1 + 1) ["value"] spTick := by
  obtain ⟨f, fd, F, hm⟩ := T.d_is_tick.ex
  have S := sc_is_tick
  have B := T.bn
  have c_is_number := @c_is_number P w K mg base T
  obtain ⟨t_MAX_TICK, m_MAX_TICK⟩ := T.k_MAX_TICK
  refine ⟨⟨f, fd, fnD F S (fun args M Q E h => by (repeat (obtain ⟨_, h⟩ := h)); subst_vars; rfl) (fun cdv A outer s H E hgd hr => ⟨_, (ds_one (ds_ret (d_cl c_is_number hgd (hr.mono (by first | decide | omega)) (d_cons (dv 0) (d_cons d_int (d_cons (d_glob (by rfl) m_MAX_TICK) d_nil)))))), fun args M Q E' hM hA h => ?_⟩), hm, F.kp, (F.binds (ps := ["value"]) fun _ _ _ _ _ _ us hl => match us, hl with | [_], _ => rfl)⟩, ?_⟩
  rotate_left
  · exact fun args M Q Q' E E' w _ ⟨x0, x1, k⟩ => ⟨x0, x1, w _ _ k⟩
  · obtain ⟨v, rfl, k⟩ := h
    walk_at "go1"
    exact ⟨v, 0, _, rfl, See.keep k⟩
def spPush : DSp := fun args M Q _ => ∃ (t : Tr) (p : Nat × Int), args = [treeD t, pushD p] ∧ TreeOk t ∧ PushOk t p ∧ Q (.bl true) M
theorem c_is_push (T : Tp K mg) : Cl P w K mg base "is_push" (2 + 1) ["tree", "value"] spPush := by
  obtain ⟨f, fd, F, hm⟩ := T.d_is_push.ex
  have S := sc_is_push
  have B := T.bn
  have c_is_mark := @c_is_mark P w K mg base T
  have c_is_tick := @c_is_tick P w K mg base T
  refine ⟨⟨f, fd, fnD F S (fun args M Q E h => by (repeat (obtain ⟨_, h⟩ := h)); subst_vars; rfl) (fun cdv A outer s H E hgd hr => ⟨_, (ds_one (ds_ret (d_and (d_isi tab_tuple (by rfl) B.isinstance (by rfl) B.tuple b_tuple (dv 1)) (d_and (d_cmp (o_eq hr.units) (d_callB o_len (by rfl) B.len b_len (d_cons (dv 1) d_nil)) d_int) (d_and (d_cl c_is_mark hgd (hr.mono (by first | decide | omega)) (d_cons (dv 0) (d_cons (d_ix (dv 1) d_int (fun _ _ => rfl)) d_nil))) (d_one (d_cl c_is_tick hgd (hr.mono (by first | decide | omega)) (d_cons (d_ix (dv 1) d_int (fun _ _ => rfl)) d_nil)))))))), fun args M Q E' hM hA h => ?_⟩), hm, F.kp, (F.binds (ps := ["tree", "value"]) fun _ _ _ _ _ _ us hl => match us, hl with | [_, _], _ => rfl)⟩, ?_⟩
  rotate_left
  · exact fun args M Q Q' E E' w _ ⟨x0, x1, x2, x3, x4, k⟩ => ⟨x0, x1, x2, x3, x4, w _ _ k⟩
  · obtain ⟨t, ⟨p, z⟩, rfl, ht, hp, k⟩ := h
    obtain ⟨h1, h2, h3⟩ := hp
    dsimp only at h1 h2 h3
    walk_at "go1"
    refine ⟨t, p, rfl, ht, ?_⟩
    rw [decide_eq_true ⟨by omega, by omega⟩]
    walk_at "go1"
    refine ⟨z, rfl, ?_⟩
    rw [decide_eq_true ⟨by omega, by omega⟩]
    walk_at "go1"
    exact See.keep k
theorem push_of {args : List D} {M : Sto} {Q : DK} {E : DXK} (h : spPush args M Q E) : spPush args M Q E := h
def spCheck : DSp := fun args M Q _ => ∃ (t : Tr) (ps : List (Nat × Int)), args = [treeD t, .tup (ps.map pushD)] ∧ TreeOk t ∧ PsOk t ps ∧ Q .non M
def invChk (t : Tr) (ps : List (Nat × Int)) (M0 : Sto) : List D → List D → Dn → Sto → Prop := fun done todo ρ M => done ++ todo = enumD 0 (ps.map pushD) ∧ M = M0 ∧ ∃ (x2 x3 : Option D), ρ = ⟨[some (treeD t), some (.tup (ps.map pushD)), x2, x3], noX⟩
theorem c_check_pushes (T : Tp K mg) : Cl P w K mg base "check_pushes" (3 + 1) ["tree", "value"] spCheck := by
  obtain ⟨f, fd, F, hm⟩ := T.d_check_pushes.ex
  have S := sc_check_pushes
  have B := T.bn
  have c_is_push := @c_is_push P w K mg base T
  obtain ⟨t_MAX_PUSHES, m_MAX_PUSHES⟩ := T.k_MAX_PUSHES
  refine ⟨⟨f, fd, fnD F S (fun args M Q E h => by (repeat (obtain ⟨_, h⟩ := h)); subst_vars; rfl) (fun cdv A outer s H E hgd hr => ⟨_, (ds_cons (ds_if (DW.dt (dw_or (dt_not (dt_val (d_isi tab_tuple (by rfl) B.isinstance (by rfl) B.tuple b_tuple (dv 1)))) (dw_or1 (dt_not (dt_chain o_le o_le d_int (d_callB o_len (by rfl) B.len b_len (d_cons (dv 1) d_nil)) (d_glob (by rfl) m_MAX_PUSHES)))))) (ds_one ds_never) ds_nil)
  (ds_one (ds_forI (passes_of rfl) rfl (di_enum (by rfl) B.enumerate (d_cons (dv 1) d_nil)) (dg_tup (n := 2) rfl (dgs_cons (dgn 2 S.nd) (dgs_cons (dgn 3 S.nd) dgs_nil))) (ds_one (ds_if (dt_not (dt_val (d_cl c_is_push hgd (hr.mono (by first | decide | omega)) (d_cons (dv 0) (d_cons (dv 3) d_nil))))) (ds_one ds_never) ds_nil))))), fun args M Q E' hM hA h => ?_⟩), hm, F.kp, (F.binds (ps := ["tree", "value"]) fun _ _ _ _ _ _ us hl => match us, hl with | [_, _], _ => rfl)⟩, ?_⟩
  rotate_left
  · exact fun args M Q Q' E E' w _ ⟨x0, x1, x2, x3, x4, k⟩ => ⟨x0, x1, x2, x3, x4, w _ _ k⟩
  · obtain ⟨t, ps, rfl, ht, hp, k⟩ := h
    have h0 := List.length_pos_iff.mpr hp.1
    have h1 := hp.2.1
    walk_at "go1"
    rw [show decide ((1 : Int) ≤ (ps.length : Int)) = true from decide_eq_true (by omega)]
    walk_at "go1"
    rw [show decide ((ps.length : Int) ≤ 20) = true from decide_eq_true (by omega)]
    walk_at "go1"
    refine ⟨invChk t ps M, ⟨rfl, rfl, none, none, rfl⟩, fun _ _ _ _ _ => trivial, ?_, ?_⟩
    · rintro done d todo ρ M' ⟨e, rfl, x2, x3, rfl⟩
      have e0 := e
      rw [enum_map] at e
      obtain ⟨q, hq, rfl, hlt⟩ := map_mid e
      have hpq := hp.2.2 q.1 (List.mem_of_getElem? (idx_at hq).2)
      walk_at "go1"
      refine push_of ⟨t, q.1, rfl, ht, hpq, ?_⟩
      walk_at "go1"
      exact ⟨by rw [← e0]; simp, rfl, _, _, rfl⟩
    · rintro done ρ M' ⟨e, rfl, x2, x3, rfl⟩
      walk_at "go1"
      exact See.keep k
def spFallAt : DSp := fun args M Q _ => ∃ (t : Tr) (ps : List (Nat × Int)) (m : Nat), args = [treeD t, .tup (ps.map pushD), natD m] ∧ TreeOk t ∧ ps ≠ [] ∧ ps.length ≤ 1000 ∧ (∀ p ∈ ps, p.1 ≤ t.length) ∧ m ≤ t.length ∧ Q (.int (fallT t ps m)) M
theorem c_fall_at (T : Tp K mg) : Cl P w K mg base "fall_at" (3 + 1) ["tree", "pushes", "mark"] spFallAt := by
  obtain ⟨f, fd, F, hm⟩ := T.d_fall_at.ex
  have S := sc_fall_at
  have B := T.bn
  have c_distance_between := @c_distance_between P w K mg base T
  refine ⟨⟨f, fd, fnD F S (fun args M Q E h => by (repeat (obtain ⟨_, h⟩ := h)); subst_vars; rfl) (fun cdv A outer s H E hgd hr => ⟨_, (ds_one (ds_ret (d_callB (o_minA rfl) (by rfl) B.min b_min (d_cons (d_lcI (own := [("own", 3), ("tick", 4)]) rfl S.nd (di_seq (dv 1)) (blkOk_by (N := ["tree", "pushes", "mark", "own", "tick"]) (sc := defScope s_fall_at) (by decide +kernel)) (by decide) (fun _ _ _ _ _ => (dg_tup (n := 2) rfl (dgs_cons (dgn 3 S.nd) (dgs_cons (dgn 4 S.nd) dgs_nil)))) (fun _ _ _ _ _ => dts_nil) (fun _ _ _ _ _ => (d_op o_add (dv 4) (d_cl c_distance_between hgd (hr.mono (by first | decide | omega)) (d_cons (dv 0) (d_cons (dv 3) (d_cons (dv 2) d_nil))))))) d_nil)))), fun args M Q E' hM hA h => ?_⟩), hm, F.kp, (F.binds (ps := ["tree", "pushes", "mark"]) fun _ _ _ _ _ _ us hl => match us, hl with | [_, _, _], _ => rfl)⟩, ?_⟩
  rotate_left
  · exact fun args M Q Q' E E' w _ ⟨x0, x1, x2, x3, x4, x5, x6, x7, x8, k⟩ => ⟨x0, x1, x2, x3, x4, x5, x6, x7, x8, w _ _ k⟩
  · obtain ⟨t, ps, m, rfl, ht, h0, h1, hp, hm, k⟩ := h
    walk_at "go1"
    refine lc_mapL pushD (fun p => D.int (p.2 + dist t p.1 m)) trivial (by omega) (fun p hx kk hk => ?_) ?_
    · have := hp p hx
      walk_at "go1"
      refine ⟨t, p.1, m, rfl, ht, this, hm, ?_⟩
      walk_at "go1"
      exact hk
    rw [show ps.map (fun p => D.int (p.2 + dist t p.1 m)) = (ps.map fun p => p.2 + dist t p.1 m).map D.int by rw [List.map_map]; rfl]
    walk_at "go2"
    refine ⟨by simpa using h0, ?_⟩
    exact See.keep k
def spFallsBy : DSp := fun args M Q _ => ∃ (t : Tr) (ps : List (Nat × Int)), args = [treeD t, .tup (ps.map pushD)] ∧ TreeOk t ∧ ps ≠ [] ∧ ps.length ≤ 1000 ∧ (∀ p ∈ ps, p.1 ≤ t.length) ∧ Q (tabD (fallsT t ps)) M
theorem c_falls_by (T : Tp K mg) : Cl P w K mg base "falls_by" (4 + 1) ["tree", "pushes"] spFallsBy := by
  obtain ⟨f, fd, F, hm⟩ := T.d_falls_by.ex
  have S := sc_falls_by
  have B := T.bn
  have c_fall_at := @c_fall_at P w K mg base T
  refine ⟨⟨f, fd, fnD F S (fun args M Q E h => by (repeat (obtain ⟨_, h⟩ := h)); subst_vars; rfl) (fun cdv A outer s H E hgd hr => ⟨_, (ds_one (ds_ret (d_callTy o_tuple (by rfl) B.tuple b_tuple (d_cons (d_lcI (own := [("mark", 2)]) rfl S.nd (di_range1 (by rfl) B.range (d_cons (d_op o_add (d_callB o_len (by rfl) B.len b_len (d_cons (dv 0) d_nil)) d_int) d_nil)) (blkOk_by (N := ["tree", "pushes", "mark"]) (sc := defScope s_falls_by) (by decide +kernel)) (by decide) (fun _ _ _ _ _ => (dgn 2 S.nd)) (fun _ _ _ _ _ => dts_nil) (fun _ _ _ _ _ => (d_cl c_fall_at hgd (hr.mono (by first | decide | omega)) (d_cons (dv 0) (d_cons (dv 1) (d_cons (dv 2) d_nil)))))) d_nil)))), fun args M Q E' hM hA h => ?_⟩), hm, F.kp, (F.binds (ps := ["tree", "pushes"]) fun _ _ _ _ _ _ us hl => match us, hl with | [_, _], _ => rfl)⟩, ?_⟩
  rotate_left
  · exact fun args M Q Q' E E' w _ ⟨x0, x1, x2, x3, x4, x5, x6, k⟩ => ⟨x0, x1, x2, x3, x4, x5, x6, w _ _ k⟩
  · obtain ⟨t, ps, rfl, ht, h0, h1, hp, k⟩ := h
    have ht1 := ht.1
    walk_at "go1"
    rw [show ((t.length : Int) + 1).toNat = t.length + 1 by omega]
    refine lc_rng (fun m => D.int (fallT t ps m)) trivial (by omega) (fun m hm kk hk => ?_) ?_
    · walk_at "go1"
      exact ⟨t, ps, m, rfl, ht, h0, h1, hp, by omega, hk⟩
    walk_at "go1"
    rw [show (List.range (t.length + 1)).map (fun m => D.int (fallT t ps m)) = (fallsT t ps).map D.int by unfold fallsT; rw [List.map_map]; rfl]
    exact See.keep k
def spFallsOf : DSp := fun args M Q _ => ∃ (t : Tr) (ps : List (Nat × Int)), args = [treeD t, .tup (ps.map pushD)] ∧ TreeOk t ∧ PsOk t ps ∧ Q (tabD (fallsT t ps)) M
theorem c_falls_of (T : Tp K mg) : Cl P w K mg base "falls_of" (5 + 1) ["tree", "value"] spFallsOf := by
  obtain ⟨f, fd, F, hm⟩ := T.d_falls_of.ex
  have S := sc_falls_of
  have B := T.bn
  have c_check_pushes := @c_check_pushes P w K mg base T
  have c_falls_by := @c_falls_by P w K mg base T
  refine ⟨⟨f, fd, fnD F S (fun args M Q E h => by (repeat (obtain ⟨_, h⟩ := h)); subst_vars; rfl) (fun cdv A outer s H E hgd hr => ⟨_, (ds_cons (ds_expr (d_cl c_check_pushes hgd (hr.mono (by first | decide | omega)) (d_cons (dv 0) (d_cons (dv 1) d_nil))))
  (ds_one (ds_ret (d_cl c_falls_by hgd (hr.mono (by first | decide | omega)) (d_cons (dv 0) (d_cons (dv 1) d_nil)))))), fun args M Q E' hM hA h => ?_⟩), hm, F.kp, (F.binds (ps := ["tree", "value"]) fun _ _ _ _ _ _ us hl => match us, hl with | [_, _], _ => rfl)⟩, ?_⟩
  rotate_left
  · exact fun args M Q Q' E E' w _ ⟨x0, x1, x2, x3, x4, k⟩ => ⟨x0, x1, x2, x3, x4, w _ _ k⟩
  · obtain ⟨t, ps, rfl, ht, hp, k⟩ := h
    have h1 := hp.2.1
    walk_at "go1"
    refine ⟨t, ps, rfl, ht, hp, ?_⟩
    walk_at "go1"
    exact ⟨t, ps, rfl, ht, hp.1, by omega, fun p h => (hp.2.2 p h).1, See.keep k⟩
def spRowG : DSp := fun args M Q _ => ∃ (k : Nat) (p : Nat × Nat), args = [natD k, rowD p] ∧ p.1 ≤ k ∧ 1 ≤ p.2 ∧ p.2 ≤ 1000000 ∧ Q (.bl true) M
theorem c_is_row (T : Tp K mg) : Cl P w K mg base "is_row" (1 + 1) ["index", "value"] spRowG := by
  obtain ⟨f, fd, F, hm⟩ := T.d_is_row.ex
  have S := sc_is_row
  have B := T.bn
  have c_is_number := @c_is_number P w K mg base T
  obtain ⟨t_MAX_LENGTH, m_MAX_LENGTH⟩ := T.k_MAX_LENGTH
  refine ⟨⟨f, fd, fnD F S (fun args M Q E h => by (repeat (obtain ⟨_, h⟩ := h)); subst_vars; rfl) (fun cdv A outer s H E hgd hr => ⟨_, (ds_cons (ds_if (DW.dt (dw_or (dt_not (dt_val (d_isi tab_tuple (by rfl) B.isinstance (by rfl) B.tuple b_tuple (dv 1)))) (dw_or1 (dt_cmp (o_ne hr.units) (d_callB o_len (by rfl) B.len b_len (d_cons (dv 1) d_nil)) d_int)))) (ds_one (ds_ret d_bl)) ds_nil)
  (ds_one (ds_ret (d_and (d_cl c_is_number hgd (hr.mono (by first | decide | omega)) (d_cons (d_ix (dv 1) d_int (fun _ _ => rfl)) (d_cons d_int (d_cons (dv 0) d_nil)))) (d_one (d_cl c_is_number hgd (hr.mono (by first | decide | omega)) (d_cons (d_ix (dv 1) d_int (fun _ _ => rfl)) (d_cons d_int (d_cons (d_glob (by rfl) m_MAX_LENGTH) d_nil))))))))), fun args M Q E' hM hA h => ?_⟩), hm, F.kp, (F.binds (ps := ["index", "value"]) fun _ _ _ _ _ _ us hl => match us, hl with | [_, _], _ => rfl)⟩, ?_⟩
  rotate_left
  · exact fun args M Q Q' E E' w _ ⟨x0, x1, x2, x3, x4, x5, k⟩ => ⟨x0, x1, x2, x3, x4, x5, w _ _ k⟩
  · obtain ⟨k0, ⟨a, b⟩, rfl, h1, h2, h3, k⟩ := h
    dsimp only at h1 h2 h3
    walk_at "go1"
    refine ⟨a, 0, k0, rfl, ?_⟩
    rw [decide_eq_true ⟨by omega, by omega⟩]
    walk_at "go1"
    refine ⟨b, 1, 1000000, rfl, ?_⟩
    rw [decide_eq_true ⟨by omega, by omega⟩]
    exact See.keep k
theorem row_of {args : List D} {M : Sto} {Q : DK} {E : DXK} (h : spRowG args M Q E) : spRowG args M Q E := h
def spErrG : DSp := fun args M Q _ => ∃ (t : Tr), args = [treeD t] ∧ TreeOk t ∧ Q .non M
def invErrG (t : Tr) (M0 : Sto) : List D → List D → Dn → Sto → Prop := fun done todo ρ M => done ++ todo = enumD 0 (t.map rowD) ∧ M = M0 ∧ ∃ (x1 x2 : Option D), ρ = ⟨[some (treeD t), x1, x2], noX⟩
theorem c_tree_error (T : Tp K mg) : Cl P w K mg base "tree_error" (2 + 1) ["value"] spErrG := by
  obtain ⟨f, fd, F, hm⟩ := T.d_tree_error.ex
  have S := sc_tree_error
  have B := T.bn
  have c_is_row := @c_is_row P w K mg base T
  obtain ⟨t_MAX_MARKS, m_MAX_MARKS⟩ := T.k_MAX_MARKS
  refine ⟨⟨f, fd, fnD F S (fun args M Q E h => by (repeat (obtain ⟨_, h⟩ := h)); subst_vars; rfl) (fun cdv A outer s H E hgd hr => ⟨_, (ds_cons (ds_if (DW.dt (dw_or (dt_not (dt_val (d_isi tab_tuple (by rfl) B.isinstance (by rfl) B.tuple b_tuple (dv 0)))) (dw_or1 (dt_cmp o_ge (d_callB o_len (by rfl) B.len b_len (d_cons (dv 0) d_nil)) (d_glob (by rfl) m_MAX_MARKS))))) (ds_one (ds_ret (d_tup (d_cons d_non (d_cons d_str d_nil))))) ds_nil)
  (ds_cons (ds_forI (passes_of rfl) rfl (di_enum (by rfl) B.enumerate (d_cons (dv 0) d_nil)) (dg_tup (n := 2) rfl (dgs_cons (dgn 1 S.nd) (dgs_cons (dgn 2 S.nd) dgs_nil))) (ds_one (ds_if (dt_not (dt_val (d_cl c_is_row hgd (hr.mono (by first | decide | omega)) (d_cons (dv 1) (d_cons (dv 2) d_nil))))) (ds_one (ds_ret (d_tup (d_cons (dv 1) (d_cons d_str d_nil))))) ds_nil)))
  (ds_one (ds_ret d_non)))), fun args M Q E' hM hA h => ?_⟩), hm, F.kp, (F.binds (ps := ["value"]) fun _ _ _ _ _ _ us hl => match us, hl with | [_], _ => rfl)⟩, ?_⟩
  rotate_left
  · exact fun args M Q Q' E E' w _ ⟨x0, x1, x2, k⟩ => ⟨x0, x1, x2, w _ _ k⟩
  · obtain ⟨t, rfl, ht, k⟩ := h
    have ht1 := ht.1
    walk_at "go1"
    rw [show decide ((12 : Int) ≤ (t.length : Int)) = false from decide_eq_false (by omega)]
    walk_at "go1"
    refine ⟨invErrG t M, ⟨rfl, rfl, none, none, rfl⟩, fun _ _ _ _ _ => trivial, ?_, ?_⟩
    · rintro done d todo ρ M' ⟨e, rfl, x1, x2, rfl⟩
      have e0 := e
      rw [enum_map] at e
      obtain ⟨q, hq, rfl, hlt⟩ := map_mid e
      obtain ⟨hq1, hq2⟩ := idx_at hq
      have hr := ht.2 _ _ hq2
      walk_at "go1"
      refine row_of ⟨q.2, q.1, rfl, by omega, hr.2.1, hr.2.2, ?_⟩
      walk_at "go1"
      exact ⟨by rw [← e0]; simp, rfl, _, _, rfl⟩
    · rintro done ρ M' ⟨e, rfl, x1, x2, rfl⟩
      walk_at "go1"
      exact See.keep k
theorem c_is_within (T : Tp K mg) : Cl P w K mg base "is_within" (0 + 1) ["value", "low", "high"] spNum := by
  obtain ⟨f, fd, F, hm⟩ := T.d_is_within.ex
  have S := sc_is_within
  have B := T.bn
  refine ⟨⟨f, fd, fnD F S (fun args M Q E h => by (repeat (obtain ⟨_, h⟩ := h)); subst_vars; rfl) (fun cdv A outer s H E hgd hr => ⟨_, (ds_one (ds_ret (d_and (d_isi tab_int (by rfl) B.isinstance (by rfl) B.int b_int (dv 0)) (d_and (d_not (d_isi tab_bool (by rfl) B.isinstance (by rfl) B.bool b_bool (dv 0))) (d_one (d_chain o_le o_le (dv 1) (dv 0) (dv 2) (fun h1 h2 h3 h4 h5 => pe_chain h1 h2 h3 h4 h5))))))), fun args M Q E' hM hA h => ?_⟩), hm, F.kp, (F.binds (ps := ["value", "low", "high"]) fun _ _ _ _ _ _ us hl => match us, hl with | [_, _, _], _ => rfl)⟩, ?_⟩
  rotate_left
  · exact fun args M Q Q' E E' w _ ⟨x0, x1, x2, x3, k⟩ => ⟨x0, x1, x2, x3, w _ _ k⟩
  · obtain ⟨v, lo, hi, rfl, k⟩ := h
    walk_at "go1"
    by_cases h1 : lo ≤ v
    · rw [decide_eq_true h1]
      walk_at "go1"
      rw [show decide (v ≤ hi) = decide (lo ≤ v ∧ v ≤ hi) by simp [h1]]
      exact See.keep k
    · rw [decide_eq_false h1]
      walk_at "go1"
      rw [decide_eq_false (fun z => h1 z.1)] at k
      exact See.keep k
def spWith : DSp := fun args M Q _ => ∃ (t : Tr) (ps : Ps) (m : Nat) (v : Int), args = [treeD t, psD ps, natD m, .int v] ∧ t.length ≤ 11 ∧ ps.length < 20 ∧ PushOk t (m, v) ∧ Q (psD (ps ++ [(m, v)])) M
theorem c_with_push (T : Tp K mg) : Cl P w K mg base "with_push" (1 + 1) ["tree", "pushes", "mark", "tick"] spWith := by
  obtain ⟨f, fd, F, hm⟩ := T.d_with_push.ex
  have S := sc_with_push
  have B := T.bn
  have c_is_within := @c_is_within P w K mg base T
  obtain ⟨t_MAX_PUSHES, m_MAX_PUSHES⟩ := T.k_MAX_PUSHES
  obtain ⟨t_MAX_TICK, m_MAX_TICK⟩ := T.k_MAX_TICK
  refine ⟨⟨f, fd, fnD F S (fun args M Q E h => by (repeat (obtain ⟨_, h⟩ := h)); subst_vars; rfl) (fun cdv A outer s H E hgd hr => ⟨_, (ds_cons (ds_if (dt_not (dt_val (d_cl c_is_within hgd (hr.mono (by first | decide | omega)) (d_cons (dv 2) (d_cons d_int (d_cons (d_callB o_len (by rfl) B.len b_len (d_cons (dv 0) d_nil)) d_nil)))))) (ds_one ds_never) ds_nil)
  (ds_cons (ds_if (dt_not (dt_val (d_cl c_is_within hgd (hr.mono (by first | decide | omega)) (d_cons (dv 3) (d_cons d_int (d_cons (d_glob (by rfl) m_MAX_TICK) d_nil)))))) (ds_one ds_never) ds_nil)
  (ds_cons (ds_if (dt_cmp o_ge (d_callB o_len (by rfl) B.len b_len (d_cons (dv 1) d_nil)) (d_glob (by rfl) m_MAX_PUSHES)) (ds_one ds_never) ds_nil)
  (ds_one (ds_ret (d_tup (d_star (dv 1) (d_cons (d_tup (d_cons (dv 2) (d_cons (dv 3) d_nil))) d_nil)))))))), fun args M Q E' hM hA h => ?_⟩), hm, F.kp, (F.binds (ps := ["tree", "pushes", "mark", "tick"]) fun _ _ _ _ _ _ us hl => match us, hl with | [_, _, _, _], _ => rfl)⟩, ?_⟩
  rotate_left
  · exact fun args M Q Q' E E' w _ ⟨x0, x1, x2, x3, x4, x5, x6, x7, k⟩ => ⟨x0, x1, x2, x3, x4, x5, x6, x7, w _ _ k⟩
  · obtain ⟨t, ps, m, v, rfl, ht1, hl, hp, k⟩ := h
    obtain ⟨h1, h2, h3⟩ := hp
    dsimp only at h1 h2 h3
    walk_at "go1"
    refine ⟨m, 0, t.length, rfl, ?_⟩
    rw [decide_eq_true ⟨by omega, by omega⟩]
    walk_at "go1"
    refine ⟨v, 0, 1000000000, rfl, ?_⟩
    rw [decide_eq_true ⟨by omega, by omega⟩]
    walk_at "go1"
    rw [show decide ((20 : Int) ≤ (ps.length : Int)) = false from decide_eq_false (by omega)]
    walk_at "go1"
    refine See.keep ?_
    rw [show ps.map pushD ++ [D.tup [D.int (m : Int), D.int v]] = (ps ++ [(m, v)]).map pushD by rw [List.map_append]; rfl]
    exact k
def spWithout : DSp := fun args M Q _ => ∃ (ps : Ps) (i : Nat), args = [psD ps, natD i] ∧ ps.length ≤ 20 ∧ i < ps.length ∧ Q (psD (ps.take i ++ ps.drop (i + 1))) M
theorem c_without_push (T : Tp K mg) : Cl P w K mg base "without_push" (1 + 1) ["pushes", "index"] spWithout := by
  obtain ⟨f, fd, F, hm⟩ := T.d_without_push.ex
  have S := sc_without_push
  have B := T.bn
  have c_is_within := @c_is_within P w K mg base T
  refine ⟨⟨f, fd, fnD F S (fun args M Q E h => by (repeat (obtain ⟨_, h⟩ := h)); subst_vars; rfl) (fun cdv A outer s H E hgd hr => ⟨_, (ds_cons (ds_if (dt_not (dt_val (d_cl c_is_within hgd (hr.mono (by first | decide | omega)) (d_cons (dv 1) (d_cons d_int (d_cons (d_op o_sub (d_callB o_len (by rfl) B.len b_len (d_cons (dv 0) d_nil)) d_int) d_nil)))))) (ds_one ds_never) ds_nil)
  (ds_one (ds_ret (d_tup (d_star (d_slice (dv 0) do_none (do_some (dv 1))) (d_star (d_slice (dv 0) (do_some (d_op o_add (dv 1) d_int)) do_none) d_nil)))))), fun args M Q E' hM hA h => ?_⟩), hm, F.kp, (F.binds (ps := ["pushes", "index"]) fun _ _ _ _ _ _ us hl => match us, hl with | [_, _], _ => rfl)⟩, ?_⟩
  rotate_left
  · exact fun args M Q Q' E E' w _ ⟨x0, x1, x2, x3, x4, k⟩ => ⟨x0, x1, x2, x3, x4, w _ _ k⟩
  · obtain ⟨ps, i, rfl, hl, hi, k⟩ := h
    walk_at "go1"
    refine ⟨i, 0, (ps.length : Int) - 1, rfl, ?_⟩
    rw [decide_eq_true ⟨by omega, by omega⟩]
    have hc1 : cut (ps.map pushD) none (some (i : Int)) = (ps.take i).map pushD := by rw [cut_to, List.map_take]
    have hc2 : cut (ps.map pushD) (some ((i : Int) + 1)) none = (ps.drop (i + 1)).map pushD := by rw [show (i : Int) + 1 = ((i + 1 : Nat) : Int) from rfl, cut_from, List.map_drop]
    walk_at "go1"
    rw [hc1, hc2]
    walk_at "go1"
    refine ⟨by rw [List.length_take, List.length_drop]; omega, See.keep ?_⟩
    rw [← List.map_append]
    exact k
def spStretched : DSp := fun args M Q _ => ∃ (t : Tr) (m l : Nat), args = [treeD t, natD m, natD l] ∧ t.length ≤ 11 ∧ 1 ≤ m ∧ m ≤ t.length ∧ 1 ≤ l ∧ l ≤ 1000000 ∧ Q (treeD (t.take (m - 1) ++ [((t.getD (m - 1) (0, 0)).1, l)] ++ t.drop m)) M
theorem c_stretched (T : Tp K mg) : Cl P w K mg base "stretched" (1 + 1) ["tree", "mark", "length"] spStretched := by
  obtain ⟨f, fd, F, hm⟩ := T.d_stretched.ex
  have S := sc_stretched
  have B := T.bn
  have c_is_within := @c_is_within P w K mg base T
  obtain ⟨t_MAX_LENGTH, m_MAX_LENGTH⟩ := T.k_MAX_LENGTH
  refine ⟨⟨f, fd, fnD F S (fun args M Q E h => by (repeat (obtain ⟨_, h⟩ := h)); subst_vars; rfl) (fun cdv A outer s H E hgd hr => ⟨_, (ds_cons (ds_if (dt_not (dt_val (d_cl c_is_within hgd (hr.mono (by first | decide | omega)) (d_cons (dv 1) (d_cons d_int (d_cons (d_callB o_len (by rfl) B.len b_len (d_cons (dv 0) d_nil)) d_nil)))))) (ds_one ds_never) ds_nil)
  (ds_cons (ds_if (dt_not (dt_val (d_cl c_is_within hgd (hr.mono (by first | decide | omega)) (d_cons (dv 2) (d_cons d_int (d_cons (d_glob (by rfl) m_MAX_LENGTH) d_nil)))))) (ds_one ds_never) ds_nil)
  (ds_one (ds_ret (d_tup (d_star (d_slice (dv 0) do_none (do_some (d_op o_sub (dv 1) d_int))) (d_cons (d_tup (d_cons (d_ix (d_ix (dv 0) (d_op o_sub (dv 1) d_int) (fun _ _ => rfl)) d_int (fun _ _ => rfl)) (d_cons (dv 2) d_nil))) (d_star (d_slice (dv 0) (do_some (dv 1)) do_none) d_nil)))))))), fun args M Q E' hM hA h => ?_⟩), hm, F.kp, (F.binds (ps := ["tree", "mark", "length"]) fun _ _ _ _ _ _ us hl => match us, hl with | [_, _, _], _ => rfl)⟩, ?_⟩
  rotate_left
  · exact fun args M Q Q' E E' w _ ⟨x0, x1, x2, x3, x4, x5, x6, x7, x8, k⟩ => ⟨x0, x1, x2, x3, x4, x5, x6, x7, x8, w _ _ k⟩
  · obtain ⟨t, m, l, rfl, ht1, h1, h2, h3, h4, k⟩ := h
    walk_at "go1"
    refine ⟨m, 1, t.length, rfl, ?_⟩
    rw [decide_eq_true ⟨by omega, by omega⟩]
    walk_at "go1"
    refine ⟨l, 1, 1000000, rfl, ?_⟩
    rw [decide_eq_true ⟨by omega, by omega⟩]
    have hc1 : cut (t.map rowD) none (some ((m : Int) - 1)) = (t.take (m - 1)).map rowD := by rw [show (m : Int) - 1 = ((m - 1 : Nat) : Int) by omega, cut_to, List.map_take]
    have hc2 : cut (t.map rowD) (some (m : Int)) none = (t.drop m).map rowD := by rw [cut_from, List.map_drop]
    have hat : atI (t.map rowD) ((m : Int) - 1) = some (rowD (t.getD (m - 1) (0, 0))) := atI_of (j := m - 1) (by omega) (by rw [List.getElem?_map, List.getD_eq_getElem?_getD, List.getElem?_eq_getElem (show m - 1 < t.length by omega)]; rfl)
    walk_at "go1"
    rw [hat]
    walk_at "go1"
    rw [hc1, hc2]
    walk_at "go1"
    refine ⟨by rw [List.length_take, List.length_drop]; omega, See.keep ?_⟩
    rw [show (t.take (m - 1)).map rowD ++ D.tup [D.int ((t.getD (m - 1) (0, 0)).1 : Int), D.int (l : Int)] :: (t.drop m).map rowD = (t.take (m - 1) ++ [((t.getD (m - 1) (0, 0)).1, l)] ++ t.drop m).map rowD by simp]
    exact k
def spTableOf : DSp := fun args M Q _ => ∃ (s : FS), args = [treeD s.1, psD s.2] ∧ StOk s ∧ Q (tableD s) M
theorem c_table_of (T : Tp K mg) : Cl P w K mg base "table_of" (6 + 1) ["tree", "pushes"] spTableOf := by
  obtain ⟨f, fd, F, hm⟩ := T.d_table_of.ex
  have S := sc_table_of
  have B := T.bn
  have c_falls_of := @c_falls_of P w K mg base T
  refine ⟨⟨f, fd, fnD F S (fun args M Q E h => by (repeat (obtain ⟨_, h⟩ := h)); subst_vars; rfl) (fun cdv A outer s H E hgd hr => ⟨_, (ds_cons (ds_if (dt_cmp (o_eq hr.units) (dv 1) (d_tup d_nil)) (ds_one (ds_ret (d_op o_mulA (d_tup (d_cons d_non d_nil)) (d_op o_add (d_callB o_len (by rfl) B.len b_len (d_cons (dv 0) d_nil)) d_int)))) ds_nil)
  (ds_one (ds_ret (d_cl c_falls_of hgd (hr.mono (by first | decide | omega)) (d_cons (dv 0) (d_cons (dv 1) d_nil)))))), fun args M Q E' hM hA h => ?_⟩), hm, F.kp, (F.binds (ps := ["tree", "pushes"]) fun _ _ _ _ _ _ us hl => match us, hl with | [_, _], _ => rfl)⟩, ?_⟩
  rotate_left
  · exact fun args M Q Q' E E' w _ ⟨x0, x1, x2, k⟩ => ⟨x0, x1, x2, w _ _ k⟩
  · obtain ⟨⟨t, ps⟩, rfl, hs, k⟩ := h
    have ht1 : t.length ≤ 11 := hs.tr.1
    have hl : ps.length ≤ 20 := hs.len
    walk_at "go1"
    refine ⟨(pl_ps ps).eqOk (by decide) _, pl_unit.eqOk (by decide) _, ?_⟩
    rw [eqv_unit, ps_nil]
    by_cases he : ps = []
    · subst he
      rw [decide_eq_true rfl]
      walk_at "go3"
      refine See.keep ?_
      rw [rep_flat, show ((t.length : Int) + 1).toNat = t.length + 1 by omega]
      exact k
    · rw [decide_eq_false he]
      walk_at "go1"
      refine ⟨t, ps, rfl, hs.tr, hs.psok he, ?_⟩
      refine See.keep ?_
      rw [show tableD (t, ps) = tabD (fallsT t ps) by unfold tableD tableL; rw [if_neg he]] at k
      exact k
def spFInit (mg : Str → Option Value) : DSp := fun args M Q _ => ∃ (M1 : Sto) (t : Tr), args = [.ref M1.length, treeD t] ∧ M = M1 ++ [.ins (cls mg "Field") []] ∧ TreeOk t ∧ Q .non (M1 ++ newF (cls mg "Field") M1.length [] t)
theorem c_Field___init__ (T : Tp K mg) : ClM P w K mg base "Field" (cls mg "Field") (8 + 1) ["self", "tree"] (spFInit mg) := by
  obtain ⟨f, fd, F, hm⟩ := T.d_Field___init__.ex
  have S := sc_Field___init__
  have B := T.bn
  have c_table_of := @c_table_of P w K mg base T
  have c_tree_error := @c_tree_error P w K mg base T
  refine ⟨⟨f, fd, hm, fnD F S (fun args M Q E h => by (repeat (obtain ⟨_, h⟩ := h)); subst_vars; rfl) (fun cdv A outer s H E hgd hr => ⟨_, (ds_cons (dss 2 S.nd (d_cl c_tree_error hgd (hr.mono (by first | decide | omega)) (d_cons (dv 1) d_nil)))
  (ds_cons (ds_if (dt_cmp o_notN (dv 2) d_non) (ds_one ds_never) ds_nil)
  (ds_cons (ds_fld (dv 0) (d_lstM (d_cons (d_tup (d_cons (dv 1) (d_cons (d_tup d_nil) d_nil))) d_nil)))
  (ds_cons (ds_fld (dv 0) (d_lstM (d_cons (d_cl c_table_of hgd (hr.mono (by first | decide | omega)) (d_cons (dv 1) (d_cons (d_tup d_nil) d_nil))) d_nil)))
  (ds_cons (ds_fld (dv 0) (d_lstM (d_cons d_non d_nil)))
  (ds_cons (ds_fld (dv 0) (d_lstM d_nil))
  (ds_one (ds_fld (dv 0) d_bl)))))))), fun args M Q E' hM hA h => ?_⟩), T.g_Field, (F.binds (ps := ["self", "tree"]) fun _ _ _ _ _ _ us hl => match us, hl with | [_, _], _ => rfl)⟩, ?_⟩
  rotate_left
  · exact fun args M Q Q' E E' w _ ⟨x0, x1, x2, x3, x4, k⟩ => ⟨x0, x1, x2, x3, x4, w _ _ k⟩
  · obtain ⟨M1, t, rfl, rfl, ht, k⟩ := h
    have cl := T.cl_Field
    have no1 := T.n_Field_states
    have no2 := T.n_Field_tables
    have no3 := T.n_Field_notes
    have no4 := T.n_Field_standing
    have no5 := T.n_Field_watching
    walk_at "go1"
    refine ⟨t, rfl, ht, ?_⟩
    walk_at "go1"
    refine ⟨cl, no1, by decide, ?_⟩
    rw [List.append_assoc]
    walk_at "go1"
    refine ⟨(t, []), rfl, ⟨ht, Nat.zero_le _, fun _ h => nomatch h⟩, ?_⟩
    walk_at "go1"
    simp only [List.append_assoc, List.cons_append, List.nil_append]
    rw [get_mid]
    refine ⟨cl, no2, Nat.le_of_ble_eq_true rfl, ?_⟩
    rw [set_mid]
    walk_at "go1"
    simp only [List.append_assoc, List.cons_append, List.nil_append]
    rw [get_mid]
    refine ⟨cl, no3, Nat.le_of_ble_eq_true rfl, ?_⟩
    rw [set_mid]
    walk_at "go1"
    simp only [List.append_assoc, List.cons_append, List.nil_append]
    rw [get_mid]
    refine ⟨cl, no4, Nat.le_of_ble_eq_true rfl, ?_⟩
    rw [set_mid]
    walk_at "go1"
    rw [get_mid]
    refine ⟨cl, no5, Nat.le_of_ble_eq_true rfl, ?_⟩
    rw [set_mid]
    walk_at "go1"
    refine See.keep ?_
    exact k
def spFTree (mg : Str → Option Value) : DSp := fun args M Q _ => ∃ (p : Fp) (hs : List FS) (s : FS) (ns : List D) (es : List Ed), args = [.ref p.n] ∧ Fld (cls mg "Field") M p false [] (hs ++ [s]) ns es ∧ Q (treeD s.1) M
theorem c_Field_tree (T : Tp K mg) : ClP P w K mg base (cls mg "Field") "tree" (0 + 1) ["self"] (spFTree mg) := by
  obtain ⟨q, f, fd, F, hm⟩ := T.d_Field_tree.ex
  have S := sc_Field_tree
  have B := T.bn
  refine ⟨⟨q, f, fd, T.cl_Field, hm, fnD F S (fun args M Q E h => by (repeat (obtain ⟨_, h⟩ := h)); subst_vars; rfl) (fun cdv A outer s H E hgd hr => ⟨_, (ds_one (ds_ret (d_ix (d_ix (d_fld (dv 0)) (d_un o_neg d_int) (fun _ _ => rfl)) d_int (fun _ _ => rfl)))), fun args M Q E' hM hA h => ?_⟩), (F.binds (ps := ["self"]) fun _ _ _ _ _ _ us hl => match us, hl with | [_], _ => rfl)⟩, ?_⟩
  rotate_left
  · exact fun args M Q Q' E E' w _ ⟨x0, x1, x2, x3, x4, x5, x6, k⟩ => ⟨x0, x1, x2, x3, x4, x5, x6, w _ _ k⟩
  · obtain ⟨p, hs, s, ns, es, rfl, F, k⟩ := h
    have cl := T.cl_Field
    have no1 := T.n_Field_states
    walk_at "go1"
    rw [F.ins]
    refine ⟨cl, no1, ?_⟩
    walk_at "go1"
    rw [F.sts]
    walk_at "go1"
    rw [last_at]
    walk_at "go1"
    exact See.keep k
def spFPushes (mg : Str → Option Value) : DSp := fun args M Q _ => ∃ (p : Fp) (hs : List FS) (s : FS) (ns : List D) (es : List Ed), args = [.ref p.n] ∧ Fld (cls mg "Field") M p false [] (hs ++ [s]) ns es ∧ Q (psD s.2) M
theorem c_Field_pushes (T : Tp K mg) : ClP P w K mg base (cls mg "Field") "pushes" (0 + 1) ["self"] (spFPushes mg) := by
  obtain ⟨q, f, fd, F, hm⟩ := T.d_Field_pushes.ex
  have S := sc_Field_pushes
  have B := T.bn
  refine ⟨⟨q, f, fd, T.cl_Field, hm, fnD F S (fun args M Q E h => by (repeat (obtain ⟨_, h⟩ := h)); subst_vars; rfl) (fun cdv A outer s H E hgd hr => ⟨_, (ds_one (ds_ret (d_ix (d_ix (d_fld (dv 0)) (d_un o_neg d_int) (fun _ _ => rfl)) d_int (fun _ _ => rfl)))), fun args M Q E' hM hA h => ?_⟩), (F.binds (ps := ["self"]) fun _ _ _ _ _ _ us hl => match us, hl with | [_], _ => rfl)⟩, ?_⟩
  rotate_left
  · exact fun args M Q Q' E E' w _ ⟨x0, x1, x2, x3, x4, x5, x6, k⟩ => ⟨x0, x1, x2, x3, x4, x5, x6, w _ _ k⟩
  · obtain ⟨p, hs, s, ns, es, rfl, F, k⟩ := h
    have cl := T.cl_Field
    have no1 := T.n_Field_states
    walk_at "go1"
    rw [F.ins]
    refine ⟨cl, no1, ?_⟩
    walk_at "go1"
    rw [F.sts]
    walk_at "go1"
    rw [last_at]
    walk_at "go1"
    exact See.keep k
def spFFalls (mg : Str → Option Value) : DSp := fun args M Q _ => ∃ (p : Fp) (hs : List FS) (s : FS) (ns : List D) (es : List Ed), args = [.ref p.n] ∧ Fld (cls mg "Field") M p false [] (hs ++ [s]) ns es ∧ Q (tableD s) M
theorem c_Field_falls (T : Tp K mg) : ClP P w K mg base (cls mg "Field") "falls" (0 + 1) ["self"] (spFFalls mg) := by
  obtain ⟨q, f, fd, F, hm⟩ := T.d_Field_falls.ex
  have S := sc_Field_falls
  have B := T.bn
  refine ⟨⟨q, f, fd, T.cl_Field, hm, fnD F S (fun args M Q E h => by (repeat (obtain ⟨_, h⟩ := h)); subst_vars; rfl) (fun cdv A outer s H E hgd hr => ⟨_, (ds_one (ds_ret (d_ix (d_fld (dv 0)) (d_un o_neg d_int) (fun _ _ => rfl)))), fun args M Q E' hM hA h => ?_⟩), (F.binds (ps := ["self"]) fun _ _ _ _ _ _ us hl => match us, hl with | [_], _ => rfl)⟩, ?_⟩
  rotate_left
  · exact fun args M Q Q' E E' w _ ⟨x0, x1, x2, x3, x4, x5, x6, k⟩ => ⟨x0, x1, x2, x3, x4, x5, x6, w _ _ k⟩
  · obtain ⟨p, hs, s, ns, es, rfl, F, k⟩ := h
    have cl := T.cl_Field
    have no1 := T.n_Field_tables
    walk_at "go1"
    rw [F.ins]
    refine ⟨cl, no1, ?_⟩
    walk_at "go1"
    rw [F.tbs]
    walk_at "go1"
    rw [last_at]
    walk_at "go1"
    exact See.keep k
def spFLen (mg : Str → Option Value) : DSp := fun args M Q _ => ∃ (p : Fp) (hs : List FS) (ns : List D) (es : List Ed), args = [.ref p.n] ∧ Fld (cls mg "Field") M p false [] hs ns es ∧ Q (natD es.length) M
theorem c_Field___len__ (T : Tp K mg) : ClMe P w K mg base (cls mg "Field") "__len__" (0 + 1) ["self"] (spFLen mg) := by
  obtain ⟨f, fd, F, hm⟩ := T.d_Field___len__.ex
  have S := sc_Field___len__
  have B := T.bn
  refine ⟨⟨f, fd, T.cl_Field, hm, fnD F S (fun args M Q E h => by (repeat (obtain ⟨_, h⟩ := h)); subst_vars; rfl) (fun cdv A outer s H E hgd hr => ⟨_, (ds_one (ds_ret (d_callB o_len (by rfl) B.len b_len (d_cons (d_fld (dv 0)) d_nil)))), fun args M Q E' hM hA h => ?_⟩), (F.binds (ps := ["self"]) fun _ _ _ _ _ _ us hl => match us, hl with | [_], _ => rfl)⟩, ?_⟩
  rotate_left
  · exact fun args M Q Q' E E' w _ ⟨x0, x1, x2, x3, x4, x5, k⟩ => ⟨x0, x1, x2, x3, x4, x5, w _ _ k⟩
  · obtain ⟨p, hs, ns, es, rfl, F, k⟩ := h
    have cl := T.cl_Field
    have no1 := T.n_Field_standing
    walk_at "go1"
    rw [F.ins]
    refine ⟨cl, no1, ?_⟩
    walk_at "go1"
    rw [F.eds]
    walk_at "go1"
    exact See.keep k
def spFNote : DSp := fun args M Q _ => ∃ (a b c d : D), args = [a, b, c, d] ∧ Q .non M
theorem c_Field_note_of (T : Tp K mg) : ClMe P w K mg base (cls mg "Field") "note_of" (0 + 1) ["self", "tree", "pushes", "table"] spFNote := by
  obtain ⟨f, fd, F, hm⟩ := T.d_Field_note_of.ex
  have S := sc_Field_note_of
  have B := T.bn
  refine ⟨⟨f, fd, T.cl_Field, hm, fnD F S (fun args M Q E h => by (repeat (obtain ⟨_, h⟩ := h)); subst_vars; rfl) (fun cdv A outer s H E hgd hr => ⟨_, (ds_one (ds_ret d_non)), fun args M Q E' hM hA h => ?_⟩), (F.binds (ps := ["self", "tree", "pushes", "table"]) fun _ _ _ _ _ _ us hl => match us, hl with | [_, _, _, _], _ => rfl)⟩, ?_⟩
  rotate_left
  · exact fun args M Q Q' E E' w _ ⟨x0, x1, x2, x3, x4, k⟩ => ⟨x0, x1, x2, x3, x4, w _ _ k⟩
  · obtain ⟨a, b, c, d, rfl, k⟩ := h
    walk_at "go1"
    exact See.keep k
def spFIdle (mg : Str → Option Value) : DSp := fun args M Q _ => ∃ (p : Fp) (hs : List FS) (ns : List D) (es : List Ed), args = [.ref p.n] ∧ Fld (cls mg "Field") M p false [] hs ns es ∧ Q .non M
theorem c_Field_require_idle (T : Tp K mg) : ClMe P w K mg base (cls mg "Field") "require_idle" (0 + 1) ["self"] (spFIdle mg) := by
  obtain ⟨f, fd, F, hm⟩ := T.d_Field_require_idle.ex
  have S := sc_Field_require_idle
  have B := T.bn
  refine ⟨⟨f, fd, T.cl_Field, hm, fnD F S (fun args M Q E h => by (repeat (obtain ⟨_, h⟩ := h)); subst_vars; rfl) (fun cdv A outer s H E hgd hr => ⟨_, (ds_one (ds_if (dt_val (d_fld (dv 0))) (ds_one ds_never) ds_nil)), fun args M Q E' hM hA h => ?_⟩), (F.binds (ps := ["self"]) fun _ _ _ _ _ _ us hl => match us, hl with | [_], _ => rfl)⟩, ?_⟩
  rotate_left
  · exact fun args M Q Q' E E' w _ ⟨x0, x1, x2, x3, x4, x5, k⟩ => ⟨x0, x1, x2, x3, x4, x5, w _ _ k⟩
  · obtain ⟨p, hs, ns, es, rfl, F, k⟩ := h
    have cl := T.cl_Field
    have no1 := T.n_Field_watching
    walk_at "go1"
    rw [F.ins]
    refine ⟨cl, no1, ?_⟩
    walk_at "go1"
    exact See.keep k
def spFAfter (mg : Str → Option Value) : DSp := fun args M Q _ => ∃ (p : Fp) (hs : List FS) (s : FS) (ns : List D) (es : List Ed) (e : Ed), args = [.ref p.n, edD e] ∧ Fld (cls mg "Field") M p false [] (hs ++ [s]) ns es ∧ StOk s ∧ EdOk s e ∧ Q (stateD (aft s e)) M
theorem s_lp : decide (("pull" : Str) = "push") = false := by decide +kernel
theorem s_sp : decide (("stretch" : Str) = "push") = false := by decide +kernel
theorem s_sl : decide (("stretch" : Str) = "pull") = false := by decide +kernel
theorem c_Field_state_after (T : Tp K mg) : ClMe P w K mg base (cls mg "Field") "state_after" (3 + 1) ["self", "edit"] (spFAfter mg) := by
  obtain ⟨f, fd, F, hm⟩ := T.d_Field_state_after.ex
  have S := sc_Field_state_after
  have B := T.bn
  have c_stretched := @c_stretched P w K mg base T
  have c_with_push := @c_with_push P w K mg base T
  have c_without_push := @c_without_push P w K mg base T
  refine ⟨⟨f, fd, T.cl_Field, hm, fnD F S (fun args M Q E h => by (repeat (obtain ⟨_, h⟩ := h)); subst_vars; rfl) (fun cdv A outer s H E hgd hr => ⟨_, (ds_cons (ds_asg (d_ix (d_fld (dv 0)) (d_un o_neg d_int) (fun _ _ => rfl)) (dg_tupL (n := 2) rfl (dgs_cons (dgn 2 S.nd) (dgs_cons (dgn 3 S.nd) dgs_nil))))
  (ds_cons (ds_asg (dv 1) (dg_star1 rfl (dgs_cons (dgn 4 S.nd) (dgs_cons (dgn 5 S.nd) dgs_nil))))
  (ds_cons (ds_match (dv 4) (dm_str (ds_one (dss 3 S.nd (d_clSt c_with_push hgd (hr.mono (by first | decide | omega)) (d_cons (dv 2) (d_cons (dv 3) (d_star (dv 5) d_nil)))))) (dm_str (ds_one (dss 3 S.nd (d_clSt c_without_push hgd (hr.mono (by first | decide | omega)) (d_cons (dv 3) (d_star (dv 5) d_nil))))) (dm_any (ds_one (dss 2 S.nd (d_clSt c_stretched hgd (hr.mono (by first | decide | omega)) (d_cons (dv 2) (d_star (dv 5) d_nil)))))))))
  (ds_one (ds_ret (d_tup (d_cons (dv 2) (d_cons (dv 3) d_nil)))))))), fun args M Q E' hM hA h => ?_⟩), (F.binds (ps := ["self", "edit"]) fun _ _ _ _ _ _ us hl => match us, hl with | [_, _], _ => rfl)⟩, ?_⟩
  rotate_left
  · exact fun args M Q Q' E E' w _ ⟨x0, x1, x2, x3, x4, x5, x6, x7, x8, x9, k⟩ => ⟨x0, x1, x2, x3, x4, x5, x6, x7, x8, x9, w _ _ k⟩
  · obtain ⟨p, hs, ⟨t, ps⟩, ns, es, e, rfl, F, ho, he, k⟩ := h
    have cl := T.cl_Field
    have no1 := T.n_Field_states
    cases e with
    | push m v =>
      walk_at "go1"
      rw [F.ins]
      refine ⟨cl, no1, ?_⟩
      walk_at "go1"
      rw [F.sts]
      walk_at "go1"
      rw [last_at]
      walk_at "go1"
      refine ⟨t, ps, m, v, rfl, ho.tr.1, he.2, he.1, ?_⟩
      walk_at "go1"
      exact See.keep k
    | pull i =>
      walk_at "go1"
      rw [F.ins]
      refine ⟨cl, no1, ?_⟩
      walk_at "go1"
      rw [F.sts]
      walk_at "go1"
      rw [last_at]
      walk_at "go1"
      rw [s_lp]
      walk_at "go1"
      refine ⟨ps, i, rfl, ho.len, he, ?_⟩
      walk_at "go1"
      exact See.keep k
    | stretch m l =>
      obtain ⟨h1, h2, h3, h4⟩ := he
      walk_at "go1"
      rw [F.ins]
      refine ⟨cl, no1, ?_⟩
      walk_at "go1"
      rw [F.sts]
      walk_at "go1"
      rw [last_at]
      walk_at "go1"
      rw [s_sp]
      walk_at "go1"
      rw [s_sl]
      walk_at "go1"
      refine ⟨t, m, l, rfl, ho.tr.1, h1, h2, h3, h4, ?_⟩
      walk_at "go1"
      exact See.keep k
def spFPerform (mg : Str → Option Value) : DSp := fun args M Q _ => ∃ (p : Fp) (hs : List FS) (s : FS) (ns : List D) (es : List Ed) (e : Ed), args = [.ref p.n, edD e] ∧ Fld (cls mg "Field") M p false [] (hs ++ [s]) ns es ∧ StOk s ∧ EdOk s e ∧ es.length < 60 ∧ hs.length < 1000 ∧ ns.length < 1000 ∧ Q (natD (es.length + 1)) (putF M p (hs ++ [s] ++ [aft s e]) (ns ++ [.non]) (es ++ [e]))
theorem c_Field_perform (T : Tp K mg) : ClMe P w K mg base (cls mg "Field") "perform" (8 + 1) ["self", "edit"] (spFPerform mg) := by
  obtain ⟨f, fd, F, hm⟩ := T.d_Field_perform.ex
  have S := sc_Field_perform
  have B := T.bn
  have c_Field_note_of := @c_Field_note_of P w K mg base T
  have c_Field_state_after := @c_Field_state_after P w K mg base T
  have c_table_of := @c_table_of P w K mg base T
  obtain ⟨t_MAX_EDITS, m_MAX_EDITS⟩ := T.k_MAX_EDITS
  refine ⟨⟨f, fd, T.cl_Field, hm, fnD F S (fun args M Q E h => by (repeat (obtain ⟨_, h⟩ := h)); subst_vars; rfl) (fun cdv A outer s H E hgd hr => ⟨_, (ds_cons (ds_if (dt_cmp o_ge (d_callB o_len (by rfl) B.len b_len (d_cons (d_fld (dv 0)) d_nil)) (d_glob (by rfl) m_MAX_EDITS)) (ds_one ds_never) ds_nil)
  (ds_cons (ds_asg (d_meth c_Field_state_after hgd (hr.mono (by first | decide | omega)) (dv 0) (d_cons (dv 1) d_nil)) (dg_tupL (n := 2) rfl (dgs_cons (dgn 2 S.nd) (dgs_cons (dgn 3 S.nd) dgs_nil))))
  (ds_cons (dss 4 S.nd (d_cl c_table_of hgd (hr.mono (by first | decide | omega)) (d_cons (dv 2) (d_cons (dv 3) d_nil))))
  (ds_cons (ds_expr (d_append (d_fld (dv 0)) (d_cons (d_meth c_Field_note_of hgd (hr.mono (by first | decide | omega)) (dv 0) (d_cons (dv 2) (d_cons (dv 3) (d_cons (dv 4) d_nil)))) d_nil)))
  (ds_cons (ds_expr (d_append (d_fld (dv 0)) (d_cons (d_tup (d_cons (dv 2) (d_cons (dv 3) d_nil))) d_nil)))
  (ds_cons (ds_expr (d_append (d_fld (dv 0)) (d_cons (dv 4) d_nil)))
  (ds_cons (ds_expr (d_append (d_fld (dv 0)) (d_cons (dv 1) d_nil)))
  (ds_one (ds_ret (d_callB o_len (by rfl) B.len b_len (d_cons (d_fld (dv 0)) d_nil))))))))))), fun args M Q E' hM hA h => ?_⟩), (F.binds (ps := ["self", "edit"]) fun _ _ _ _ _ _ us hl => match us, hl with | [_, _], _ => rfl)⟩, ?_⟩
  rotate_left
  · exact fun args M Q Q' E E' w _ ⟨x0, x1, x2, x3, x4, x5, x6, x7, x8, x9, x10, x11, x12, k⟩ => ⟨x0, x1, x2, x3, x4, x5, x6, x7, x8, x9, x10, x11, x12, w _ _ k⟩
  · obtain ⟨p, hs, s, ns, es, e, rfl, F, ho, he, hl, hh, hn, k⟩ := h
    have cl := T.cl_Field
    have no1 := T.n_Field_states
    have no2 := T.n_Field_tables
    have no3 := T.n_Field_notes
    have no4 := T.n_Field_standing
    have o := F.ok
    have hb : ∀ {i : Nat} {c : Cell}, M[i]? = some c → i < M.length := fun h => (List.getElem?_eq_some_iff.mp h).1
    walk_at "go1"
    rw [F.ins]
    refine ⟨cl, no4, ?_⟩
    walk_at "go1"
    rw [F.eds]
    walk_at "go1"
    rw [show decide ((60 : Int) ≤ (es.length : Int)) = false from decide_eq_false (by omega)]
    walk_at "go1"
    rw [F.ins]
    refine ⟨rfl, rfl, ?_⟩
    walk_at "go1"
    refine ⟨p, hs, s, ns, es, e, rfl, F, ho, he, ?_⟩
    walk_at "go1"
    refine ⟨aft s e, rfl, aft_ok ho he, ?_⟩
    walk_at "go1"
    rw [F.ins]
    refine ⟨cl, no3, ?_⟩
    walk_at "go1"
    refine ⟨⟨_, F.nts⟩, ?_⟩
    walk_at "go1"
    rw [F.ins]
    refine ⟨rfl, rfl, ?_⟩
    walk_at "go1"
    refine ⟨_, _, _, _, rfl, ?_⟩
    walk_at "go1"
    rw [F.nts]
    walk_at "go1"
    rw [List.getElem?_set_ne (Ne.symm o.nc), F.ins]
    refine ⟨cl, no1, ?_⟩
    walk_at "go1"
    refine ⟨⟨_, by rw [List.getElem?_set_ne (Ne.symm o.ac)]; exact F.sts⟩, ?_⟩
    walk_at "go1"
    rw [List.getElem?_set_ne (Ne.symm o.ac), F.sts]
    walk_at "go1"
    rw [List.getElem?_set_ne (Ne.symm o.na), List.getElem?_set_ne (Ne.symm o.nc), F.ins]
    refine ⟨cl, no2, ?_⟩
    walk_at "go1"
    refine ⟨⟨_, by rw [List.getElem?_set_ne o.ab, List.getElem?_set_ne (Ne.symm o.bc)]; exact F.tbs⟩, ?_⟩
    walk_at "go1"
    rw [List.getElem?_set_ne o.ab, List.getElem?_set_ne (Ne.symm o.bc), F.tbs]
    walk_at "go1"
    rw [List.getElem?_set_ne (Ne.symm o.nb), List.getElem?_set_ne (Ne.symm o.na), List.getElem?_set_ne (Ne.symm o.nc), F.ins]
    refine ⟨cl, no4, ?_⟩
    walk_at "go1"
    refine ⟨⟨_, by rw [List.getElem?_set_ne o.bd, List.getElem?_set_ne o.ad, List.getElem?_set_ne o.cd]; exact F.eds⟩, ?_⟩
    walk_at "go1"
    rw [List.getElem?_set_ne o.bd, List.getElem?_set_ne o.ad, List.getElem?_set_ne o.cd, F.eds]
    walk_at "go1"
    rw [List.getElem?_set_ne (Ne.symm o.nd), List.getElem?_set_ne (Ne.symm o.nb), List.getElem?_set_ne (Ne.symm o.na), List.getElem?_set_ne (Ne.symm o.nc), F.ins]
    refine ⟨cl, no4, ?_⟩
    walk_at "go1"
    rw [List.getElem?_set_self (by rw [List.length_set, List.length_set, List.length_set]; exact hb F.eds)]
    walk_at "go1"
    refine See.keep ?_
    have := k
    unfold DL.putF at this
    simp only [List.map_append, List.map_cons, List.map_nil] at this ⊢
    exact this
def spFPush (mg : Str → Option Value) : DSp := fun args M Q _ => ∃ (p : Fp) (hs : List FS) (s : FS) (ns : List D) (es : List Ed) (m : Nat) (v : Int), args = [.ref p.n, natD m, .int v] ∧ Fld (cls mg "Field") M p false [] (hs ++ [s]) ns es ∧ StOk s ∧ EdOk s (.push m v) ∧ es.length < 60 ∧ hs.length < 1000 ∧ ns.length < 1000 ∧ Q (natD (es.length + 1)) (putF M p (hs ++ [s] ++ [aft s (.push m v)]) (ns ++ [.non]) (es ++ [.push m v]))
theorem c_Field_push (T : Tp K mg) : ClMe P w K mg base (cls mg "Field") "push" (9 + 1) ["self", "mark", "tick"] (spFPush mg) := by
  obtain ⟨f, fd, F, hm⟩ := T.d_Field_push.ex
  have S := sc_Field_push
  have B := T.bn
  have c_Field_perform := @c_Field_perform P w K mg base T
  have c_Field_require_idle := @c_Field_require_idle P w K mg base T
  refine ⟨⟨f, fd, T.cl_Field, hm, fnD F S (fun args M Q E h => by (repeat (obtain ⟨_, h⟩ := h)); subst_vars; rfl) (fun cdv A outer s H E hgd hr => ⟨_, (ds_cons (ds_expr (d_meth0 c_Field_require_idle hgd (hr.mono (by first | decide | omega)) (dv 0)))
  (ds_one (ds_ret (d_meth c_Field_perform hgd (hr.mono (by first | decide | omega)) (dv 0) (d_cons (d_tup (d_cons d_str (d_cons (dv 1) (d_cons (dv 2) d_nil)))) d_nil))))), fun args M Q E' hM hA h => ?_⟩), (F.binds (ps := ["self", "mark", "tick"]) fun _ _ _ _ _ _ us hl => match us, hl with | [_, _, _], _ => rfl)⟩, ?_⟩
  rotate_left
  · exact fun args M Q Q' E E' w _ ⟨x0, x1, x2, x3, x4, x5, x6, x7, x8, x9, x10, x11, x12, x13, k⟩ => ⟨x0, x1, x2, x3, x4, x5, x6, x7, x8, x9, x10, x11, x12, x13, w _ _ k⟩
  · obtain ⟨p, hs, s, ns, es, m, v, rfl, F, ho, he, hl, hh, hn, k⟩ := h
    walk_at "go1"
    rw [F.ins]
    refine ⟨rfl, rfl, ?_⟩
    walk_at "go1"
    refine ⟨p, _, ns, es, rfl, F, ?_⟩
    walk_at "go1"
    rw [F.ins]
    refine ⟨rfl, rfl, ?_⟩
    walk_at "go1"
    exact ⟨p, hs, s, ns, es, .push m v, rfl, F, ho, he, hl, hh, hn, See.keep k⟩
theorem nat_bnd {n : Nat} (h : n ≤ 100000) : ((n : Nat) : Int).natAbs < 10 ^ 12 := by
  have : ((n : Nat) : Int).natAbs = n := rfl
  omega
theorem seq_mid {A B : DTS} {D : DEnds} {ρ : Dn} {M : Sto} (P : Dn → Sto → Prop) (h1 : ∀ nx : Dn → Sto → Prop, (∀ ρ' M', P ρ' M' → nx ρ' M') → A { D with nx := nx } ρ M) (h2 : ∀ ρ' M', P ρ' M' → B D ρ' M') : dSeq A B D ρ M := h1 (B D) h2
def spFEq (mg : Str → Option Value) : DSp := fun args M Q _ => ∃ (p q : Fp) (hs gs : List FS) (s u : FS) (ns ms : List D) (es fs : List Ed), args = [.ref p.n, .ref q.n] ∧ Fld (cls mg "Field") M p false [] (hs ++ [s]) ns es ∧ Fld (cls mg "Field") M q false [] (gs ++ [u]) ms fs ∧ StOk s ∧ StOk u ∧ Q (.bl (PyData.eqv (toPy (treeD s.1)) (toPy (treeD u.1)) && PyData.eqv (toPy (tableD s)) (toPy (tableD u)))) M
theorem c_Field___eq__ (T : Tp K mg) : ClMe P w K mg base (cls mg "Field") "__eq__" (0 + 1) ["self", "other"] (spFEq mg) := by
  obtain ⟨f, fd, F, hm⟩ := T.d_Field___eq__.ex
  have S := sc_Field___eq__
  have B := T.bn
  refine ⟨⟨f, fd, T.cl_Field, hm, fnD F S (fun args M Q E h => by (repeat (obtain ⟨_, h⟩ := h)); subst_vars; rfl) (fun cdv A outer s H E hgd hr => ⟨_, (ds_cons (ds_if (dt_not (dt_val (d_isiCK (K := K) rfl T.g_Field B.isinstance (dv 1)))) (ds_one (ds_ret d_bl)) ds_nil)
  (ds_one (ds_ret (d_and (d_cmp (o_eq hr.units) (d_ix (d_ix (d_fld (dv 0)) (d_un o_neg d_int) (fun _ _ => rfl)) d_int (fun _ _ => rfl)) (d_ix (d_ix (d_fld (dv 1)) (d_un o_neg d_int) (fun _ _ => rfl)) d_int (fun _ _ => rfl))) (d_one (d_cmp (o_eq hr.units) (d_ix (d_fld (dv 0)) (d_un o_neg d_int) (fun _ _ => rfl)) (d_ix (d_fld (dv 1)) (d_un o_neg d_int) (fun _ _ => rfl)))))))), fun args M Q E' hM hA h => ?_⟩), (F.binds (ps := ["self", "other"]) fun _ _ _ _ _ _ us hl => match us, hl with | [_, _], _ => rfl)⟩, ?_⟩
  rotate_left
  · exact fun args M Q Q' E E' w _ ⟨x0, x1, x2, x3, x4, x5, x6, x7, x8, x9, x10, x11, x12, x13, x14, k⟩ => ⟨x0, x1, x2, x3, x4, x5, x6, x7, x8, x9, x10, x11, x12, x13, x14, w _ _ k⟩
  · obtain ⟨p, q, hs, gs, s, u, ns, ms, es, fs, rfl, F, G, ho, hu, k⟩ := h
    have cl := T.cl_Field
    have no1 := T.n_Field_states
    have no2 := T.n_Field_tables
    walk_at "go1"
    rw [G.ins]
    refine ⟨T.ic_Field, true, T.kc_Field_Field, ?_⟩
    walk_at "go1"
    rw [F.ins]
    refine ⟨cl, no1, ?_⟩
    walk_at "go1"
    rw [F.sts]
    walk_at "go1"
    rw [last_at]
    walk_at "go1"
    rw [G.ins]
    refine ⟨cl, no1, ?_⟩
    walk_at "go1"
    rw [G.sts]
    walk_at "go1"
    rw [last_at]
    walk_at "go1"
    refine ⟨(pl_tree s.1).eqOk (by decide) _, (pl_tree u.1).eqOk (by decide) _, ?_⟩
    rw [show treeD s.1 = .tup (s.1.map rowD) from rfl, show treeD u.1 = .tup (u.1.map rowD) from rfl] at k
    cases hb : PyData.eqv (toPy (.tup (s.1.map rowD))) (toPy (.tup (u.1.map rowD))) with
    | false =>
      rw [hb] at k
      walk_at "go1"
      exact See.keep k
    | true =>
      rw [hb] at k
      walk_at "go1"
      rw [F.ins]
      refine ⟨cl, no2, ?_⟩
      walk_at "go1"
      rw [F.tbs]
      walk_at "go1"
      rw [last_at]
      walk_at "go1"
      rw [G.ins]
      refine ⟨cl, no2, ?_⟩
      walk_at "go1"
      rw [G.tbs]
      walk_at "go1"
      rw [last_at]
      walk_at "go1"
      refine ⟨(pl_table s).eqOk (by decide) _, (pl_table u).eqOk (by decide) _, ?_⟩
      exact See.keep k
@[reducible] def shC (mg : Str → Option Value) (n : Nat) : Cell := .ins (cls mg "Shell") [("field", .ref n)]
def spSInit (mg : Str → Option Value) : DSp := fun args M Q _ => ∃ (M1 : Sto) (n : Nat), args = [.ref M1.length, .ref n] ∧ M = M1 ++ [.ins (cls mg "Shell") []] ∧ Q .non (M1 ++ [shC mg n])
theorem c_Shell___init__ (T : Tp K mg) : ClM P w K mg base "Shell" (cls mg "Shell") (0 + 1) ["self", "field"] (spSInit mg) := by
  obtain ⟨f, fd, F, hm⟩ := T.d_Shell___init__.ex
  have S := sc_Shell___init__
  have B := T.bn
  refine ⟨⟨f, fd, hm, fnD F S (fun args M Q E h => by (repeat (obtain ⟨_, h⟩ := h)); subst_vars; rfl) (fun cdv A outer s H E hgd hr => ⟨_, (ds_one (ds_fld (dv 0) (dv 1))), fun args M Q E' hM hA h => ?_⟩), T.g_Shell, (F.binds (ps := ["self", "field"]) fun _ _ _ _ _ _ us hl => match us, hl with | [_, _], _ => rfl)⟩, ?_⟩
  rotate_left
  · exact fun args M Q Q' E E' w _ ⟨x0, x1, x2, x3, k⟩ => ⟨x0, x1, x2, x3, w _ _ k⟩
  · obtain ⟨M1, n, rfl, rfl, k⟩ := h
    have cl := T.cl_Shell
    have no1 := T.n_Shell_field
    walk_at "go1"
    refine ⟨cl, no1, by decide, ?_⟩
    walk_at "go1"
    refine See.keep ?_
    exact k
theorem inV_two {n a b : Str} (h1 : decide (n = a) = false) (h2 : decide (n = b) = false) : inV (.str n) [.str a, .str b] = false := by
  have h1 := of_decide_eq_false h1
  have h2 := of_decide_eq_false h2
  unfold inV
  rw [List.any_eq_false]
  intro x hx
  rcases List.mem_cons.mp hx with rfl | hx
  · show ¬ (a == n) = true
    rw [beq_iff_eq]; exact fun z => h1 z.symm
  · rcases List.mem_cons.mp hx with rfl | hx
    · show ¬ (b == n) = true
      rw [beq_iff_eq]; exact fun z => h2 z.symm
    · exact nomatch hx
def ans5 (n : Str) : Bool := decide (n = "undo") || decide (n = "field") || decide (n = "needed") || decide (n = "finish") || decide (n = "falls")
def spSAns : DSp := fun args M Q _ => ∃ (x : D) (n : Str), args = [x, .str n] ∧ ans5 n = false ∧ Q .non M
theorem c_Shell_answer (T : Tp K mg) : ClMe P w K mg base (cls mg "Shell") "answer" (7 + 1) ["self", "name"] spSAns := by
  obtain ⟨f, fd, F, hm⟩ := T.d_Shell_answer.ex
  have S := sc_Shell_answer
  have B := T.bn
  have c_Field_falls := @c_Field_falls P w K mg base T
  have c_Field_pushes := @c_Field_pushes P w K mg base T
  obtain ⟨t_NONE, m_NONE⟩ := T.k_NONE
  refine ⟨⟨f, fd, T.cl_Shell, hm, fnD F S (fun args M Q E h => by (repeat (obtain ⟨_, h⟩ := h)); subst_vars; rfl) (fun cdv A outer s H E hgd hr => ⟨_, (ds_cons (ds_if (dt_cmp (o_eq hr.units) (dv 1) d_str) (ds_one (ds_ret (d_joined (dj_cons d_str (dj_cons (d_fmt d_neverE) dj_nil))))) ds_nil)
  (ds_cons (ds_if (dt_cmp (o_eq hr.units) (dv 1) d_str) (ds_one (ds_ret d_neverE)) ds_nil)
  (ds_cons (ds_if (dt_cmp (o_eq hr.units) (dv 1) d_str) (ds_one (ds_ret (d_orT (d_join d_str (d_lcI (own := [("push", 2)]) rfl S.nd (di_seq d_neverE) (blkOk_by (N := ["self", "name", "push", "tick"]) (sc := defScope s_Shell_answer) (by decide +kernel)) (by decide) (fun _ _ _ _ _ => (dgn 2 S.nd)) (fun _ _ _ _ _ => dts_nil) (fun _ _ _ _ _ => d_neverE))) (d_one (d_globS (by rfl) m_NONE))))) ds_nil)
  (ds_cons (ds_if (dt_cmp (o_notin hr.units) (dv 1) (d_tup (d_cons d_str (d_cons d_str d_nil)))) (ds_one (ds_ret d_non)) ds_nil)
  (ds_cons (ds_if (dt_cmp (o_eq hr.units) (d_prop c_Field_pushes hgd (hr.mono (by first | decide | omega)) (d_fld (dv 0))) (d_tup d_nil)) (ds_one (ds_ret (d_globS (by rfl) m_NONE))) ds_nil)
  (ds_one (ds_ret (d_if (dt_cmp (o_eq hr.units) (dv 1) d_str) (d_callTy o_str (by rfl) B.str b_str (d_cons (d_fld (d_fld (dv 0))) d_nil)) (d_join d_str (d_lcI (own := [("tick", 3)]) rfl S.nd (di_seq (d_prop c_Field_falls hgd (hr.mono (by first | decide | omega)) (d_fld (dv 0)))) (blkOk_by (N := ["self", "name", "push", "tick"]) (sc := defScope s_Shell_answer) (by decide +kernel)) (by decide) (fun _ _ _ _ _ => (dgn 3 S.nd)) (fun _ _ _ _ _ => dts_nil) (fun _ _ _ _ _ => (d_callTy o_str (by rfl) B.str b_str (d_cons (dv 3) d_nil))))))))))))), fun args M Q E' hM hA h => ?_⟩), (F.binds (ps := ["self", "name"]) fun _ _ _ _ _ _ us hl => match us, hl with | [_, _], _ => rfl)⟩, ?_⟩
  rotate_left
  · exact fun args M Q Q' E E' w _ ⟨x0, x1, x2, x3, k⟩ => ⟨x0, x1, x2, x3, w _ _ k⟩
  · obtain ⟨x, n, rfl, hn, k⟩ := h
    unfold ans5 at hn
    simp only [Bool.or_eq_false_iff] at hn
    obtain ⟨⟨⟨⟨h1, h2⟩, h3⟩, h4⟩, h5⟩ := hn
    walk_at "go1"
    rw [h1]
    walk_at "go1"
    rw [h2]
    walk_at "go1"
    rw [h3]
    walk_at "go1"
    rw [show fV (.str n) = some (.str n) from rfl, show fVs [D.str "finish", D.str "falls"] = some [.str "finish", .str "falls"] from rfl]
    dsimp only
    rw [inV_two h4 h5]
    walk_at "go1"
    exact See.keep k
def spSTwo : DSp := fun args M Q _ => ∃ (x a b : D) (n : Str), args = [x, .str n, a, b] ∧ decide (n = "push") = false ∧ decide (n = "stretch") = false ∧ Q .non M
theorem c_Shell_answer_two (T : Tp K mg) : ClMe P w K mg base (cls mg "Shell") "answer_two" (8 + 1) ["self", "name", "first", "second"] spSTwo := by
  obtain ⟨f, fd, F, hm⟩ := T.d_Shell_answer_two.ex
  have S := sc_Shell_answer_two
  have B := T.bn
  refine ⟨⟨f, fd, T.cl_Shell, hm, fnD F S (fun args M Q E h => by (repeat (obtain ⟨_, h⟩ := h)); subst_vars; rfl) (fun cdv A outer s H E hgd hr => ⟨_, (ds_cons (ds_if (dt_cmp (o_eq hr.units) (dv 1) d_str) (ds_one (ds_ret (d_joined (dj_cons d_str (dj_cons (d_fmt d_neverE) dj_nil))))) ds_nil)
  (ds_one (ds_ret (d_if (dt_cmp (o_eq hr.units) (dv 1) d_str) (d_joined (dj_cons d_str (dj_cons (d_fmt d_neverE) dj_nil))) d_non)))), fun args M Q E' hM hA h => ?_⟩), (F.binds (ps := ["self", "name", "first", "second"]) fun _ _ _ _ _ _ us hl => match us, hl with | [_, _, _, _], _ => rfl)⟩, ?_⟩
  rotate_left
  · exact fun args M Q Q' E E' w _ ⟨x0, x1, x2, x3, x4, x5, x6, k⟩ => ⟨x0, x1, x2, x3, x4, x5, x6, w _ _ k⟩
  · obtain ⟨x, a, b, n, rfl, h1, h2, k⟩ := h
    walk_at "go1"
    rw [h1]
    walk_at "go1"
    rw [h2]
    walk_at "go1"
    exact See.keep k
theorem opt_vs (L : List (Option Nat)) : fVs (L.map optN) = some (L.map fun o => (o.elim V.non fun (n : Nat) => V.int (n : Int))) ∧ (none ∉ L → inV .non (L.map fun o => (o.elim V.non fun (n : Nat) => V.int (n : Int))) = false) ∧ (none ∈ L → inV .non (L.map fun o => (o.elim V.non fun (n : Nat) => V.int (n : Int))) = true) := by
  refine ⟨?_, fun h => ?_, fun h => ?_⟩
  · induction L with
    | nil => rfl
    | cons n L ih =>
      rw [List.map_cons, List.map_cons]
      unfold fVs
      rw [ih]
      cases n <;> rfl
  · unfold inV
    rw [List.any_map, List.any_eq_false]
    intro n hn
    cases n with
    | none => exact absurd hn h
    | some n => exact Bool.false_ne_true
  · unfold inV
    rw [List.any_map, List.any_eq_true]
    exact ⟨none, h, rfl⟩
/-- words that are no command -/
def badR (n : Str) (r : List (Option Nat)) : Bool := r.any (·.isNone) || decide (2 < r.length) || (match r with
  | [] => !ans5 n
  | [_] => !decide (n = "pull")
  | _ => !decide (n = "push") && !decide (n = "stretch"))
def badW : List Str → Bool
  | [] => false
  | n :: r => badR n (r.map numW)
def spSRun (mg : Str → Option Value) : DSp := fun args M Q _ => ∃ (x m : Nat) (n : Str) (r : List Str), args = [.ref x, .lst ((n :: r).map D.str)] ∧ M[x]? = some (shC mg m) ∧ (∀ y ∈ r, y.length ≤ 100000) ∧ r.length ≤ 1000 ∧ badR n (r.map numW) = true ∧ Q .non M
theorem c_Shell_run (T : Tp K mg) : ClMe P w K mg base (cls mg "Shell") "run" (9 + 1) ["self", "words"] (spSRun mg) := by
  obtain ⟨f, fd, F, hm⟩ := T.d_Shell_run.ex
  have S := sc_Shell_run
  have B := T.bn
  have c_Shell_answer := @c_Shell_answer P w K mg base T
  have c_Shell_answer_two := @c_Shell_answer_two P w K mg base T
  have c_parse_number := @c_parse_number P w K mg base T
  refine ⟨⟨f, fd, T.cl_Shell, hm, fnD F S (fun args M Q E h => by (repeat (obtain ⟨_, h⟩ := h)); subst_vars; rfl) (fun cdv A outer s H E hgd hr => ⟨_, (ds_cons (ds_asg (dv 1) (dg_star1L rfl (dgs_cons (dgn 2 S.nd) (dgs_cons (dgn 3 S.nd) dgs_nil))))
  (ds_cons (ds_setLcI (i := 4) (own := [("word", 5)]) rfl S.nd rfl rfl (sw_true rfl rfl rfl (by decide +kernel)) (di_seq (dv 3)) (blkOk_by (N := ["self", "words", "name", "rest", "numbers", "word"]) (sc := defScope s_Shell_run) (by decide +kernel)) (by decide) (fun _ _ _ _ _ => (dgn 5 S.nd)) (fun _ _ _ _ _ => dts_nil) (fun _ _ _ _ _ => (d_cl c_parse_number hgd (hr.mono (by first | decide | omega)) (d_cons (dv 5) d_nil))))
  (ds_cons (ds_if (DW.dt (dw_or (dt_cmp (o_in hr.units) d_non (dv 4)) (dw_or1 (dt_cmp o_gt (d_callB o_len (by rfl) B.len b_len (d_cons (dv 4) d_nil)) d_int)))) (ds_one (ds_ret d_non)) ds_nil)
  (ds_cons (ds_if (dt_cmp (o_eq hr.units) (d_callB o_len (by rfl) B.len b_len (d_cons (dv 4) d_nil)) d_int) (ds_one (ds_ret (d_methSt c_Shell_answer_two (T.d_Shell_answer_two.bm (by decide)) hgd (hr.mono (by first | decide | omega)) (dv 0) (d_cons (dv 2) (d_star (dv 4) d_nil))))) ds_nil)
  (ds_cons (ds_if (dt_cmp (o_eq hr.units) (d_callB o_len (by rfl) B.len b_len (d_cons (dv 4) d_nil)) d_int) (ds_one (ds_ret (d_if (dt_cmp (o_eq hr.units) (dv 2) d_str) (d_joined (dj_cons d_str (dj_cons (d_fmt d_neverE) dj_nil))) d_non))) ds_nil)
  (ds_one (ds_ret (d_meth c_Shell_answer hgd (hr.mono (by first | decide | omega)) (dv 0) (d_cons (dv 2) d_nil))))))))), fun args M Q E' hM hA h => ?_⟩), (F.binds (ps := ["self", "words"]) fun _ _ _ _ _ _ us hl => match us, hl with | [_, _], _ => rfl)⟩, ?_⟩
  rotate_left
  · exact fun args M Q Q' E E' w _ ⟨x0, x1, x2, x3, x4, x5, x6, x7, x8, k⟩ => ⟨x0, x1, x2, x3, x4, x5, x6, x7, x8, w _ _ k⟩
  · obtain ⟨x, m, n, r, rfl, hx, hy, hrl, hb, k⟩ := h
    rw [List.map_cons]
    walk_at "go1"
    refine lc_mapL D.str (fun (x : Str) => optN (numW x)) (L := r) (st := stYes) (M := M) trivial (by omega) (fun x hx kk hk => ?_) ?_
    · have hb := hy x hx
      walk_at "go1"
      exact ⟨x, rfl, by omega, hk⟩
    have eL : r.map (fun x => optN (numW x)) = (r.map numW).map optN := by rw [List.map_map]; rfl
    rw [eL]
    have hlen : (r.map numW).length ≤ 1000 := by rw [List.length_map]; exact hrl
    generalize r.map numW = L at hb hlen ⊢
    obtain ⟨o1, o2, o3⟩ := opt_vs L
    walk_at "go1"
    rw [o1]
    rw [show fV .non = some .non from rfl]
    dsimp only
    by_cases hno : none ∈ L
    · rw [o3 hno]
      walk_at "go1"
      exact See.keep k
    rw [o2 hno]
    have h0 : L.any (·.isNone) = false := by
      rw [List.any_eq_false]
      intro o ho
      cases o with
      | none => exact absurd ho hno
      | some _ => exact Bool.false_ne_true
    unfold badR at hb
    rw [h0, Bool.false_or] at hb
    walk_at "go1"
    by_cases h2 : 2 < L.length
    · rw [decide_eq_true (show (2 : Int) < (L.length : Int) by omega)]
      walk_at "go1"
      exact See.keep k
    rw [decide_eq_false (show ¬ (2 : Int) < (L.length : Int) by omega)]
    rw [decide_eq_false h2, Bool.false_or] at hb
    match L, hb, h2 with
    | [], hb, _ =>
      have hb : ans5 n = false := by simpa using hb
      walk_at "go1"
      rw [show decide (((0 : Nat) : Int) = 2) = false by decide]
      walk_at "go1"
      rw [show decide (((0 : Nat) : Int) = 1) = false by decide]
      walk_at "go1"
      rw [hx]
      refine ⟨rfl, rfl, ?_⟩
      walk_at "go1"
      exact ⟨_, n, rfl, hb, See.keep k⟩
    | [o], hb, _ =>
      have hb : decide (n = "pull") = false := by simpa using hb
      walk_at "go1"
      rw [show decide (((1 : Nat) : Int) = 2) = false by decide]
      walk_at "go1"
      rw [show decide (((1 : Nat) : Int) = 1) = true by decide]
      walk_at "go1"
      rw [hb]
      walk_at "go1"
      exact See.keep k
    | [o, o'], hb, _ =>
      have hb : decide (n = "push") = false ∧ decide (n = "stretch") = false := by simpa using hb
      walk_at "go1"
      rw [show decide (((2 : Nat) : Int) = 2) = true by decide]
      walk_at "go1"
      rw [hx]
      refine ⟨rfl, rfl, ?_⟩
      walk_at "go1"
      exact ⟨_, _, _, n, rfl, hb.1, hb.2, See.keep k⟩
    | _ :: _ :: _ :: _, _, h2 => exact (h2 (by simp)).elim
def lineB (t : Str) : Bool := badW (splW t) && ((splW t).all fun y => decide (y.length ≤ 1000)) && decide ((splW t).length ≤ 1000) && decide (t.length ≤ 900)
/-- what is no command -/
inductive BadL : D → Sto → Prop
  | str {t : Str} {M : Sto} (h : lineB t = true) : BadL (.str t) M
  | odd {d : D} {M : Sto} {y : String} (h : tyNm d M = some y) (hs : tabStr y = false) : BadL d M
def spSExec (mg : Str → Option Value) : DSp := fun args M Q _ => ∃ (x m : Nat) (d : D), args = [.ref x, d] ∧ M[x]? = some (shC mg m) ∧ BadL d M ∧ Q (.str "unknown command") M
theorem c_Shell_execute (T : Tp K mg) : ClMe P w K mg base (cls mg "Shell") "execute" (10 + 1) ["self", "line"] (spSExec mg) := by
  obtain ⟨f, fd, F, hm⟩ := T.d_Shell_execute.ex
  have S := sc_Shell_execute
  have B := T.bn
  have c_Shell_run := @c_Shell_run P w K mg base T
  obtain ⟨t_UNKNOWN_COMMAND, m_UNKNOWN_COMMAND⟩ := T.k_UNKNOWN_COMMAND
  refine ⟨⟨f, fd, T.cl_Shell, hm, fnD F S (fun args M Q E h => by (repeat (obtain ⟨_, h⟩ := h)); subst_vars; rfl) (fun cdv A outer s H E hgd hr => ⟨_, (ds_cons (ds_if (dt_not (dt_val (d_isi tab_str (by rfl) B.isinstance (by rfl) B.str b_str (dv 1)))) (ds_one (ds_ret (d_globS (by rfl) m_UNKNOWN_COMMAND))) ds_nil)
  (ds_cons (ds_tryQ (ds_one (dss 2 S.nd (d_meth c_Shell_run hgd (hr.mono (by first | decide | omega)) (dv 0) (d_cons (d_split (dv 1) d_str) d_nil)))))
  (ds_one (ds_ret (d_if (dt_cmp o_isN (dv 2) d_non) (d_globS (by rfl) m_UNKNOWN_COMMAND) (dv 2)))))), fun args M Q E' hM hA h => ?_⟩), (F.binds (ps := ["self", "line"]) fun _ _ _ _ _ _ us hl => match us, hl with | [_, _], _ => rfl)⟩, ?_⟩
  rotate_left
  · exact fun args M Q Q' E E' w _ ⟨x0, x1, x2, x3, x4, x5, k⟩ => ⟨x0, x1, x2, x3, x4, x5, w _ _ k⟩
  · obtain ⟨x, m, d, rfl, hx, hb, k⟩ := h
    have c3 : Str.length (" " : Str) = 1 := by decide +kernel
    cases hb with
    | @str t _ h =>
      unfold lineB at h
      simp only [Bool.and_eq_true, decide_eq_true_iff] at h
      obtain ⟨⟨⟨h1, h2⟩, h3⟩, h4⟩ := h
      obtain ⟨n, r, e⟩ : ∃ n r, splW t = n :: r := by
        cases e : splW t with
        | nil => rw [e] at h1; cases h1
        | cons n r => exact ⟨n, r, rfl⟩
      have e' : Txt.split t " " = n :: r := e
      rw [e] at h1 h2 h3
      walk_at "go1"
      rw [hx]
      refine ⟨rfl, rfl, ?_⟩
      walk_at "go1"
      refine ⟨by rw [c3]; decide, size_line (by omega), ?_⟩
      rw [e']
      walk_at "go1"
      refine ⟨x, m, n, r, rfl, hx, fun y hy => ?_, by rw [List.length_cons] at h3; omega, h1, ?_⟩
      · have := of_decide_eq_true (List.all_eq_true.mp h2 y (List.mem_cons_of_mem _ hy))
        omega
      walk_at "go1"
      exact See.keep k
    | odd h hs =>
      walk_at "go1"
      rw [h]
      dsimp only
      rw [hs]
      walk_at "go1"
      exact See.keep k
def spOdd : DSp := fun args M Q _ => ∃ (cs : List Int) (n : Int) (R : Sto) (b : Nat), args = [.ref 1] ∧ M = dk cs n ++ R ∧ Good (b + 1) cs n ∧ ∀ (d : D) (cs : List Int) (n : Int), (∃ y, (∀ M, tyNm d M = some y) ∧ tabStr y = false) → Good b cs n → Q d (dk cs n ++ R)
theorem c__law_odd (T : Tp K mg) : Cl P w K mg base "_law_odd" (1 + 1) ["_law_deck_here"] spOdd := by
  obtain ⟨f, fd, F, hm⟩ := T.d__law_odd.ex
  have S := sc__law_odd
  have B := T.bn
  have c__law_draw := @c__law_draw P w K mg base T
  refine ⟨⟨f, fd, fnD F S (fun args M Q E h => by (repeat (obtain ⟨_, h⟩ := h)); subst_vars; rfl) (fun cdv A outer s H E hgd hr => ⟨_, (ds_cons (dss 1 S.nd (d_lst (d_cons d_non (d_cons d_bl (d_cons d_bl (d_cons d_int (d_cons (d_un o_neg d_int) (d_cons (d_op o_pow d_int d_int) (d_cons (d_tup d_nil) (d_cons (d_lst d_nil) (d_cons d_dct0 (d_cons (d_tup (d_cons d_int (d_cons d_int d_nil))) (d_cons (d_lst (d_cons d_str d_nil)) (d_cons (d_tup (d_cons (d_tup d_nil) (d_cons (d_tup (d_cons (d_tup (d_cons d_int (d_cons d_int d_nil))) d_nil)) d_nil))) d_nil))))))))))))))
  (ds_one (ds_ret (d_ix (dv 1) (d_cl c__law_draw hgd (hr.mono (by first | decide | omega)) (d_cons (dv 0) (d_cons d_int d_nil))) (fun _ _ => rfl))))), fun args M Q E' hM hA h => ?_⟩), hm, F.kp, (F.binds (ps := ["_law_deck_here"]) fun _ _ _ _ _ _ us hl => match us, hl with | [_], _ => rfl)⟩, ?_⟩
  rotate_left
  · exact fun args M Q Q' E E' w _ ⟨x0, x1, x2, x3, x4, x5, x6, k⟩ => ⟨x0, x1, x2, x3, x4, x5, x6, fun y0 y1 y2 y3 y4 => w _ _ (k y0 y1 y2 y3 y4)⟩
  · obtain ⟨cs, n, R, b, rfl, rfl, g, k⟩ := h
    walk_at "go1"
    refine dr (b := b) g (by decide) (by decide) fun r cs n hr g => ?_
    have h12 : ∃ d, atI [D.non, D.bl true, D.bl false, D.int 0, D.int (-1), D.int 100000000000000000000000000000, D.tup [], D.lst [], D.dct [] [], D.tup [D.int 0, D.int 0], D.lst [D.str "; 0@5"], D.tup [D.tup [], D.tup [D.tup [D.int 0, D.int 5]]]] (r : Int) = some d ∧ ∃ y, (∀ M, tyNm d M = some y) ∧ tabStr y = false := by
      have : r = 0 ∨ r = 1 ∨ r = 2 ∨ r = 3 ∨ r = 4 ∨ r = 5 ∨ r = 6 ∨ r = 7 ∨ r = 8 ∨ r = 9 ∨ r = 10 ∨ r = 11 := by omega
      rcases this with rfl | rfl | rfl | rfl | rfl | rfl | rfl | rfl | rfl | rfl | rfl | rfl <;> exact ⟨_, atI_of rfl rfl, _, fun _ => rfl, by decide⟩
    obtain ⟨d, e1, hd⟩ := h12
    walk_at "go1"
    rw [e1]
    walk_at "go1"
    exact See.keep (k d cs n hd g)
theorem sum_ok {a b : Nat} (h1 : a ≤ 50000) (h2 : b ≤ 50000) : a + b ≤ 100000 := by omega
def good8 (w : Str) : List Str := ["push 0 " ++ w, "pull " ++ w, "stretch 1 " ++ w, "undo", "field", "finish", "falls", "needed"]
theorem good8_len {w : Str} (hw : w.length ≤ 2) : ∀ l ∈ good8 w, l.length ≤ 12 := by
  have e1 : Str.length ("push 0 " : Str) = 7 := by decide +kernel
  have e2 : Str.length ("pull " : Str) = 5 := by decide +kernel
  have e3 : Str.length ("stretch 1 " : Str) = 10 := by decide +kernel
  intro l hl
  simp only [good8, List.mem_cons, List.not_mem_nil, or_false] at hl
  rcases hl with rfl | rfl | rfl | rfl | rfl | rfl | rfl | rfl
  · rw [len_app]; omega
  · rw [len_app]; omega
  · rw [len_app]; omega
  all_goals decide +kernel
def base13 (w : Str) : List Str := ["", " ", "-", "none", "ok", "error", "help", "edits", "attempt", "walk", "unknown command", w, "0@1"]
theorem blank_eq : (" " : Str) = ⟨#[32]⟩ := by decide +kernel
def f8 (l : Str) : List Str := [l ++ " ", " " ++ l, l ++ " x", l ++ "\n", Txt.upper l ++ ",", l ++ ",", l ++ " 0 0", replN l " " "  " 1 ++ mulS " " (if decide (32 ∈ TL.tl l) = true then 0 else 1)]
def bad15 : List Str := ["00", "01", "-0", "-1", "+1", "1_0", "_1", "1_", "-", mulS "1" 11, "0.5", "none", "1e1", "0@1", "0:1"]
def f15 (o : Str) : List Str := ["push 0 " ++ o, "push " ++ o ++ " 0", "pull " ++ o, "stretch 1 " ++ o, "stretch " ++ o ++ " 1"]
theorem flat_len (L : List Str) : (L.flatMap f8).length = 8 * L.length := by
  rw [List.length_flatMap]
  induction L with
  | nil => rfl
  | cons a L ih => rw [List.map_cons, List.sum_cons, ih, List.length_cons, show (f8 a).length = 8 from rfl]; omega
theorem get_two {M : Sto} {a b : Cell} : (M ++ [a] ++ [b])[M.length + 1]? = some b := by
  rw [List.getElem?_append_right (by simp)]
  simp
theorem get_three {M : Sto} {a b c : Cell} : (M ++ [a] ++ [b] ++ [c])[M.length + 1 + 1]? = some c := by
  rw [List.getElem?_append_right (by simp)]
  simp
theorem get_four {M : Sto} {a b c d : Cell} : (M ++ [a] ++ [b] ++ [c] ++ [d])[M.length + 1 + 1 + 1]? = some d := by
  rw [List.getElem?_append_right (by simp)]
  simp
theorem get_five {M : Sto} {a b c d e : Cell} : (M ++ [a] ++ [b] ++ [c] ++ [d] ++ [e])[M.length + 1 + 1 + 1 + 1]? = some e := by
  rw [List.getElem?_append_right (by simp)]
  simp
def inv8 (w : Str) (M : Sto) : List D → List D → Dn → Sto → Prop := fun done todo ρ M' => done ++ todo = (good8 w).map D.str ∧ ∃ (k : Nat) (N : Sto) (x3 : Option D), ρ = ⟨[some (.str w), some (.lst ((good8 w).map D.str)), some (.ref k), x3, none, none], noX⟩ ∧ M' = M ++ N ∧ M.length ≤ k ∧ M'[k]? = some (.lst ((base13 w ++ ((good8 w).take done.length).flatMap f8).map D.str))
def first61 (w : Str) : List Str := base13 w ++ (good8 w).flatMap f8
theorem flat_len15 (L : List Str) : (L.flatMap f15).length = 5 * L.length := by
  rw [List.length_flatMap]
  induction L with
  | nil => rfl
  | cons a L ih => rw [List.map_cons, List.sum_cons, ih, List.length_cons, show (f15 a).length = 5 from rfl]; omega
theorem bad15_len : ∀ o ∈ bad15, o.length ≤ 11 := by
  have h : (bad15.all fun o => decide (o.length ≤ 11)) = true := by decide +kernel
  exact fun o ho => of_decide_eq_true (List.all_eq_true.mp h o ho)
def inv15 (w : Str) (M : Sto) : List D → List D → Dn → Sto → Prop := fun done todo ρ M' => done ++ todo = bad15.map D.str ∧ ∃ (k : Nat) (N : Sto) (x1 x3 x5 : Option D), ρ = ⟨[some (.str w), x1, some (.ref k), x3, some (.lst (bad15.map D.str)), x5], noX⟩ ∧ M' = M ++ N ∧ M.length ≤ k ∧ M'[k]? = some (.lst ((first61 w ++ (bad15.take done.length).flatMap f15).map D.str))
def last6 : List Str := ["push", "push 0", "push 0 ", "push 0,1", "push 0 1 2", "push 0@1"]
def last3 : List Str := ["pull", "pull 0 0", "pull 0 0 0"]
def last8 : List Str := ["stretch", "stretch 1", "stretch 1 2 3", "stretch 0:2", "undo 1", "field 0", "finish 0", "falls 0"]
def last6b : List Str := ["needed 0", "fall 0", "Undo", "undo.", "pushes 0 1", "read ;"]
def last4 : List Str := ["shot 1", "push0 1", "known", "tree"]
def last7 : List Str := ["0:2;", "; 0@5", "finish?", "falls 0 0", "undo 0 0 0", "falls 1 2 3", "field 0 0 0 0"]
def lines61 (w : Str) : List Str := first61 w ++ bad15.flatMap f15 ++ last6 ++ last3 ++ last8 ++ last6b ++ last4 ++ last7
def spLines : DSp := fun args M Q _ => ∃ (w : Str), args = [.str w] ∧ w.length ≤ 2 ∧ Q (.lst ((lines61 w).map D.str)) M
theorem c__law_lines (T : Tp K mg) : Cl P w K mg base "_law_lines" (0 + 1) ["_law_word"] spLines := by
  obtain ⟨f, fd, F, hm⟩ := T.d__law_lines.ex
  have S := sc__law_lines
  have B := T.bn
  refine ⟨⟨f, fd, fnD F S (fun args M Q E h => by (repeat (obtain ⟨_, h⟩ := h)); subst_vars; rfl) (fun cdv A outer s H E hgd hr => ⟨_, (ds_cons (dss 1 S.nd (d_lst (d_cons (d_op o_add d_str (dv 0)) (d_cons (d_op o_add d_str (dv 0)) (d_cons (d_op o_add d_str (dv 0)) (d_cons d_str (d_cons d_str (d_cons d_str (d_cons d_str (d_cons d_str d_nil))))))))))
  (ds_cons (dss 2 S.nd (d_lstM (d_cons d_str (d_cons d_str (d_cons d_str (d_cons d_str (d_cons d_str (d_cons d_str (d_cons d_str (d_cons d_str (d_cons d_str (d_cons d_str (d_cons d_str (d_cons (dv 0) d_nil))))))))))))))
  (ds_cons (ds_expr (d_append (dv 2) (d_cons d_str d_nil)))
  (ds_cons (ds_forI (passes_of rfl) rfl (di_seq (dv 1)) (dgn 3 S.nd) (ds_cons (dss 2 S.nd (d_op o_addM (dv 2) (d_lst (d_cons (d_op o_add (dv 3) d_str) (d_cons (d_op o_add d_str (dv 3)) (d_cons (d_op o_add (dv 3) d_str) (d_cons (d_op o_add (dv 3) d_str) (d_cons (d_op o_add (d_upper (dv 3)) d_str) d_nil))))))))
  (dss_set1 2 S.nd (d1_op o_addM (dv 2) (d1_lst (da1_cons (d1_op o_add (dv 3) d1_str) (d_cons (d_op o_add (dv 3) d_str) d_nil)))) (dsst_one (dst_append (dv 2) (dat_one (det_op o_add (det_replN (n := 1) (dv 3)) (d_op o_mulS d_str (d_callTy o_int1 (by rfl) B.int b_int (d_cons (d_cmp o_notinS d_str (dv 3)) d_nil))))))))))
  (ds_cons (dss 4 S.nd (d_lst (d_cons d_str (d_cons d_str (d_cons d_str (d_cons d_str (d_cons d_str (d_cons d_str (d_cons d_str (d_cons d_str (d_cons d_str (d_cons (d_op o_mulS d_str d_int) (d_cons d_str (d_cons d_str (d_cons d_str (d_cons d_str (d_cons d_str d_nil)))))))))))))))))
  (ds_cons (ds_forI (passes_of rfl) rfl (di_seq (dv 4)) (dgn 5 S.nd) (ds_cons (dss 2 S.nd (d_op o_addM (dv 2) (d_lst (d_cons (d_op o_add d_str (dv 5)) (d_cons (d_op o_add (d_op o_add d_str (dv 5)) d_str) (d_cons (d_op o_add d_str (dv 5)) d_nil))))))
  (ds_one (dss 2 S.nd (d_op o_addM (dv 2) (d_lst (d_cons (d_op o_add d_str (dv 5)) (d_cons (d_op o_add (d_op o_add d_str (dv 5)) d_str) d_nil))))))))
  (ds_cons (dss 2 S.nd (d_op o_addM (dv 2) (d_lst (d_cons d_str (d_cons d_str (d_cons d_str (d_cons d_str (d_cons d_str (d_cons d_str d_nil)))))))))
  (ds_cons (dss 2 S.nd (d_op o_addM (dv 2) (d_lst (d_cons d_str (d_cons d_str (d_cons d_str d_nil))))))
  (ds_cons (dss 2 S.nd (d_op o_addM (dv 2) (d_lst (d_cons d_str (d_cons d_str (d_cons d_str (d_cons d_str (d_cons d_str (d_cons d_str (d_cons d_str (d_cons d_str d_nil)))))))))))
  (ds_cons (dss 2 S.nd (d_op o_addM (dv 2) (d_lst (d_cons d_str (d_cons d_str (d_cons d_str (d_cons d_str (d_cons d_str (d_cons d_str d_nil)))))))))
  (ds_cons (dss 2 S.nd (d_op o_addM (dv 2) (d_lst (d_cons d_str (d_cons d_str (d_cons d_str (d_cons d_str d_nil)))))))
  (ds_one (ds_ret (d_op o_add (dv 2) (d_lst (d_cons d_str (d_cons d_str (d_cons d_str (d_cons d_str (d_cons d_str (d_cons d_str (d_cons d_str d_nil)))))))))))))))))))))), fun args M Q E' hM hA h => ?_⟩), hm, F.kp, (F.binds (ps := ["_law_word"]) fun _ _ _ _ _ _ us hl => match us, hl with | [_], _ => rfl)⟩, ?_⟩
  rotate_left
  · exact fun args M Q Q' E E' w _ ⟨x0, x1, x2, k⟩ => ⟨x0, x1, x2, w _ _ k⟩
  · obtain ⟨w, rfl, hw, k⟩ := h
    walk_at "go1"
    repeat
      refine ⟨sum_ok (by first | decide +kernel | omega) (by first | decide +kernel | omega), ?_⟩
      walk_at "go1"
    refine ⟨inv8 w M, ⟨rfl, M.length, [.lst ((base13 w).map D.str)], none, rfl, ?_, Nat.le_refl _, ?_⟩, fun _ _ _ _ _ => trivial, ?_, ?_⟩
    · rfl
    · show _ = some (Cell.lst ((base13 w ++ []).map D.str))
      rw [List.append_nil]
      simp [base13]
    · rintro done d todo ρ M2 ⟨e, kk, N, x3, rfl, rfl, hk, hg⟩
      have e0 := e
      obtain ⟨l, hl, rfl, hlt⟩ := map_mid e
      have hl12 := good8_len hw l (List.mem_of_getElem? hl)
      walk_at "go1"
      have hu := PyProof.Rows.len_upper l
      repeat
        refine ⟨sum_ok (by first | decide +kernel | omega) (by first | decide +kernel | omega), ?_⟩
        walk_at "go1"
      have hgl : (List.map D.str (base13 w ++ List.flatMap f8 (List.take done.length (good8 w)))).length ≤ 200 := by
        rw [List.length_map, List.length_append, flat_len]
        have h8 : (good8 w).length = 8 := rfl
        have : ((good8 w).take done.length).length ≤ 8 := by rw [List.length_take]; omega
        show 13 + _ ≤ 200
        omega
      generalize hG : List.map D.str (base13 w ++ List.flatMap f8 (List.take done.length (good8 w))) = G at hg hgl ⊢
      rw [hg]
      walk_at "go1"
      refine ⟨sum_ok (by first | decide +kernel | omega) (by first | decide +kernel | omega), ?_⟩
      rw [← List.length_append]
      generalize hM0 : M ++ N = M0 at hg ⊢
      walk_at "go1"
      refine ⟨sum_ok (by first | decide +kernel | omega) (by first | decide +kernel | omega), ?_⟩
      walk_at "go1"
      refine ⟨by rw [show Str.length ("  " : Str) = 2 by decide +kernel]; omega, ?_⟩
      walk_at "go1"
      refine ⟨32, blank_eq, ?_⟩
      have hsp : decide (32 ∈ l.cps.toList) = decide (32 ∈ TL.tl l) := rfl
      rw [hsp]
      have hf : f8 l = [l ++ " ", " " ++ l, l ++ " x", l ++ "\n", Txt.upper l ++ ",", l ++ ",", l ++ " 0 0", replN l " " "  " 1 ++ mulS " " (if decide (32 ∈ TL.tl l) = true then 0 else 1)] := rfl
      have fin0 : ∀ (Z : List D), Z = List.map D.str (base13 w ++ List.flatMap f8 (List.take (done.length + 1) (good8 w))) → ∀ (a : Cell), inv8 w M (done ++ [D.str l]) todo ⟨[some (D.str w), some (D.lst (List.map D.str (good8 w))), some (D.ref (List.length M0 + 1)), some (D.str l), none, none], noX⟩ (M0 ++ [a] ++ [Cell.lst Z]) := fun Z hZ a => by
        refine ⟨by rw [← e0]; simp, _, N ++ [a] ++ [.lst Z], _, rfl, by rw [← hM0]; simp only [List.append_assoc], by rw [← hM0, List.length_append]; omega, ?_⟩
        rw [get_two, hZ, List.length_append, List.length_singleton]
      have fin : ∀ j : Nat, f8 l = [l ++ " ", " " ++ l, l ++ " x", l ++ "\n", Txt.upper l ++ ",", l ++ ",", l ++ " 0 0", replN l " " "  " 1 ++ mulS " " j] → ∀ (a : Cell), inv8 w M (done ++ [D.str l]) todo ⟨[some (D.str w), some (D.lst (List.map D.str (good8 w))), some (D.ref (List.length M0 + 1)), some (D.str l), none, none], noX⟩
          (M0 ++ [a] ++ [Cell.lst (G ++ [D.str (l ++ " "), D.str (" " ++ l), D.str (l ++ " x"), D.str (l ++ "\n"), D.str (Txt.upper l ++ ",")] ++ [D.str (l ++ ","), D.str (l ++ " 0 0")] ++ [D.str (replN l " " "  " 1 ++ mulS " " j)])]) := fun j ef a => by
        refine fin0 _ ?_ a
        rw [take_snoc hl, List.flatMap_append, ← List.append_assoc, List.map_append, hG]
        rw [show [l].flatMap f8 = f8 l by simp, ef]
        simp only [List.append_assoc, List.map_cons, List.map_nil, List.cons_append, List.nil_append]
      have hr := replN_len l " " "  " 1
      rw [show Str.length ("  " : Str) = 2 by decide +kernel] at hr
      have hm : ∀ j : Nat, j ≤ 1 → (mulS " " j).length ≤ 50000 := fun j hj => by
        rw [mulS_len, show Str.length (" " : Str) = 1 by decide +kernel]; omega
      cases hd : decide (32 ∈ TL.tl l) with
      | true =>
        rw [hd] at hf
        walk_at "go1"
        refine ⟨sum_ok (by omega) (hm 0 (by omega)), ?_⟩
        walk_at "go1"
        exact fin 0 hf _
      | false =>
        rw [hd] at hf
        walk_at "go1"
        refine ⟨sum_ok (by omega) (hm 1 (by omega)), ?_⟩
        walk_at "go1"
        exact fin 1 hf _
    rintro done ρ M2 ⟨e, kk, N, x3, rfl, rfl, hk, hg⟩
    rw [List.append_nil] at e
    have hd := congrArg List.length e
    rw [List.length_map] at hd
    rw [hd, List.take_length] at hg
    walk_at "go1"
    refine ⟨inv15 w M, ⟨rfl, kk, N, _, _, none, rfl, rfl, hk, ?_⟩, fun _ _ _ _ _ => trivial, ?_, ?_⟩
    · show _ = some (Cell.lst ((first61 w ++ []).map D.str))
      rw [List.append_nil]
      exact hg
    · clear hg hk hd e
      rintro done2 d todo2 ρ M2 ⟨e, kk, N, x1, x3, x5, rfl, rfl, hk, hg⟩
      have e0 := e
      obtain ⟨o, ho, rfl, hlt⟩ := map_mid e
      have hl12 := bad15_len o (List.mem_of_getElem? ho)
      have hgl : (List.map D.str (first61 w ++ List.flatMap f15 (List.take done2.length bad15))).length ≤ 200 := by
        rw [List.length_map, List.length_append, flat_len15, show (first61 w).length = 77 from rfl]
        have h8 : bad15.length = 15 := rfl
        have : (bad15.take done2.length).length ≤ 15 := by rw [List.length_take]; omega
        omega
      generalize hG : List.map D.str (first61 w ++ List.flatMap f15 (List.take done2.length bad15)) = G at hg hgl ⊢
      have c1 : Str.length ("push " : Str) = 5 := by decide +kernel
      have c2 : Str.length ("stretch " : Str) = 8 := by decide +kernel
      walk_at "go1"
      repeat
        refine ⟨sum_ok (by first | decide +kernel | omega | (rw [len_app]; omega)) (by first | decide +kernel | omega), ?_⟩
        walk_at "go1"
      rw [hg]
      walk_at "go1"
      rw [← List.length_append]
      generalize hM0 : M ++ N = M0 at hg ⊢
      walk_at "go1"
      repeat
        refine ⟨sum_ok (by first | decide +kernel | omega | (rw [len_app]; omega)) (by first | decide +kernel | omega), ?_⟩
        walk_at "go1"
      have fin0 : ∀ (Z : List D), Z = List.map D.str (first61 w ++ List.flatMap f15 (List.take (done2.length + 1) bad15)) → ∀ (a : Cell), inv15 w M (done2 ++ [D.str o]) todo2 ⟨[some (D.str w), x1, some (D.ref (List.length M0 + 1)), x3, some (D.lst (List.map D.str bad15)), some (D.str o)], noX⟩ (M0 ++ [a] ++ [Cell.lst Z]) := fun Z hZ a => by
        refine ⟨by rw [← e0]; simp, _, N ++ [a] ++ [.lst Z], _, _, _, rfl, by rw [← hM0]; simp only [List.append_assoc], by rw [← hM0, List.length_append]; omega, ?_⟩
        rw [get_two, hZ, List.length_append, List.length_singleton]
      refine fin0 _ ?_ _
      rw [take_snoc ho, List.flatMap_append, ← List.append_assoc, List.map_append, hG]
      rw [show [o].flatMap f15 = f15 o by simp]
      simp only [f15, List.append_assoc, List.map_cons, List.map_nil, List.cons_append, List.nil_append]
    · clear hg hk hd e
      rintro done2 ρ M2 ⟨e, kk, N, x1, x3, x5, rfl, rfl, hk, hg⟩
      rw [List.append_nil] at e
      have hd := congrArg List.length e
      rw [List.length_map] at hd
      rw [hd, List.take_length] at hg
      have hgl : (List.map D.str (first61 w ++ List.flatMap f15 bad15)).length = 152 := by
        rw [List.length_map, List.length_append, flat_len15, show (first61 w).length = 77 from rfl]
        rfl
      have hfin : (lines61 w).map D.str = (first61 w ++ List.flatMap f15 bad15).map D.str ++ last6.map D.str ++ last3.map D.str ++ last8.map D.str ++ last6b.map D.str ++ last4.map D.str ++ last7.map D.str := by
        unfold lines61
        simp only [List.map_append]
      have hbel : bel M.length (.lst ((lines61 w).map D.str)) = true := bels_of fun d hd => by
        obtain ⟨x, _, rfl⟩ := List.mem_map.mp hd
        rfl
      rw [hfin] at k hbel
      generalize List.map D.str (first61 w ++ List.flatMap f15 bad15) = G at hg hgl k hbel
      walk_at "go1"
      rw [hg]
      walk_at "go1"
      rw [← List.length_append]
      generalize hM0 : M ++ N = M0 at hg ⊢
      walk_at "go1"
      rw [get_three]
      walk_at "go1"
      rw [get_four]
      walk_at "go1"
      rw [get_five]
      walk_at "go1"
      rw [← hM0]
      rw [List.append_assoc M N, List.append_assoc M, List.append_assoc M, List.append_assoc M, List.append_assoc M]
      exact See.drop hbel hM k
def b11 : List Str := ["", " ", "-", "none", "ok", "error", "help", "edits", "attempt", "walk", "unknown command"]
def g3 (w : Str) : List Str := ["push 0 " ++ w, "pull " ++ w, "stretch 1 " ++ w]
def g5 : List Str := ["undo", "field", "finish", "falls", "needed"]
theorem good8_eq (w : Str) : good8 w = g3 w ++ g5 := rfl
theorem base13_eq (w : Str) : base13 w = b11 ++ [w] ++ (["0@1"] : List Str) := rfl
theorem bad_fix : (b11 ++ (["0@1"] : List Str) ++ g5.flatMap f8 ++ bad15.flatMap f15 ++ last6 ++ last3 ++ last8 ++ last6b ++ last4 ++ last7).all lineB = true := by decide +kernel
theorem bad_word : ((List.range 30).all fun (k : Nat) => ([numT (k : Int)] ++ (g3 (numT (k : Int))).flatMap f8).all lineB) = true := by decide +kernel
theorem word_len {k : Nat} (hk : k < 30) : (numT (k : Int)).length ≤ 2 := by
  have h : ((List.range 30).all fun (k : Nat) => decide ((numT (k : Int)).length ≤ 2)) = true := by decide +kernel
  exact of_decide_eq_true (List.all_eq_true.mp h k (List.mem_range.mpr hk))
theorem lines_bad {k : Nat} (hk : k < 30) : ∀ x ∈ lines61 (numT (k : Int)), lineB x = true := by
  intro x hx
  have h1 := List.all_eq_true.mp bad_fix
  have h2 := List.all_eq_true.mp (List.all_eq_true.mp bad_word k (List.mem_range.mpr hk))
  unfold lines61 first61 at hx
  rw [good8_eq, base13_eq, List.flatMap_append] at hx
  generalize g5.flatMap f8 = A at hx h1
  generalize bad15.flatMap f15 = B at hx h1
  generalize (g3 (numT (k : Int))).flatMap f8 = C at hx h2
  simp only [List.mem_append] at hx h1 h2
  rcases hx with (((((((((h | h) | h) | (h | h)) | h) | h) | h) | h) | h) | h) | h
  all_goals first
    | exact h1 x (by simp only [h, true_or, or_true])
    | exact h2 x (by simp only [h, true_or, or_true])
def Dis (p q : Fp) : Prop := ∀ i, (i = p.n ∨ i = p.a ∨ i = p.b ∨ i = p.c ∨ i = p.d) → i ≠ q.a ∧ i ≠ q.b ∧ i ≠ q.c ∧ i ≠ q.d
theorem fld_off {C : Addr} {M : Sto} {p q : Fp} {w : Bool} {mo : List (Str × D)} {hs gs : List FS} {ns ms : List D} {es fs : List Ed} (F : Fld C M p w mo hs ns es) (d : Dis p q) : Fld C (DL.putF M q gs ms fs) p w mo hs ns es := F.keep fun i hi => by
  obtain ⟨a, b, c, e⟩ := d i hi
  exact putF_get a b c e
structure In2 (mg : Str → Option Value) (M : Sto) (p q : Fp) (s : FS) : Prop where
  F : ∃ (hs : List FS) (ns : List D) (es : List Ed), Fld (cls mg "Field") M p false [] (hs ++ [s]) (ns ++ [.non]) es ∧ hs.length = es.length ∧ ns.length = es.length ∧ es.length = s.2.length
  G : ∃ (hs : List FS) (ns : List D) (es : List Ed), Fld (cls mg "Field") M q false [] (hs ++ [s]) (ns ++ [.non]) es ∧ hs.length = es.length ∧ ns.length = es.length ∧ es.length = s.2.length
theorem In2.dk {mg : Str → Option Value} {cs cs' : List Int} {n n' : Int} {R : Sto} {p q : Fp} {s : FS} (I : In2 mg (dk cs n ++ R) p q s) (hp : p.ge 2) (hq : q.ge 2) : In2 mg (DL.dk cs' n' ++ R) p q s := by
  obtain ⟨⟨hs, ns, es, F, a⟩, gs, ms, fs, G, b⟩ := I
  exact ⟨⟨hs, ns, es, F.dk hp, a⟩, gs, ms, fs, G.dk hq, b⟩
theorem In2.app {mg : Str → Option Value} {M : Sto} {p q : Fp} {s : FS} (I : In2 mg M p q s) (N : Sto) : In2 mg (M ++ N) p q s := by
  obtain ⟨⟨hs, ns, es, F, a⟩, gs, ms, fs, G, b⟩ := I
  exact ⟨⟨hs, ns, es, F.app N, a⟩, gs, ms, fs, G.app N, b⟩
def invP (mg : Str → Option Value) (ns cs : List Int) (n : Int) (p q : Fp) (t : Tr) (ps : Ps) : List D → List D → Dn → Sto → Prop := fun done todo ρ M => done ++ todo = ps.map pushD ∧ ∃ (R : Sto) (x6 x7 : Option D), ρ = ⟨[some (.scr ns), some (.ref 1), some (treeD t), some (psD ps), some (.ref p.n), some (.ref q.n), x6, x7, none, none, none], noX⟩ ∧ M = dk cs n ++ R ∧ In2 mg M p q (t, ps.take done.length)
abbrev LEVEL : Nat := 30 + 1
set_option maxHeartbeats 4000000 in
theorem law_fn (T : Tp K mg) {f : Addr} {fd : FuncData} (F : Fun K "law" "law" s_law f fd) (base : Heap) : FnG P w K mg base (CXd P w) LEVEL f fd ["_law_script"] (spOf K spLaw) := by
  have S := sc_law
  have B := T.bn
  have c_Field___eq__ := @c_Field___eq__ P w K mg base T
  have c_Field___init__ := @c_Field___init__ P w K mg base T
  have c_Field___len__ := @c_Field___len__ P w K mg base T
  have c_Field_falls := @c_Field_falls P w K mg base T
  have c_Field_push := @c_Field_push P w K mg base T
  have c_Field_pushes := @c_Field_pushes P w K mg base T
  have c_Field_tree := @c_Field_tree P w K mg base T
  have c_Shell___init__ := @c_Shell___init__ P w K mg base T
  have c_Shell_execute := @c_Shell_execute P w K mg base T
  have c__law_deck := @c__law_deck P w K mg base T
  have c__law_draw := @c__law_draw P w K mg base T
  have c__law_lines := @c__law_lines P w K mg base T
  have c__law_odd := @c__law_odd P w K mg base T
  have c__law_state := @c__law_state P w K mg base T
  refine fnD F S (fun args M Q E h => by (repeat (obtain ⟨_, h⟩ := h)); subst_vars; rfl) (fun cdv A outer s H E hgd hr => ⟨_, (ds_cons (dss 1 S.nd (d_cl c__law_deck hgd (hr.mono (by first | decide | omega)) (d_cons (dv 0) d_nil)))
  (ds_cons (ds_asg (d_cl c__law_state hgd (hr.mono (by first | decide | omega)) (d_cons (dv 1) (d_cons d_int (d_cons d_int d_nil)))) (dg_tupL (n := 2) rfl (dgs_cons (dgn 2 S.nd) (dgs_cons (dgn 3 S.nd) dgs_nil))))
  (ds_cons (dsp2 4 5 S.nd (d_cons (d_make c_Field___init__ hgd (hr.mono (by first | decide | omega)) (d_cons (dv 2) d_nil)) (d_cons (d_make c_Field___init__ hgd (hr.mono (by first | decide | omega)) (d_cons (dv 2) d_nil)) d_nil)))
  (ds_cons (ds_forI (passes_of rfl) rfl (di_seq (dv 3)) (dg_tup (n := 2) rfl (dgs_cons (dgn 6 S.nd) (dgs_cons (dgn 7 S.nd) dgs_nil))) (ds_cons (ds_expr (d_meth c_Field_push hgd (hr.mono (by first | decide | omega)) (dv 4) (d_cons (dv 6) (d_cons (dv 7) d_nil))))
  (ds_one (ds_expr (d_meth c_Field_push hgd (hr.mono (by first | decide | omega)) (dv 5) (d_cons (dv 6) (d_cons (dv 7) d_nil)))))))
  (ds_cons (dss 8 S.nd (d_make c_Shell___init__ hgd (hr.mono (by first | decide | omega)) (d_cons (dv 4) d_nil)))
  (ds_cons (dss 9 S.nd (d_op o_add (d_cl c__law_lines hgd (hr.mono (by first | decide | omega)) (d_cons (d_callTy o_str (by rfl) B.str b_str (d_cons (d_cl c__law_draw hgd (hr.mono (by first | decide | omega)) (d_cons (dv 1) (d_cons d_int d_nil))) d_nil)) d_nil)) (d_lst (d_cons (d_cl c__law_odd hgd (hr.mono (by first | decide | omega)) (d_cons (dv 1) d_nil)) (d_cons d_non (d_cons d_int (d_cons d_bl (d_cons (d_lst (d_cons d_str d_nil)) (d_cons (d_tup (d_cons d_str d_nil)) (d_cons (d_op o_pow d_int d_int) d_nil))))))))))
  (ds_cons (ds_forI (passes_of rfl) rfl (di_seq (dv 9)) (dgn 10 S.nd) (ds_one (ds_if (DW.dt (dw_or (dt_cmp (o_ne hr.units) (d_meth c_Shell_execute hgd (hr.mono (by first | decide | omega)) (dv 8) (d_cons (dv 10) d_nil)) d_str) (dw_or1 (dt_cmp (o_ne hr.units) (d_callB (o_lenO c_Field___len__ hgd (hr.mono (by first | decide | omega))) (by rfl) B.len b_len (d_cons (dv 4) d_nil)) (d_callB o_len (by rfl) B.len b_len (d_cons (dv 3) d_nil)))))) (ds_one (ds_ret d_bl)) ds_nil)))
  (ds_cons (ds_if (DW.dt (dw_or (dt_cmp (o_ne hr.units) (d_prop c_Field_tree hgd (hr.mono (by first | decide | omega)) (dv 4)) (dv 2)) (dw_or1 (dt_cmp (o_ne hr.units) (d_prop c_Field_pushes hgd (hr.mono (by first | decide | omega)) (dv 4)) (dv 3))))) (ds_one (ds_ret d_bl)) ds_nil)
  (ds_one (ds_ret (d_and (d_cmp (o_eqI c_Field___eq__ hgd (hr.mono (by first | decide | omega))) (dv 4) (dv 5)) (d_one (d_cmp (o_eq hr.units) (d_prop c_Field_falls hgd (hr.mono (by first | decide | omega)) (dv 4)) (d_prop c_Field_falls hgd (hr.mono (by first | decide | omega)) (dv 5))))))))))))))), fun args M Q E' hM hA h => ?_⟩)
  obtain ⟨ns, rfl, rfl, hl, k⟩ := h
  walk_at "go1"
  refine ⟨ns, rfl, rfl, hl, fun cs g => ?_⟩
  walk_at "go1"
  refine ⟨cs, 0, [], 12, 8, 1000, rfl, (List.append_nil _).symm, g.le (by decide), by decide, by decide, by decide, fun s cs n ho g => ?_⟩
  obtain ⟨t, ps⟩ := s
  have h2 : (dk cs n).length = 2 := rfl
  have F0 := newF_fld (cls mg "Field") (dk cs n) [] t
  have G0 := newF_fld (cls mg "Field") (dk cs n ++ newF (cls mg "Field") (dk cs n).length [] t) [] t
  obtain ⟨q, hq⟩ : ∃ q, q = fpAt (dk cs n ++ newF (cls mg "Field") (dk cs n).length [] t).length := ⟨_, rfl⟩
  obtain ⟨p, hp⟩ : ∃ p, p = fpAt (dk cs n).length := ⟨_, rfl⟩
  have hlen : (dk cs n ++ newF (cls mg "Field") (dk cs n).length [] t).length = 7 := rfl
  have hp2 : p.ge 2 := by rw [hp]; exact fpAt_ge 2
  have hq2 : q.ge 2 := by rw [hq, hlen]; obtain ⟨a, b, c, d, e⟩ := fpAt_ge 7; exact ⟨by omega, by omega, by omega, by omega, by omega⟩
  have hd1 : Dis p q := by
    rw [hp, hq, hlen, h2]
    intro i hi
    dsimp only [fpAt] at hi ⊢
    omega
  have hd2 : Dis q p := by
    rw [hp, hq, hlen, h2]
    intro i hi
    dsimp only [fpAt] at hi ⊢
    omega
  have I0 : In2 mg (dk cs n ++ (newF (cls mg "Field") (dk cs n).length [] t ++ newF (cls mg "Field") (dk cs n ++ newF (cls mg "Field") (dk cs n).length [] t).length [] t)) p q (t, []) := by
    rw [← List.append_assoc, hp, hq]
    exact ⟨⟨[], [], [], F0.app _, rfl, rfl, rfl⟩, [], [], [], G0, rfl, rfl, rfl⟩
  walk_at "go1"
  refine ⟨dk cs n, t, rfl, rfl, ho.tr, rfl, ?_⟩
  walk_at "go1"
  refine ⟨dk cs n ++ newF (cls mg "Field") (dk cs n).length [] t, t, ?_, rfl, ho.tr, rfl, ?_⟩
  · rw [List.length_append]
  walk_at "go1"
  have hps : ps.length ≤ 20 := ho.len
  refine ⟨invP mg ns cs n p q t ps, ⟨rfl, _, none, none, ?_, rfl, I0⟩, fun _ _ _ _ _ => trivial, ?_, ?_⟩
  · rw [hp, hq, List.length_append]
  · clear hp hq I0 F0 G0 hlen
    rintro done2 d todo2 ρ M2 ⟨e, R, x6, x7, rfl, rfl, I⟩
    have e0 := e
    obtain ⟨pu, hpu, rfl, hlt⟩ := map_mid e
    have hqp := ho.ps pu (List.mem_of_getElem? hpu)
    obtain ⟨⟨hs, nt, es, F, l1, l2, l3⟩, gs, ms, fs, G, m1, m2, m3⟩ := I
    have l3 : es.length = (ps.take done2.length).length := l3
    have m3 : fs.length = (ps.take done2.length).length := m3
    rw [List.length_take] at l3 m3
    have he : EdOk (t, ps.take done2.length) (.push pu.1 pu.2) := ⟨hqp, by show (ps.take done2.length).length < 20; rw [List.length_take]; omega⟩
    have ho2 : StOk (t, ps.take done2.length) := ⟨ho.tr, by show (ps.take done2.length).length ≤ 20; rw [List.length_take]; omega, fun x hx => ho.ps x (List.mem_of_mem_take hx)⟩
    have haft : aft (t, ps.take done2.length) (.push pu.1 pu.2) = (t, ps.take (done2.length + 1)) := by rw [take_snoc hpu]; rfl
    walk_at "go1"
    rw [F.ins]
    refine ⟨rfl, rfl, ?_⟩
    walk_at "go1"
    have hq3 : pu.1 ≤ t.length ∧ 0 ≤ pu.2 ∧ pu.2 ≤ 1000000000 := hqp
    refine ⟨p, hs, (t, ps.take done2.length), nt ++ [.non], es, pu.1, pu.2, rfl, F, ho2, he, by omega, by omega, by rw [List.length_append, List.length_singleton]; omega, ?_⟩
    walk_at "go1"
    have G1 := fld_off (gs := hs ++ [(t, ps.take done2.length)] ++ [aft (t, ps.take done2.length) (.push pu.1 pu.2)]) (ms := nt ++ [.non] ++ [.non]) (fs := es ++ [.push pu.1 pu.2]) G hd2
    rw [G1.ins]
    refine ⟨rfl, rfl, ?_⟩
    walk_at "go1"
    refine ⟨q, gs, (t, ps.take done2.length), ms ++ [.non], fs, pu.1, pu.2, rfl, G1, ho2, he, by omega, by omega, by rw [List.length_append, List.length_singleton]; omega, ?_⟩
    walk_at "go1"
    have F2 := F.put (hs ++ [(t, ps.take done2.length)] ++ [aft (t, ps.take done2.length) (.push pu.1 pu.2)]) (nt ++ [.non] ++ [.non]) (es ++ [.push pu.1 pu.2])
    have F3 := fld_off (gs := gs ++ [(t, ps.take done2.length)] ++ [aft (t, ps.take done2.length) (.push pu.1 pu.2)]) (ms := ms ++ [.non] ++ [.non]) (fs := fs ++ [.push pu.1 pu.2]) F2 hd1
    have G3 := G1.put (gs ++ [(t, ps.take done2.length)] ++ [aft (t, ps.take done2.length) (.push pu.1 pu.2)]) (ms ++ [.non] ++ [.non]) (fs ++ [.push pu.1 pu.2])
    obtain ⟨R1, e1, _⟩ := dk_putF' (cs := cs) (n := n) (R := R) hp2 (hs ++ [(t, ps.take done2.length)] ++ [aft (t, ps.take done2.length) (.push pu.1 pu.2)]) (nt ++ [.non] ++ [.non]) (es ++ [.push pu.1 pu.2])
    rw [e1] at F3 G3 ⊢
    obtain ⟨R2, e2, _⟩ := dk_putF' (cs := cs) (n := n) (R := R1) hq2 (gs ++ [(t, ps.take done2.length)] ++ [aft (t, ps.take done2.length) (.push pu.1 pu.2)]) (ms ++ [.non] ++ [.non]) (fs ++ [.push pu.1 pu.2])
    rw [e2] at F3 G3 ⊢
    rw [haft] at F3 G3
    have hl4 : (ps.take (done2.length + 1)).length = done2.length + 1 := by rw [List.length_take]; omega
    refine ⟨by rw [← e0]; simp, R2, _, _, rfl, rfl, ?_⟩
    rw [List.length_append, List.length_singleton]
    exact ⟨⟨_, _, _, F3, by simp [l1], by simp [l2], by rw [List.length_append, List.length_singleton]; show _ = (ps.take (done2.length + 1)).length; omega⟩, _, _, _, G3, by simp [m1], by simp [m2], by rw [List.length_append, List.length_singleton]; show _ = (ps.take (done2.length + 1)).length; omega⟩
  clear hp hq I0 F0 G0 hlen
  rintro done ρ M2 ⟨e, R, x6, x7, rfl, rfl, I⟩
  rw [List.append_nil] at e
  rw [e, List.length_map, List.take_length] at I
  dsimp only
  refine seq_mid (fun ρ M => ∃ (x : Nat) (R : Sto), ρ = ⟨[some (.scr ns), some (.ref 1), some (treeD t), some (psD ps), some (.ref p.n), some (.ref q.n), x6, x7, some (.ref x), none, none], noX⟩ ∧ M = dk cs n ++ R ∧ In2 mg M p q (t, ps) ∧ M[x]? = some (shC mg p.n) ∧ 2 ≤ x) (fun nx hnx => ?_) ?_
  · walk_at "go1"
    refine ⟨dk cs n ++ R, p.n, by rw [List.length_append], rfl, ?_⟩
    walk_at "go1"
    refine hnx _ _ ⟨(dk cs n).length + R.length, R ++ [shC mg p.n], rfl, List.append_assoc _ _ _, I.app _, ?_, Nat.le_add_right 2 R.length⟩
    rw [← List.length_append, List.getElem?_concat_length]
  clear I
  rintro ρ M ⟨x, R, rfl, rfl, I, hx, hx2⟩
  refine seq_mid (fun ρ M => ∃ (cs : List Int) (n : Int) (L : List D), ρ = ⟨[some (.scr ns), some (.ref 1), some (treeD t), some (psD ps), some (.ref p.n), some (.ref q.n), x6, x7, some (.ref x), some (.lst L), none], noX⟩ ∧ M = dk cs n ++ R ∧ In2 mg M p q (t, ps) ∧ M[x]? = some (shC mg p.n) ∧ (∀ d ∈ L, ∀ M, BadL d M)) (fun nx hnx => ?_) ?_
  · walk_at "go1"
    refine dr (b := 999) g (by decide) (by decide) fun r cs n hr g => ?_
    walk_at "go1"
    have hr30 : r < 30 := by omega
    have hn := numT_ok (nat_bnd (n := r) (by omega))
    refine ⟨hn.1, ?_⟩
    walk_at "go1"
    refine ⟨numT (r : Int), rfl, word_len hr30, ?_⟩
    walk_at "go1"
    refine ⟨cs, n, R, 998, rfl, rfl, g, fun d cs n hd g => ?_⟩
    walk_at "go1"
    refine ⟨by rw [show (lines61 (numT (r : Int))).length = 186 from rfl]; omega, ?_⟩
    refine hnx _ _ ⟨cs, n, _, rfl, rfl, I.dk hp2 hq2, (dk_at hx2).trans hx, fun d' hd' M' => ?_⟩
    rcases List.mem_append.mp hd' with h | h
    · obtain ⟨y, hy, rfl⟩ := List.mem_map.mp h
      exact .str (lines_bad hr30 y hy)
    · simp only [List.mem_cons, List.not_mem_nil, or_false] at h
      rcases h with rfl | rfl | rfl | rfl | rfl | rfl | rfl
      · obtain ⟨y, hy, hs⟩ := hd
        exact .odd (hy M') hs
      all_goals exact .odd rfl (by decide)
  clear I hx g
  rintro ρ M ⟨cs, n, L, rfl, rfl, I, hx, hL⟩
  refine seq_mid (fun ρ M => ∃ (x10 : Option D), ρ = ⟨[some (.scr ns), some (.ref 1), some (treeD t), some (psD ps), some (.ref p.n), some (.ref q.n), x6, x7, some (.ref x), some (.lst L), x10], noX⟩ ∧ M = dk cs n ++ R) (fun nx hnx => ?_) ?_
  · walk_at "go1"
    refine ⟨fun done todo ρ M => done ++ todo = L ∧ ∃ (x10 : Option D), ρ = ⟨[some (.scr ns), some (.ref 1), some (treeD t), some (psD ps), some (.ref p.n), some (.ref q.n), x6, x7, some (.ref x), some (.lst L), x10], noX⟩ ∧ M = dk cs n ++ R, ⟨rfl, none, rfl, rfl⟩, fun _ _ _ _ _ => trivial, ?_, ?_⟩
    · rintro done2 d todo2 ρ M2 ⟨e, x10, rfl, rfl⟩
      have hd := hL d (by rw [← e]; simp)
      walk_at "go1"
      rw [hx]
      refine ⟨rfl, rfl, ?_⟩
      walk_at "go1"
      refine ⟨x, p.n, d, rfl, hx, hd _, ?_⟩
      obtain ⟨⟨hs, nt, es, F, l1, l2, l3⟩, _⟩ := I
      have l3 : es.length = ps.length := l3
      walk_at "go1"
      rw [F.ins]
      refine ⟨rfl, p, _, _, es, rfl, F, _, rfl, by omega, by omega, ?_⟩
      walk_at "go1"
      rw [decide_eq_true (show ((es.length : Nat) : Int) = ((ps.length : Nat) : Int) by rw [l3])]
      walk_at "go1"
      exact ⟨by rw [← e]; simp, _, rfl, trivial⟩
    · rintro done2 ρ M2 ⟨e, x10, rfl, rfl⟩
      exact hnx _ _ ⟨_, rfl, rfl⟩
  rintro ρ M ⟨x10, rfl, rfl⟩
  obtain ⟨⟨hs, nt, es, F, l1, l2, l3⟩, gs, ms, fs, G, m1, m2, m3⟩ := I
  walk_at "go1"
  rw [F.ins]
  refine ⟨rfl, p, hs, (t, ps), _, es, rfl, F, ?_⟩
  walk_at "go1"
  refine ⟨(pl_tree t).eqOk (by decide) _, (pl_tree t).eqOk (by decide) _, ?_⟩
  rw [show PyData.eqv (toPy (D.tup (List.map rowD t))) (toPy (D.tup (List.map rowD t))) = true from (pl_tree t).same]
  walk_at "go1"
  rw [F.ins]
  refine ⟨rfl, p, hs, (t, ps), _, es, rfl, F, ?_⟩
  walk_at "go1"
  refine ⟨(pl_ps ps).eqOk (by decide) _, (pl_ps ps).eqOk (by decide) _, ?_⟩
  rw [show PyData.eqv (toPy (D.tup (List.map pushD ps))) (toPy (D.tup (List.map pushD ps))) = true from (pl_ps ps).same]
  walk_at "go1"
  rw [F.ins]
  dsimp only
  rw [G.ins]
  refine ⟨rfl, rfl, p, q, hs, gs, (t, ps), (t, ps), _, _, es, fs, rfl, F, G, ho, ho, _, rfl, ?_⟩
  rw [(pl_tree t).same, (pl_table (t, ps)).same, show (true && true) = true from rfl]
  walk_at "go1"
  rw [F.ins]
  refine ⟨rfl, p, hs, (t, ps), _, es, rfl, F, ?_⟩
  walk_at "go1"
  rw [G.ins]
  refine ⟨rfl, q, gs, (t, ps), _, fs, rfl, G, ?_⟩
  walk_at "go1"
  refine ⟨(pl_table (t, ps)).eqOk (by decide) _, (pl_table (t, ps)).eqOk (by decide) _, ?_⟩
  rw [show PyData.eqv (toPy (D.tup (tableL (t, ps)))) (toPy (D.tup (tableL (t, ps)))) = true from (pl_table (t, ps)).same]
  exact See.keep (k _)
theorem sp_start : ∀ (K : PySem.W.Frag) (H : Hp) (a : Addr) (ns : List Int), ns.length ≤ 63 → (∀ p ∈ Tk K, H p.1 = some (.tbl #[])) → SqL K H a (ns.map V.int) → spOf K spLaw [.ref a] H (fun v _ => v = .bl true) fun _ _ _ => False := fun K H a ns hl hT hS => scr_start hT hS fun Q hQ E' => ⟨ns, rfl, rfl, hl, hQ⟩
theorem law_binds {K : PySem.W.Frag} {f : Addr} {fd : FuncData} (F : Fun K "law" "law" s_law f fd) (s : Shared) (v : Value) : BindsTo s fd ⟨[v], []⟩ [("_law_script", v)] := by
  obtain ⟨oc, od, kV, doc, pm, an, cdv, ct, osl, rfl, _⟩ := F.ex
  exact .of_eq rfl
end
theorem all_mk {P : Program} {w : World} {K : PySem.W.Frag} {h : Heap} {mg : Str → Option Value} {fa : Addr} (X : K.In h) (G : h.Ns mainGlobals mg) (hfa : mg "law" = some (.ref fa)) (c : SaysH hCk hFn hTs w K)
    : ∃ fd : FuncData, (∀ (s : Shared) (v : Value), BindsTo s fd ⟨[v], []⟩ [("_law_script", v)]) ∧ ∀ base : Heap, K.In base → base.Ns mainGlobals mg → FnG P w K mg base (CXd P w) LEVEL fa fd ["_law_script"] (spOf K spLaw) := by
  have gs_ : gsB K = true := (c.fact 60 (f := gsB) (by kernel_rfl))
  have h_Busy : mg "Busy" = some (.ref (He.ga K "Busy")) := He.glo_ok X G (c.fact 61 (f := fun K => (He.Fa.glo "Busy").ok K) (by kernel_rfl))
  have e_Busy : cls mg "Busy" = He.ga K "Busy" := cls_of h_Busy
  have h_BadTick : mg "BadTick" = some (.ref (He.ga K "BadTick")) := He.glo_ok X G (c.fact 62 (f := fun K => (He.Fa.glo "BadTick").ok K) (by kernel_rfl))
  have e_BadTick : cls mg "BadTick" = He.ga K "BadTick" := cls_of h_BadTick
  have h_BadLength : mg "BadLength" = some (.ref (He.ga K "BadLength")) := He.glo_ok X G (c.fact 63 (f := fun K => (He.Fa.glo "BadLength").ok K) (by kernel_rfl))
  have e_BadLength : cls mg "BadLength" = He.ga K "BadLength" := cls_of h_BadLength
  have h_NoRow : mg "NoRow" = some (.ref (He.ga K "NoRow")) := He.glo_ok X G (c.fact 64 (f := fun K => (He.Fa.glo "NoRow").ok K) (by kernel_rfl))
  have e_NoRow : cls mg "NoRow" = He.ga K "NoRow" := cls_of h_NoRow
  have h_NoPush : mg "NoPush" = some (.ref (He.ga K "NoPush")) := He.glo_ok X G (c.fact 65 (f := fun K => (He.Fa.glo "NoPush").ok K) (by kernel_rfl))
  have e_NoPush : cls mg "NoPush" = He.ga K "NoPush" := cls_of h_NoPush
  have h_NoMark : mg "NoMark" = some (.ref (He.ga K "NoMark")) := He.glo_ok X G (c.fact 66 (f := fun K => (He.Fa.glo "NoMark").ok K) (by kernel_rfl))
  have e_NoMark : cls mg "NoMark" = He.ga K "NoMark" := cls_of h_NoMark
  have h_TooManyEdits : mg "TooManyEdits" = some (.ref (He.ga K "TooManyEdits")) := He.glo_ok X G (c.fact 67 (f := fun K => (He.Fa.glo "TooManyEdits").ok K) (by kernel_rfl))
  have e_TooManyEdits : cls mg "TooManyEdits" = He.ga K "TooManyEdits" := cls_of h_TooManyEdits
  have h_NothingToUndo : mg "NothingToUndo" = some (.ref (He.ga K "NothingToUndo")) := He.glo_ok X G (c.fact 68 (f := fun K => (He.Fa.glo "NothingToUndo").ok K) (by kernel_rfl))
  have e_NothingToUndo : cls mg "NothingToUndo" = He.ga K "NothingToUndo" := cls_of h_NothingToUndo
  have h_TooManyPushes : mg "TooManyPushes" = some (.ref (He.ga K "TooManyPushes")) := He.glo_ok X G (c.fact 69 (f := fun K => (He.Fa.glo "TooManyPushes").ok K) (by kernel_rfl))
  have e_TooManyPushes : cls mg "TooManyPushes" = He.ga K "TooManyPushes" := cls_of h_TooManyPushes
  have h_Field : mg "Field" = some (.ref (He.ga K "Field")) := He.glo_ok X G (c.fact 70 (f := fun K => (He.Fa.glo "Field").ok K) (by kernel_rfl))
  have e_Field : cls mg "Field" = He.ga K "Field" := cls_of h_Field
  have ic_Field := inc_ok (C := "Field") gs_ (c.fact 82 (f := incB "Field") (by kernel_rfl))
  have h_Shell : mg "Shell" = some (.ref (He.ga K "Shell")) := He.glo_ok X G (c.fact 89 (f := fun K => (He.Fa.glo "Shell").ok K) (by kernel_rfl))
  have e_Shell : cls mg "Shell" = He.ga K "Shell" := cls_of h_Shell
  have ic_Shell := inc_ok (C := "Shell") gs_ (c.fact 101 (f := incB "Shell") (by kernel_rfl))
  have T : Tp K mg := ⟨⟨He.free_ok X G (c.fact 0 (f := fun K => (He.Fa.free "abs").ok K) (by kernel_rfl)), He.free_ok X G (c.fact 1 (f := fun K => (He.Fa.free "all").ok K) (by kernel_rfl)), He.free_ok X G (c.fact 2 (f := fun K => (He.Fa.free "any").ok K) (by kernel_rfl)), He.free_ok X G (c.fact 3 (f := fun K => (He.Fa.free "bool").ok K) (by kernel_rfl)), He.free_ok X G (c.fact 4 (f := fun K => (He.Fa.free "dict").ok K) (by kernel_rfl)), He.free_ok X G (c.fact 5 (f := fun K => (He.Fa.free "enumerate").ok K) (by kernel_rfl)), He.free_ok X G (c.fact 6 (f := fun K => (He.Fa.free "int").ok K) (by kernel_rfl)), He.free_ok X G (c.fact 7 (f := fun K => (He.Fa.free "isinstance").ok K) (by kernel_rfl)), He.free_ok X G (c.fact 8 (f := fun K => (He.Fa.free "len").ok K) (by kernel_rfl)), He.free_ok X G (c.fact 9 (f := fun K => (He.Fa.free "list").ok K) (by kernel_rfl)), He.free_ok X G (c.fact 10 (f := fun K => (He.Fa.free "max").ok K) (by kernel_rfl)), He.free_ok X G (c.fact 11 (f := fun K => (He.Fa.free "min").ok K) (by kernel_rfl)), He.free_ok X G (c.fact 12 (f := fun K => (He.Fa.free "range").ok K) (by kernel_rfl)), He.free_ok X G (c.fact 13 (f := fun K => (He.Fa.free "repr").ok K) (by kernel_rfl)), He.free_ok X G (c.fact 14 (f := fun K => (He.Fa.free "set").ok K) (by kernel_rfl)), He.free_ok X G (c.fact 15 (f := fun K => (He.Fa.free "sorted").ok K) (by kernel_rfl)), He.free_ok X G (c.fact 16 (f := fun K => (He.Fa.free "str").ok K) (by kernel_rfl)), He.free_ok X G (c.fact 17 (f := fun K => (He.Fa.free "sum").ok K) (by kernel_rfl)), He.free_ok X G (c.fact 18 (f := fun K => (He.Fa.free "tuple").ok K) (by kernel_rfl)), He.free_ok X G (c.fact 19 (f := fun K => (He.Fa.free "zip").ok K) (by kernel_rfl)), He.free_ok X G (c.fact 20 (f := fun K => (He.Fa.free "LookupError").ok K) (by kernel_rfl)), He.free_ok X G (c.fact 21 (f := fun K => (He.Fa.free "ValueError").ok K) (by kernel_rfl))⟩,
    c.df X G 22 0 (by kernel_rfl) (by kernel_rfl),
    c.df X G 23 1 (by kernel_rfl) (by kernel_rfl),
    c.df X G 24 2 (by kernel_rfl) (by kernel_rfl),
    c.df X G 25 3 (by kernel_rfl) (by kernel_rfl),
    c.df X G 26 4 (by kernel_rfl) (by kernel_rfl),
    c.df X G 27 5 (by kernel_rfl) (by kernel_rfl),
    c.df X G 28 6 (by kernel_rfl) (by kernel_rfl),
    c.df X G 29 7 (by kernel_rfl) (by kernel_rfl),
    c.df X G 30 8 (by kernel_rfl) (by kernel_rfl),
    c.df X G 31 9 (by kernel_rfl) (by kernel_rfl),
    c.df X G 32 10 (by kernel_rfl) (by kernel_rfl),
    c.df X G 33 11 (by kernel_rfl) (by kernel_rfl),
    c.df X G 34 12 (by kernel_rfl) (by kernel_rfl),
    c.df X G 35 13 (by kernel_rfl) (by kernel_rfl),
    c.df X G 36 14 (by kernel_rfl) (by kernel_rfl),
    c.df X G 37 15 (by kernel_rfl) (by kernel_rfl),
    c.df X G 38 16 (by kernel_rfl) (by kernel_rfl),
    c.df X G 39 17 (by kernel_rfl) (by kernel_rfl),
    c.df X G 40 18 (by kernel_rfl) (by kernel_rfl),
    c.df X G 41 19 (by kernel_rfl) (by kernel_rfl),
    c.df X G 42 20 (by kernel_rfl) (by kernel_rfl),
    c.df X G 43 21 (by kernel_rfl) (by kernel_rfl),
    c.df X G 44 22 (by kernel_rfl) (by kernel_rfl),
    c.df X G 45 23 (by kernel_rfl) (by kernel_rfl),
    c.df X G 46 24 (by kernel_rfl) (by kernel_rfl),
    c.df X G 47 25 (by kernel_rfl) (by kernel_rfl),
    c.df X G 48 26 (by kernel_rfl) (by kernel_rfl),
    c.df X G 49 27 (by kernel_rfl) (by kernel_rfl),
    c.df X G 50 28 (by kernel_rfl) (by kernel_rfl),
    c.df X G 51 29 (by kernel_rfl) (by kernel_rfl),
    c.df X G 52 30 (by kernel_rfl) (by kernel_rfl),
    c.df X G 53 31 (by kernel_rfl) (by kernel_rfl),
    c.df X G 54 32 (by kernel_rfl) (by kernel_rfl),
    c.df X G 55 33 (by kernel_rfl) (by kernel_rfl),
    c.df X G 56 34 (by kernel_rfl) (by kernel_rfl),
    c.df X G 57 35 (by kernel_rfl) (by kernel_rfl),
    c.df X G 58 36 (by kernel_rfl) (by kernel_rfl),
    c.df X G 59 37 (by kernel_rfl) (by kernel_rfl),
    by rw [e_Busy]; exact h_Busy,
    by rw [e_BadTick]; exact h_BadTick,
    by rw [e_BadLength]; exact h_BadLength,
    by rw [e_NoRow]; exact h_NoRow,
    by rw [e_NoPush]; exact h_NoPush,
    by rw [e_NoMark]; exact h_NoMark,
    by rw [e_TooManyEdits]; exact h_TooManyEdits,
    by rw [e_NothingToUndo]; exact h_NothingToUndo,
    by rw [e_TooManyPushes]; exact h_TooManyPushes,
    by rw [e_Field]; exact h_Field,
    by rw [e_Field]; exact He.cls_ok (c.fact 71 (f := fun K => (He.Fa.cls "Field").ok K) (by kernel_rfl)),
    by rw [e_Field, e_Busy]; exact kcB_ok (c.fact 72 (f := kcB "Field" "Busy" false) (by kernel_rfl)),
    by rw [e_Field, e_BadTick]; exact kcB_ok (c.fact 73 (f := kcB "Field" "BadTick" false) (by kernel_rfl)),
    by rw [e_Field, e_BadLength]; exact kcB_ok (c.fact 74 (f := kcB "Field" "BadLength" false) (by kernel_rfl)),
    by rw [e_Field, e_NoRow]; exact kcB_ok (c.fact 75 (f := kcB "Field" "NoRow" false) (by kernel_rfl)),
    by rw [e_Field, e_NoPush]; exact kcB_ok (c.fact 76 (f := kcB "Field" "NoPush" false) (by kernel_rfl)),
    by rw [e_Field, e_NoMark]; exact kcB_ok (c.fact 77 (f := kcB "Field" "NoMark" false) (by kernel_rfl)),
    by rw [e_Field, e_TooManyEdits]; exact kcB_ok (c.fact 78 (f := kcB "Field" "TooManyEdits" false) (by kernel_rfl)),
    by rw [e_Field, e_NothingToUndo]; exact kcB_ok (c.fact 79 (f := kcB "Field" "NothingToUndo" false) (by kernel_rfl)),
    by rw [e_Field, e_TooManyPushes]; exact kcB_ok (c.fact 80 (f := kcB "Field" "TooManyPushes" false) (by kernel_rfl)),
    by rw [e_Field]; exact kcB_ok (c.fact 81 (f := kcB "Field" "Field" true) (by kernel_rfl)),
    by rw [e_Field]; exact ic_Field.1,
    by rw [e_Field]; exact ic_Field.2,
    by rw [e_Field]; exact ntB_ok (C := "Field") (c.fact 83 (f := ntB "Field") (by kernel_rfl)),
    by rw [e_Field]; exact He.noat_ok (c.fact 84 (f := fun K => (He.Fa.noat "Field" "states").ok K) (by kernel_rfl)),
    by rw [e_Field]; exact He.noat_ok (c.fact 85 (f := fun K => (He.Fa.noat "Field" "tables").ok K) (by kernel_rfl)),
    by rw [e_Field]; exact He.noat_ok (c.fact 86 (f := fun K => (He.Fa.noat "Field" "notes").ok K) (by kernel_rfl)),
    by rw [e_Field]; exact He.noat_ok (c.fact 87 (f := fun K => (He.Fa.noat "Field" "standing").ok K) (by kernel_rfl)),
    by rw [e_Field]; exact He.noat_ok (c.fact 88 (f := fun K => (He.Fa.noat "Field" "watching").ok K) (by kernel_rfl)),
    by rw [e_Shell]; exact h_Shell,
    by rw [e_Shell]; exact He.cls_ok (c.fact 90 (f := fun K => (He.Fa.cls "Shell").ok K) (by kernel_rfl)),
    by rw [e_Shell, e_Busy]; exact kcB_ok (c.fact 91 (f := kcB "Shell" "Busy" false) (by kernel_rfl)),
    by rw [e_Shell, e_BadTick]; exact kcB_ok (c.fact 92 (f := kcB "Shell" "BadTick" false) (by kernel_rfl)),
    by rw [e_Shell, e_BadLength]; exact kcB_ok (c.fact 93 (f := kcB "Shell" "BadLength" false) (by kernel_rfl)),
    by rw [e_Shell, e_NoRow]; exact kcB_ok (c.fact 94 (f := kcB "Shell" "NoRow" false) (by kernel_rfl)),
    by rw [e_Shell, e_NoPush]; exact kcB_ok (c.fact 95 (f := kcB "Shell" "NoPush" false) (by kernel_rfl)),
    by rw [e_Shell, e_NoMark]; exact kcB_ok (c.fact 96 (f := kcB "Shell" "NoMark" false) (by kernel_rfl)),
    by rw [e_Shell, e_TooManyEdits]; exact kcB_ok (c.fact 97 (f := kcB "Shell" "TooManyEdits" false) (by kernel_rfl)),
    by rw [e_Shell, e_NothingToUndo]; exact kcB_ok (c.fact 98 (f := kcB "Shell" "NothingToUndo" false) (by kernel_rfl)),
    by rw [e_Shell, e_TooManyPushes]; exact kcB_ok (c.fact 99 (f := kcB "Shell" "TooManyPushes" false) (by kernel_rfl)),
    by rw [e_Shell, e_Field]; exact kcB_ok (c.fact 100 (f := kcB "Shell" "Field" false) (by kernel_rfl)),
    by rw [e_Shell]; exact ic_Shell.1,
    by rw [e_Shell]; exact ic_Shell.2,
    by rw [e_Shell]; exact ntB_ok (C := "Shell") (c.fact 102 (f := ntB "Shell") (by kernel_rfl)),
    by rw [e_Shell]; exact He.noat_ok (c.fact 103 (f := fun K => (He.Fa.noat "Shell" "field").ok K) (by kernel_rfl)),
    by rw [e_Field]; exact c.dfI 104 38 (by kernel_rfl) (by kernel_rfl),
    by rw [e_Field]; exact c.dfP 105 39 (by kernel_rfl) (by kernel_rfl),
    by rw [e_Field]; exact c.dfP 106 40 (by kernel_rfl) (by kernel_rfl),
    by rw [e_Field]; exact c.dfP 107 41 (by kernel_rfl) (by kernel_rfl),
    by rw [e_Field]; exact c.dfM 108 42 (by kernel_rfl) (by kernel_rfl),
    by rw [e_Field]; exact c.dfM 109 43 (by kernel_rfl) (by kernel_rfl),
    by rw [e_Field]; exact c.dfM 110 44 (by kernel_rfl) (by kernel_rfl),
    by rw [e_Field]; exact c.dfM 111 45 (by kernel_rfl) (by kernel_rfl),
    by rw [e_Field]; exact c.dfM 112 46 (by kernel_rfl) (by kernel_rfl),
    by rw [e_Field]; exact c.dfM 113 47 (by kernel_rfl) (by kernel_rfl),
    by rw [e_Field]; exact c.dfM 114 48 (by kernel_rfl) (by kernel_rfl),
    by rw [e_Shell]; exact c.dfI 115 49 (by kernel_rfl) (by kernel_rfl),
    by rw [e_Shell]; exact c.dfM 116 50 (by kernel_rfl) (by kernel_rfl),
    by rw [e_Shell]; exact c.dfM 117 51 (by kernel_rfl) (by kernel_rfl),
    by rw [e_Shell]; exact c.dfM 118 52 (by kernel_rfl) (by kernel_rfl),
    by rw [e_Shell]; exact c.dfM 119 53 (by kernel_rfl) (by kernel_rfl),
    He.str_ok X G (c.fact 120 (f := fun K => (He.Fa.str "BEHIND" ";").ok K) (by kernel_rfl)),
    He.str_ok X G (c.fact 121 (f := fun K => (He.Fa.str "FIGURES" "0123456789").ok K) (by kernel_rfl)),
    He.int_ok X G (c.fact 122 (f := fun K => (He.Fa.int "LONGEST" 10).ok K) (by kernel_rfl)),
    He.int_ok X G (c.fact 123 (f := fun K => (He.Fa.int "MAX_EDITS" 60).ok K) (by kernel_rfl)),
    He.int_ok X G (c.fact 124 (f := fun K => (He.Fa.int "MAX_LENGTH" 1000000).ok K) (by kernel_rfl)),
    He.int_ok X G (c.fact 125 (f := fun K => (He.Fa.int "MAX_MARKS" 12).ok K) (by kernel_rfl)),
    He.int_ok X G (c.fact 126 (f := fun K => (He.Fa.int "MAX_PUSHES" 20).ok K) (by kernel_rfl)),
    He.int_ok X G (c.fact 127 (f := fun K => (He.Fa.int "MAX_TICK" 1000000000).ok K) (by kernel_rfl)),
    He.str_ok X G (c.fact 128 (f := fun K => (He.Fa.str "NONE" "none").ok K) (by kernel_rfl)),
    He.str_ok X G (c.fact 129 (f := fun K => (He.Fa.str "UNKNOWN_COMMAND" "unknown command").ok K) (by kernel_rfl))⟩
  obtain ⟨f, fd, F, hm⟩ := T.d_law.ex
  rw [hfa] at hm
  cases hm
  exact ⟨fd, fun s v => law_binds F s v, fun base _ _ => law_fn T F base⟩
end Law
open PySem PySem.W PySem.Calls PyProof.Rows in
set_option maxRecDepth 100000 in
set_option maxHeartbeats 0 in
theorem PySem.Challenge.cw_marktopples_k61_unknown_commands_holds : PySem.Challenge.rw_marktopples_k61_unknown_commands.Holds := by
  w_on; o_law
  refine HandSHeadRun.head_any (r := (OpenLaw.row PySem.Challenge.rw_marktopples_k61_unknown_commands)) (q := view (OpenLaw.row PySem.Challenge.rw_marktopples_k61_unknown_commands).prog [77]) (H := Law.hHook) (ob := Law.hOb) (M := 12000) (loose := Law.hLoose) (d := HandSHeadRun.topDef (OpenLaw.row PySem.Challenge.rw_marktopples_k61_unknown_commands).prog 77) (kwd := []) Law.hOb_eq (by kernel_rfl) (fun s => by kernel_rfl) Law.hRun (by kernel_rfl) (by kernel_rfl) (by kernel_rfl) (by rfl) (by first | assumption | decide +kernel) (by decide +kernel) ⟨rfl, rfl, rfl, rfl, rfl, by decide +kernel⟩ ?hw ?hc
  case hw => w_witness2
  case hc =>
    refine DL.walkGE (l := PySem.Challenge.rw_marktopples_k61_unknown_commands) (n := 63) (k := Law.LEVEL) (x := "_law_script") (sp := fun K => DL.spOf K DL.spLaw) rfl (by decide) (by kernel_rfl) ⟨rfl, by decide, by decide⟩ ?F Law.sp_start
    intro w mg fa h Y G hmg0
    obtain ⟨K, KX, c, TH⟩ := Y
    have e : (HandSHeadRun.topDef (OpenLaw.row PySem.Challenge.rw_marktopples_k61_unknown_commands).prog 77).name = ("law" : PySem.Str) := by kernel_rfl
    rw [e] at hmg0
    obtain ⟨fd, hb, hF⟩ := Law.all_mk KX G hmg0 c
    exact ⟨K, fd, KX, TH, hb, hF⟩
