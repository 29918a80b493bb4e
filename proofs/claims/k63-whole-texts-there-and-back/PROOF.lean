import PyProof.Rows.All
import Wide.All
import OpenK.AllK
import Wide.FinOn
import HandS.ForMost
import HandS.ForExc
import HandS.HotCalls
import HandS.ExcInit
import HandS.ExcInitHot
import HandS.ExcField
import KE.KExcIs
import HandS.TupAny
import HandS.Star
import HandS.IsInst
import HandS.TupMul
import HandS.Zip
import HandS.Style
import KE.GoesEnum
import HandS.Conv
import HandS.IsInst
import HandS.TupLe
import KE.GoesMore
import KE.KDictZip
import PyProof.ZipIter
import PyProof.MeetsSeq2
import HandS.Zip
import KE.KStar
import HandS.Star
import HandS.Deep
import HandS.MakeKwOnly
import PyProof.RowDictHeap
import HandS.Property
import PyProof.StrLawsRepr
import KE.KUnpackStar
import PyProof.RulesMatch
import KE.KCallOwn
import HandS.FStr
import KE.KStateDown
import HandS.Head0
import HandS.Head1
import HandS.Head2
import HandS.HeadHook1
import HandS.HeadHook2
import HandS.HeadHook3
import KE.KExcInit
import PyProof.ExcBaseAll.LookupError
import HandS.SetFor
import HandS.Text
import HandS.Iter
import HandS.Flow
import HandS.Codes
import PyProof.Rows.RegReprOcc
import KE.KIntText
import PySem.Challenge.RW_marktopples_k63_whole_texts_there_and_ba
set_option Elab.async false
set_option linter.all false
set_option maxRecDepth 100000
/-! DL1: data as trees over the layer: what a value in the heap stands for; expressions, tests, arguments. -/
namespace DL
open PySem PySem.Spec PyProof.Rows L2

/-- a datum: tuples, lists and dicts that nobody changes are trees; what is changed is a place in the store -/
inductive D where
  | non | bl (b : Bool) | int (i : Int) | str (x : Str)
  | tup (ds : List D) | lst (ds : List D) | dct (ks : List Key) (ds : List D) | ref (n : Nat) | scr (ns : List Int)
  | exo (a : Addr) (c : Value) (o : Option Addr) (ks : List Str) (ds : List D)

mutual
inductive Rp (K : PySem.W.Frag) (F : Hp) (al : List Addr) : V → D → Prop
  | non : Rp K F al .non .non
  | bl (b : Bool) : Rp K F al (.bl b) (.bl b)
  | int (i : Int) : Rp K F al (.int i) (.int i)
  | str (x : Str) : Rp K F al (.str x) (.str x)
  | tup {a : Addr} {xs : List V} {ds : List D} : F a = some (.tup xs) → Rps K F al xs ds → Rp K F al (.ref a) (.tup ds)
  | lst {a : Addr} {xs : List V} {ds : List D} : F a = some (.lst xs) → Rps K F al xs ds → Rp K F al (.ref a) (.lst ds)
  | dct {a : Addr} {ks : List Key} {xs : List V} {ds : List D} : F a = some (.dK (ks.zip xs)) → ks.length = xs.length → Rps K F al xs ds → Rp K F al (.ref a) (.dct ks ds)
  | ref {n : Nat} {a : Addr} : al[n]? = some a → Rp K F al (.ref a) (.ref n)
  | scr {a : Addr} {ns : List Int} : SqL K F a (ns.map V.int) → Rp K F al (.ref a) (.scr ns)
  | exo0 (a : Addr) (c : Value) : Rp K F al (.ref a) (.exo a c none [] [])
  | exo {a : Addr} {c : Value} {q : Addr} {ks : List Str} {xs : List V} {ds : List D} : F q = some (.xd (ks.zip xs)) → ks.length = xs.length → Rps K F al xs ds → Rp K F al (.ref a) (.exo a c (some q) ks ds)
inductive Rps (K : PySem.W.Frag) (F : Hp) (al : List Addr) : List V → List D → Prop
  | nil : Rps K F al [] []
  | cons {v : V} {vs : List V} {d : D} {ds : List D} : Rp K F al v d → Rps K F al vs ds → Rps K F al (v :: vs) (d :: ds)
end

/-- what stood stands -/
def Sm (H H' : Hp) : Prop := ∀ b o, H b = some o → H' b = some o
theorem Sm.refl (H : Hp) : Sm H H := fun _ _ h => h
theorem Sm.trans {H H1 H2 : Hp} (a : Sm H H1) (b : Sm H1 H2) : Sm H H2 := fun c o h => b c o (a c o h)
theorem Sm.rd {H H' : Hp} {a : Addr} {u : HO} (e : Sm H H') (h : Rd H a u) : Rd H' a u := by
  rcases h with h | ⟨o, h⟩
  · exact Or.inl (e a _ h)
  · exact Or.inr ⟨o, e a _ h⟩
theorem Sm.l {K : PySem.W.Frag} {H H' : Hp} {a : Addr} {xs : List V} (e : Sm H H') (h : SqL K H a xs) : SqL K H' a xs := by
  rcases h with h | h
  · exact Or.inl (e.rd h)
  · exact Or.inr h
theorem Sm.t {K : PySem.W.Frag} {H H' : Hp} {a : Addr} {xs : List V} (e : Sm H H') (h : SqT K H a xs) : SqT K H' a xs := by
  rcases h with h | h
  · exact Or.inl (e.rd h)
  · exact Or.inr h
theorem Sm.new {H : Hp} {p : Addr} {o : HO} (h : H p = none) : Sm H (upd H p o) := fun b u e => by
  rw [upd_ne (ne_of_none e h)]
  exact e
theorem Sm.free {H H' : Hp} (e : Sm H H') {l : Addr} (h : H' l = none) : H l = none := by
  cases q : H l with
  | none => rfl
  | some o => rw [e l o q] at h; cases h

structure Ext (al : List Addr) (F : Hp) (al' : List Addr) (F' : Hp) : Prop where
  al : ∃ be, al' = al ++ be
  sm : Sm F F'
theorem Ext.refl (al : List Addr) (F : Hp) : Ext al F al F := ⟨⟨[], by simp⟩, Sm.refl F⟩
theorem Ext.trans {al al1 al2 : List Addr} {F F1 F2 : Hp} (a : Ext al F al1 F1) (b : Ext al1 F1 al2 F2) : Ext al F al2 F2 := by
  obtain ⟨b1, e1⟩ := a.al
  obtain ⟨b2, e2⟩ := b.al
  exact ⟨⟨b1 ++ b2, by rw [e2, e1, List.append_assoc]⟩, a.sm.trans b.sm⟩
theorem Ext.get {al al' : List Addr} {F F' : Hp} (e : Ext al F al' F') {n : Nat} {a : Addr} (h : al[n]? = some a) : al'[n]? = some a := by
  obtain ⟨be, rfl⟩ := e.al
  rw [List.getElem?_append_left (List.getElem?_eq_some_iff.mp h).1]
  exact h
section
variable {K : PySem.W.Frag} {F F' : Hp} {al al' : List Addr}
mutual
theorem Rp.ext (e : Ext al F al' F') : ∀ {d : D} {v : V}, Rp K F al v d → Rp K F' al' v d
  | .non, _, h => by cases h; exact .non
  | .bl _, _, h => by cases h; exact .bl _
  | .int _, _, h => by cases h; exact .int _
  | .str _, _, h => by cases h; exact .str _
  | .tup _, _, h => by
    cases h with
    | tup a b => exact .tup (e.sm _ _ a) (Rps.ext e b)
  | .lst _, _, h => by
    cases h with
    | lst a b => exact .lst (e.sm _ _ a) (Rps.ext e b)
  | .dct _ _, _, h => by
    cases h with
    | dct a l b => exact .dct (e.sm _ _ a) l (Rps.ext e b)
  | .ref _, _, h => by
    cases h with
    | ref a => exact .ref (e.get a)
  | .scr _, _, h => by
    cases h with
    | scr a => exact .scr (e.sm.l a)
  | .exo _ _ _ _ _, _, h => by
    cases h with
    | exo0 => exact .exo0 _ _
    | exo a l b => exact .exo (e.sm _ _ a) l (Rps.ext e b)
theorem Rps.ext (e : Ext al F al' F') : ∀ {ds : List D} {vs : List V}, Rps K F al vs ds → Rps K F' al' vs ds
  | [], _, h => by cases h; exact .nil
  | _ :: _, _, h => by
    cases h with
    | cons a b => exact .cons (Rp.ext e a) (Rps.ext e b)
end
theorem Rps.length : ∀ {ds : List D} {vs : List V}, Rps K F al vs ds → vs.length = ds.length
  | [], _, h => by cases h; rfl
  | _ :: _, _, h => by
    cases h with
    | cons a b => rw [List.length_cons, List.length_cons, b.length]
theorem Rps.append : ∀ {ds es : List D} {vs us : List V}, Rps K F al vs ds → Rps K F al us es → Rps K F al (vs ++ us) (ds ++ es)
  | [], _, _, _, h, g => by cases h; exact g
  | _ :: _, _, _, _, h, g => by
    cases h with
    | cons a b => exact .cons a (b.append g)
theorem Rps.get : ∀ {ds : List D} {vs : List V} {i : Nat} {d : D}, Rps K F al vs ds → ds[i]? = some d → ∃ v, vs[i]? = some v ∧ Rp K F al v d
  | [], _, _, _, h, e => by simp at e
  | _ :: _, _, 0, _, h, e => by
    cases h with
    | cons a b => simp at e; subst e; exact ⟨_, rfl, a⟩
  | _ :: _, _, i + 1, d, h, e => by
    cases h with
    | cons a b =>
      obtain ⟨v, h1, h2⟩ := Rps.get (i := i) (d := d) b (by simpa using e)
      exact ⟨v, by simpa using h1, h2⟩
theorem Rps.getV : ∀ {ds : List D} {vs : List V} {i : Nat} {v : V}, Rps K F al vs ds → vs[i]? = some v → ∃ d, ds[i]? = some d ∧ Rp K F al v d
  | [], _, _, _, h, e => by cases h; simp at e
  | _ :: _, _, 0, _, h, e => by
    cases h with
    | cons a b => simp at e; subst e; exact ⟨_, rfl, a⟩
  | _ :: _, _, i + 1, v, h, e => by
    cases h with
    | cons a b =>
      obtain ⟨d, h1, h2⟩ := Rps.getV (i := i) (v := v) b (by simpa using e)
      exact ⟨d, by simpa using h1, h2⟩
theorem Rps.set {v : V} {d : D} (h : Rp K F al v d) : ∀ {ds : List D} {vs : List V} (i : Nat), Rps K F al vs ds → Rps K F al (vs.set i v) (ds.set i d)
  | [], _, _, g => by cases g; exact .nil
  | _ :: _, _, 0, g => by
    cases g with
    | cons a b => exact .cons h b
  | _ :: _, _, i + 1, g => by
    cases g with
    | cons a b => exact .cons a (Rps.set h i b)
theorem Rps.take : ∀ {ds : List D} {vs : List V} (n : Nat), Rps K F al vs ds → Rps K F al (vs.take n) (ds.take n)
  | _, _, 0, _ => by simp; exact .nil
  | [], _, n + 1, h => by cases h; exact .nil
  | _ :: _, _, n + 1, h => by
    cases h with
    | cons a b => exact .cons a (Rps.take n b)
theorem Rps.drop : ∀ {ds : List D} {vs : List V} (n : Nat), Rps K F al vs ds → Rps K F al (vs.drop n) (ds.drop n)
  | _, _, 0, h => h
  | [], _, n + 1, h => by cases h; exact .nil
  | _ :: _, _, n + 1, h => by
    cases h with
    | cons a b => exact Rps.drop n b
theorem Rps.rev : ∀ {ds : List D} {vs : List V}, Rps K F al vs ds → Rps K F al vs.reverse ds.reverse
  | [], _, h => by cases h; exact .nil
  | _ :: _, _, h => by
    cases h with
    | cons a b => rw [List.reverse_cons, List.reverse_cons]; exact b.rev.append (.cons a .nil)
theorem Rps.split : ∀ {ds es : List D} {vs : List V}, Rps K F al vs (ds ++ es) → ∃ us ws, vs = us ++ ws ∧ Rps K F al us ds ∧ Rps K F al ws es
  | [], es, vs, h => ⟨[], vs, rfl, .nil, h⟩
  | d :: ds, es, _, h => by
    cases h with
    | cons a b =>
      obtain ⟨us, ws, e, h1, h2⟩ := Rps.split b
      exact ⟨_ :: us, ws, by rw [e]; rfl, .cons a h1, h2⟩
theorem Rps.ints : ∀ {ns : List Int} {vs : List V}, Rps K F al vs (ns.map D.int) → vs = ns.map V.int
  | [], _, h => by cases h; rfl
  | n :: ns, _, h => by
    cases h with
    | cons a b => cases a; rw [b.ints]; rfl
theorem Rps.of_ints : ∀ {ns : List Int}, Rps K F al (ns.map V.int) (ns.map D.int)
  | [] => .nil
  | _ :: _ => .cons (.int _) .of_ints
theorem Rps.bls : ∀ {bs : List Bool} {vs : List V}, Rps K F al vs (bs.map D.bl) → vs = bs.map V.bl
  | [], _, h => by cases h; rfl
  | n :: ns, _, h => by
    cases h with
    | cons a b => cases a; rw [b.bls]; rfl
end

/-! ### the store -/
inductive Cell where
  | lst (ds : List D) | ins (C : Addr) (fs : List (Str × D)) | gone
abbrev Sto := List Cell
def CellOk (K : PySem.W.Frag) (F : Hp) (al : List Addr) (H : Hp) (a : Addr) : Cell → Prop
  | .lst ds => ∃ xs, H a = some (.lst xs) ∧ Rps K F al xs ds
  | .ins C fs => ∃ dx vs, H a = some (.ins C dx vs) ∧ vs.map (·.1) = fs.map (·.1) ∧ Rps K F al (vs.map (·.2)) (fs.map (·.2))
  | .gone => ∃ o, H a = some o
theorem CellOk.some {K : PySem.W.Frag} {F : Hp} {al : List Addr} {H : Hp} {a : Addr} {c : Cell} (h : CellOk K F al H a c) : ∃ o, H a = some o := by
  cases c with
  | lst ds => obtain ⟨xs, e, _⟩ := h; exact ⟨_, e⟩
  | ins C fs => obtain ⟨dx, vs, e, _⟩ := h; exact ⟨_, e⟩
  | gone => exact h
theorem CellOk.ext {K : PySem.W.Frag} {F F' : Hp} {al al' : List Addr} {H H' : Hp} {a : Addr} {c : Cell} (h : CellOk K F al H a c) (e : Ext al F al' F') (s : H' a = H a) : CellOk K F' al' H' a c := by
  cases c with
  | lst ds => obtain ⟨xs, q, r⟩ := h; exact ⟨xs, s.trans q, r.ext e⟩
  | ins C fs => obtain ⟨dx, vs, q, n, r⟩ := h; exact ⟨dx, vs, s.trans q, n, r.ext e⟩
  | gone => obtain ⟨o, q⟩ := h; exact ⟨o, s.trans q⟩

/-- F: what nobody changes; G: what others hold and is left alone; al: the places of the store -/
structure Wd (K : PySem.W.Frag) (al : List Addr) (F G H : Hp) (M : Sto) : Prop where
  sm : Sm F H
  sg : Sm G H
  fg : ∀ a o, G a = some o → F a = none ∧ a ∉ al
  len : al.length = M.length
  nd : al.Nodup
  out : ∀ a ∈ al, F a = none
  cel : ∀ (n : Nat) (c : Cell) (a : Addr), M[n]? = some c → al[n]? = some a → CellOk K F al H a c
section
variable {K : PySem.W.Frag} {F F' G H : Hp} {al : List Addr} {M : Sto}
theorem Wd.has (W : Wd K al F G H M) {a : Addr} (h : a ∈ al) : ∃ o, H a = some o := by
  obtain ⟨n, hn, e⟩ := List.getElem_of_mem h
  have hm : n < M.length := by rw [← W.len]; exact hn
  exact (W.cel n M[n] a (List.getElem?_eq_getElem hm) (by rw [List.getElem?_eq_getElem hn, e])).some
theorem Wd.notin (W : Wd K al F G H M) {p : Addr} (h : H p = none) : p ∉ al := fun q => by
  obtain ⟨o, e⟩ := W.has q
  rw [e] at h
  cases h
/-- a new object that nobody will change -/
theorem Wd.newF (W : Wd K al F G H M) {p : Addr} {o : HO} (h : H p = none) : Wd K al (upd F p o) G (upd H p o) M ∧ Ext al F al (upd F p o) := by
  have e : Ext al F al (upd F p o) := ⟨⟨[], by simp⟩, Sm.new (W.sm.free h)⟩
  refine ⟨⟨fun b u q => ?_, W.sg.trans (Sm.new h), fun a u q => ⟨?_, (W.fg a u q).2⟩, W.len, W.nd, fun a q => ?_, fun n c a q r => ?_⟩, e⟩
  · by_cases hb : b = p
    · subst hb; rw [upd_same] at q ⊢; exact q
    · rw [upd_ne hb] at q ⊢; exact W.sm b u q
  · rw [upd_ne (ne_of_none (W.sg a u q) h)]
    exact (W.fg a u q).1
  · rw [upd_ne (show a ≠ p from fun z => W.notin h (z ▸ q))]
    exact W.out a q
  · exact (W.cel n c a q r).ext e (upd_ne fun z => W.notin h (z ▸ List.mem_of_getElem? r))
/-- a new object of the store -/
theorem Wd.newM (W : Wd K al F G H M) {p : Addr} {o : HO} {c : Cell} (h : H p = none) (hc : CellOk K F (al ++ [p]) (upd H p o) p c) : Wd K (al ++ [p]) F G (upd H p o) (M ++ [c]) ∧ Ext al F (al ++ [p]) F := by
  have e : Ext al F (al ++ [p]) F := ⟨⟨[p], rfl⟩, Sm.refl F⟩
  refine ⟨⟨W.sm.trans (Sm.new h), W.sg.trans (Sm.new h), fun a u q => ⟨(W.fg a u q).1, fun z => ?_⟩, by simp [W.len], ?_, fun a q => ?_, fun n d a q r => ?_⟩, e⟩
  · rcases List.mem_append.mp z with z | z
    · exact (W.fg a u q).2 z
    · have z' : a = p := by simpa using z
      subst z'
      rw [W.sg a u q] at h
      cases h
  · rw [List.nodup_append]
    refine ⟨W.nd, by simp, fun a ha b hb => ?_⟩
    have hb' : b = p := by simpa using hb
    subst hb'
    exact fun z => W.notin h (z ▸ ha)
  · rcases List.mem_append.mp q with q | q
    · exact W.out a q
    · have q' : a = p := by simpa using q
      subst q'
      exact W.sm.free h
  · by_cases hn : n < M.length
    · rw [List.getElem?_append_left hn] at q
      rw [List.getElem?_append_left (by rw [W.len]; exact hn)] at r
      exact (W.cel n d a q r).ext e (upd_ne fun z => W.notin h (z ▸ List.mem_of_getElem? r))
    · have hn' : n = M.length := by
        have := (List.getElem?_eq_some_iff.mp q).1
        rw [List.length_append, List.length_singleton] at this
        omega
      subst hn'
      rw [List.getElem?_append_right (Nat.le_refl _)] at q
      rw [← W.len, List.getElem?_append_right (Nat.le_refl _)] at r
      simp at q r
      subst q
      subst r
      exact hc
/-- an object of the store changed -/
theorem Wd.write (W : Wd K al F G H M) {n : Nat} {a : Addr} {o : HO} {c : Cell} (h : al[n]? = some a) (hc : CellOk K F al (upd H a o) a c) : Wd K al F G (upd H a o) (M.set n c) := by
  have ha : a ∈ al := List.mem_of_getElem? h
  refine ⟨fun b u q => ?_, fun b u q => ?_, W.fg, by rw [List.length_set]; exact W.len, W.nd, W.out, fun m d b q r => ?_⟩
  · rw [upd_ne (fun z => by subst z; rw [W.out _ ha] at q; cases q)]
    exact W.sm b u q
  · rw [upd_ne (show b ≠ a from fun z => (W.fg b u q).2 (z ▸ ha))]
    exact W.sg b u q
  · by_cases hm : m = n
    · subst hm
      rw [h] at r
      cases r
      rw [List.getElem?_set_self (by rw [← W.len]; exact (List.getElem?_eq_some_iff.mp h).1)] at q
      cases q
      exact hc
    · rw [List.getElem?_set_ne (Ne.symm hm)] at q
      refine (W.cel m d b q r).ext (Ext.refl al F) (upd_ne fun z => hm ?_)
      subst z
      obtain ⟨h1, e1⟩ := List.getElem?_eq_some_iff.mp r
      obtain ⟨h2, e2⟩ := List.getElem?_eq_some_iff.mp h
      exact (List.getElem_inj W.nd).mp (e1.trans e2.symm)
/-- the places behind k are forgotten -/
theorem Wd.take (W : Wd K al F G H M) (k : Nat) (hc : ∀ (n : Nat) (c : Cell) (a : Addr), n < k → M[n]? = some c → al[n]? = some a → CellOk K F (al.take k) H a c) : Wd K (al.take k) F G H (M.take k) := by
  refine ⟨W.sm, W.sg, fun a o q => ⟨(W.fg a o q).1, fun z => (W.fg a o q).2 (List.mem_of_mem_take z)⟩, by simp [W.len], W.nd.sublist (List.take_sublist k al), fun a q => W.out a (List.mem_of_mem_take q), fun n c a q r => ?_⟩
  have hn : n < k := by
    have := (List.getElem?_eq_some_iff.mp q).1
    rw [List.length_take] at this
    omega
  rw [List.getElem?_take_of_lt hn] at q r
  exact hc n c a hn q r
/-- the frame grows by an object that the store doesn't know -/
theorem Wd.hide (W : Wd K al F G H M) {p : Addr} {o : HO} (h : H p = none) : Wd K al F (upd G p o) (upd H p o) M := by
  refine ⟨W.sm.trans (Sm.new h), fun b u q => ?_, fun a u q => ?_, W.len, W.nd, W.out, fun n c a q r => ?_⟩
  · by_cases hb : b = p
    · subst hb; rw [upd_same] at q ⊢; exact q
    · rw [upd_ne hb] at q ⊢; exact W.sg b u q
  · by_cases hb : a = p
    · subst hb; exact ⟨W.sm.free h, W.notin h⟩
    · rw [upd_ne hb] at q; exact W.fg a u q
  · exact (W.cel n c a q r).ext (Ext.refl al F) (upd_ne fun z => W.notin h (z ▸ List.mem_of_getElem? r))
/-- a framed object changes -/
theorem Wd.rehide {p : Addr} {o : HO} (W : Wd K al F (upd G p o) H M) {o' : HO} : Wd K al F (upd G p o') (upd H p o') M := by
  have hp := W.fg p o upd_same
  refine ⟨fun b u q => ?_, fun b u q => ?_, fun a u q => ?_, W.len, W.nd, W.out, fun n c a q r => ?_⟩
  · rw [upd_ne (fun z => by subst z; rw [hp.1] at q; cases q)]
    exact W.sm b u q
  · by_cases hb : b = p
    · subst hb; rw [upd_same] at q ⊢; exact q
    · rw [upd_ne hb] at q ⊢
      exact W.sg b u (by rw [upd_ne hb]; exact q)
  · by_cases hb : a = p
    · subst hb; exact hp
    · rw [upd_ne hb] at q
      exact W.fg a u (by rw [upd_ne hb]; exact q)
  · exact (W.cel n c a q r).ext (Ext.refl al F) (upd_ne fun z => hp.2 (z ▸ List.mem_of_getElem? r))
/-- a framed object is given to what nobody changes -/
theorem Wd.thaw {p : Addr} {o : HO} (W : Wd K al F (upd G p o) H M) (hg : G p = none) : Wd K al (upd F p o) G H M ∧ Ext al F al (upd F p o) := by
  have hp := W.fg p o upd_same
  have e : Ext al F al (upd F p o) := ⟨⟨[], by simp⟩, Sm.new hp.1⟩
  refine ⟨⟨fun b u q => ?_, fun b u q => W.sg b u (Sm.new hg b u q), fun a u q => ?_, W.len, W.nd, fun a q => ?_, fun n c a q r => (W.cel n c a q r).ext e rfl⟩, e⟩
  · by_cases hb : b = p
    · subst hb; rw [upd_same] at q; cases q; exact W.sg _ _ upd_same
    · rw [upd_ne hb] at q; exact W.sm b u q
  · have hn : a ≠ p := fun z => by subst z; rw [hg] at q; cases q
    rw [upd_ne hn]
    exact W.fg a u (Sm.new hg a u q)
  · rw [upd_ne (show a ≠ p from fun z => hp.2 (z ▸ q))]
    exact W.out a q
end

/-! ### expressions -/
abbrev DK := D → Sto → Prop
abbrev DXK := Value → List (Str × D) → Sto → Prop
abbrev DXS := Value → List (Str × D) → List (Option D) → Sto → Prop
@[reducible] def noX : DXS := fun _ _ _ _ => False
/-- the slots, and what is wished of an exception -/
structure Dn where
  v : List (Option D)
  x : DXS
abbrev DTE := Dn → Sto → DK → Prop
abbrev DTT := Dn → Sto → (Bool → Sto → Prop) → Prop
abbrev DTA := Dn → Sto → (List D → Sto → Prop) → Prop
structure Sl (K : PySem.W.Frag) (F : Hp) (al : List Addr) (σ : L2.St) (ρ : List (Option D)) : Prop where
  len : σ.length = ρ.length
  get : ∀ (i : Nat) (d : D), ρ[i]? = some (some d) → ∃ v, σ[i]? = some (some v) ∧ Rp K F al v d
theorem Sl.ext {K : PySem.W.Frag} {F F' : Hp} {al al' : List Addr} {σ : L2.St} {ρ : List (Option D)} (h : Sl K F al σ ρ) (e : Ext al F al' F') : Sl K F' al' σ ρ :=
  ⟨h.len, fun i d q => let ⟨v, a, b⟩ := h.get i d q; ⟨v, a, b.ext e⟩⟩
theorem Sl.set {K : PySem.W.Frag} {F : Hp} {al : List Addr} {σ : L2.St} {ρ : List (Option D)} (h : Sl K F al σ ρ) {v : V} {d : D} (r : Rp K F al v d) (i : Nat) : Sl K F al (σ.set i (some v)) (ρ.set i (some d)) := by
  refine ⟨by rw [List.length_set, List.length_set]; exact h.len, fun j e q => ?_⟩
  by_cases hj : i = j
  · subst hj
    have hl : i < ρ.length := by
      have := (List.getElem?_eq_some_iff.mp q).1
      rwa [List.length_set] at this
    rw [List.getElem?_set_self hl] at q
    cases q
    exact ⟨v, by rw [List.getElem?_set_self (by rw [h.len]; exact hl)], r⟩
  · rw [List.getElem?_set_ne hj] at q
    obtain ⟨u, a, b⟩ := h.get j e q
    exact ⟨u, by rw [List.getElem?_set_ne hj]; exact a, b⟩
/-- the fields of an exception: at o its dict -/
def FldOk (K : PySem.W.Frag) (F : Hp) (al : List Addr) (o : Option Addr) (fs : List (Str × D)) : Prop := (o = none ∧ fs = []) ∨ ∃ a vs, o = some a ∧ F a = some (.xd vs) ∧ vs.map (·.1) = fs.map (·.1) ∧ Rps K F al (vs.map (·.2)) (fs.map (·.2))
/-- what the surroundings take of an exception -/
def W0 (X : Cx) : WX := fun c d σ H => ∀ u s', L2N.XE X (fun c' d' σ' H' => c' = c ∧ d' = d ∧ σ' = σ ∧ H' = H) u s' → X.xe u s'
theorem takesW (X : Cx) : L2N.Takes X (W0 X) := fun u s' ⟨a, B, sI, pins, σ, H, cls, d, e, I, nb, up, sky, na, os, ag, w⟩ => w u s' ⟨a, B, sI, pins, σ, H, cls, d, e, I, nb, up, sky, na, os, ag, rfl, rfl, rfl, rfl⟩
theorem W0.of {X : Cx} {W : WX} (t : L2N.Takes X W) {c : Value} {d : Option Addr} {σ : L2.St} {H : Hp} (h : W c d σ H) : W0 X c d σ H := fun u s' ⟨a, B, sI, pins, σ', H', cls, d', e, I, nb, up, sky, na, os, ag, e1, e2, e3, e4⟩ => by
  subst e1 e2 e3 e4
  exact t u s' ⟨a, B, sI, pins, σ', H', cls, d', e, I, nb, up, sky, na, os, ag, h⟩
def Xo (X : Cx) (al : List Addr) (F G : Hp) (x : DXS) : Prop := ∀ c fs vs M' al' F' H' o σ', Ext al F al' F' → Wd X.K al' F' G H' M' → Sl X.K F' al' σ' vs → FldOk X.K F' al' o fs → x c fs vs M' → W0 X c o σ' H'
theorem Xo.ext {X : Cx} {al al1 : List Addr} {F F1 G : Hp} {x : DXS} (h : Xo X al F G x) (e : Ext al F al1 F1) : Xo X al1 F1 G x := fun c fs vs M' al' F' H' o σ' e' => h c fs vs M' al' F' H' o σ' (e.trans e')
structure Es (X : Cx) (F G : Hp) (al : List Addr) (σ : L2.St) (ρ : Dn) : Prop where
  sl : Sl X.K F al σ ρ.v
  xo : Xo X al F G ρ.x
theorem Es.get {X : Cx} {F G : Hp} {al : List Addr} {σ : L2.St} {ρ : Dn} (h : Es X F G al σ ρ) : ∀ (i : Nat) (d : D), ρ.v[i]? = some (some d) → ∃ v, σ[i]? = some (some v) ∧ Rp X.K F al v d := h.sl.get
theorem Es.ext {X : Cx} {F F' G : Hp} {al al' : List Addr} {σ : L2.St} {ρ : Dn} (h : Es X F G al σ ρ) (e : Ext al F al' F') : Es X F' G al' σ ρ := ⟨h.sl.ext e, h.xo.ext e⟩
theorem Es.set {X : Cx} {F G : Hp} {al : List Addr} {σ : L2.St} {ρ : Dn} (h : Es X F G al σ ρ) {v : V} {d : D} (r : Rp X.K F al v d) (i : Nat) : Es X F G al (σ.set i (some v)) ⟨ρ.v.set i (some d), ρ.x⟩ := ⟨h.sl.set r i, h.xo⟩
theorem Es.of {X : Cx} {F F' G : Hp} {al al' : List Addr} {σ σ' : L2.St} {ρ ρ' : Dn} (h : Es X F G al σ ρ) (e : Ext al F al' F') (s : Sl X.K F' al' σ' ρ'.v) (q : ρ'.x = ρ.x) : Es X F' G al' σ' ρ' := ⟨s, by rw [q]; exact h.xo.ext e⟩
theorem Es.none {X : Cx} {F G : Hp} {al : List Addr} {σ : L2.St} {ρ : Dn} (s : Sl X.K F al σ ρ.v) (q : ρ.x = noX) : Es X F G al σ ρ := ⟨s, by rw [q]; exact fun _ _ _ _ _ _ _ _ _ _ _ _ _ z => z.elim⟩

/-- what follows, as data -/
def kont (K : PySem.W.Frag) (al : List Addr) (F G : Hp) (Q : VK) : DK := fun d M' => ∀ al' F' H' v, Ext al F al' F' → Wd K al' F' G H' M' → Rp K F' al' v d → Q v H'
def kontB (K : PySem.W.Frag) (al : List Addr) (F G : Hp) (Q : Bool → Hp → Prop) : Bool → Sto → Prop := fun b M' => ∀ al' F' H', Ext al F al' F' → Wd K al' F' G H' M' → Q b H'
def kontA (K : PySem.W.Frag) (al : List Addr) (F G : Hp) (Q : List V → Hp → Prop) : List D → Sto → Prop := fun ds M' => ∀ al' F' H' vs, Ext al F al' F' → Wd K al' F' G H' M' → Rps K F' al' vs ds → Q vs H'
theorem kont.ext {K : PySem.W.Frag} {al al1 : List Addr} {F F1 G : Hp} {Q : VK} {d : D} {M : Sto} (h : kont K al F G Q d M) (e : Ext al F al1 F1) : kont K al1 F1 G Q d M :=
  fun al' F' H' v e' W r => h al' F' H' v (e.trans e') W r
def Lift (X : Cx) (f : DTE) : TE := fun σ H Q => ∃ ρ M al F G, Wd X.K al F G H M ∧ Es X F G al σ ρ ∧ f ρ M (kont X.K al F G Q)
def LiftT (X : Cx) (f : DTT) : TT := fun σ H Q => ∃ ρ M al F G, Wd X.K al F G H M ∧ Es X F G al σ ρ ∧ f ρ M (kontB X.K al F G Q)
def LiftA (X : Cx) (f : DTA) : TA := fun σ H Q => ∃ ρ M al F G, Wd X.K al F G H M ∧ Es X F G al σ ρ ∧ f ρ M (kontA X.K al F G Q)
structure DE (X : Cx) (e : Expr) (f : DTE) : Prop where
  pe : PE X e (Lift X f)
  mono : ∀ ρ M (Q Q' : DK), (∀ d M, Q d M → Q' d M) → f ρ M Q → f ρ M Q'
structure DT (X : Cx) (e : Expr) (f : DTT) : Prop where
  pt : PT X e (LiftT X f)
  mono : ∀ ρ M (Q Q' : Bool → Sto → Prop), (∀ d M, Q d M → Q' d M) → f ρ M Q → f ρ M Q'
structure DW (X : Cx) (e : Expr) (f : DTT) : Prop where
  pw : PW X e (LiftT X f)
  mono : ∀ ρ M (Q Q' : Bool → Sto → Prop), (∀ d M, Q d M → Q' d M) → f ρ M Q → f ρ M Q'
structure DA (X : Cx) (es : List Expr) (f : DTA) : Prop where
  pa : PA X es (LiftA X f)
  mono : ∀ ρ M (Q Q' : List D → Sto → Prop), (∀ d M, Q d M → Q' d M) → f ρ M Q → f ρ M Q'
theorem PE.of {X : Cx} {e : Expr} {t t' : TE} (h : PE X e t) (w : ∀ σ H Q, t' σ H Q → t σ H Q) : PE X e t' := ⟨fun pins s σ H Q I q => h.run pins s σ H Q I (w σ H Q q)⟩
theorem PT.of {X : Cx} {e : Expr} {t t' : TT} (h : PT X e t) (w : ∀ σ H Q, t' σ H Q → t σ H Q) : PT X e t' := ⟨fun pins s σ H Q I q => h.run pins s σ H Q I (w σ H Q q)⟩
theorem PW.of {X : Cx} {e : Expr} {t t' : TT} (h : PW X e t) (w : ∀ σ H Q, t' σ H Q → t σ H Q) : PW X e t' := ⟨fun wh pins s σ H Q I q => h.run wh pins s σ H Q I (w σ H Q q)⟩
theorem PA.of {X : Cx} {e : List Expr} {t t' : TA} (h : PA X e t) (w : ∀ σ H Q, t' σ H Q → t σ H Q) : PA X e t' := ⟨fun pos pins s σ H Q I q => h.run pos pins s σ H Q I (w σ H Q q)⟩
theorem PS.of {X : Cx} {e : Stmt} {t t' : TS} (h : PS X e t) (w : ∀ E σ H, t' E σ H → t E σ H) : PS X e t' := ⟨fun pins s σ H E I q => h.run pins s σ H E I (w E σ H q)⟩
theorem PSs.of {X : Cx} {e : List Stmt} {t t' : TS} (h : PSs X e t) (w : ∀ E σ H, t' E σ H → t E σ H) : PSs X e t' := ⟨fun pins s σ H E I q => h.run pins s σ H E I (w E σ H q)⟩
section
variable {X : Cx}
/-- first a part, then what follows -/
theorem DE.seq {e : Expr} {f : DTE} (h : DE X e f) {ρ : Dn} {M : Sto} {al : List Addr} {F G H : Hp} {σ : L2.St} {R : DK} {P : VK} (W : Wd X.K al F G H M) (s : Es X F G al σ ρ) (q : f ρ M R)
    (k : ∀ d M1 al1 F1 H1 v, R d M1 → Ext al F al1 F1 → Wd X.K al1 F1 G H1 M1 → Rp X.K F1 al1 v d → Es X F1 G al1 σ ρ → P v H1) : Lift X f σ H P :=
  ⟨ρ, M, al, F, G, W, s, h.mono _ _ _ _ (fun d M1 r al1 F1 H1 v e W1 rp => k d M1 al1 F1 H1 v r e W1 rp (s.ext e)) q⟩
theorem DT.seq {e : Expr} {f : DTT} (h : DT X e f) {ρ : Dn} {M : Sto} {al : List Addr} {F G H : Hp} {σ : L2.St} {R : Bool → Sto → Prop} {P : Bool → Hp → Prop} (W : Wd X.K al F G H M) (s : Es X F G al σ ρ) (q : f ρ M R)
    (k : ∀ d M1 al1 F1 H1, R d M1 → Ext al F al1 F1 → Wd X.K al1 F1 G H1 M1 → Es X F1 G al1 σ ρ → P d H1) : LiftT X f σ H P :=
  ⟨ρ, M, al, F, G, W, s, h.mono _ _ _ _ (fun d M1 r al1 F1 H1 e W1 => k d M1 al1 F1 H1 r e W1 (s.ext e)) q⟩
theorem DA.seq {e : List Expr} {f : DTA} (h : DA X e f) {ρ : Dn} {M : Sto} {al : List Addr} {F G H : Hp} {σ : L2.St} {R : List D → Sto → Prop} {P : List V → Hp → Prop} (W : Wd X.K al F G H M) (s : Es X F G al σ ρ) (q : f ρ M R)
    (k : ∀ d M1 al1 F1 H1 v, R d M1 → Ext al F al1 F1 → Wd X.K al1 F1 G H1 M1 → Rps X.K F1 al1 v d → Es X F1 G al1 σ ρ → P v H1) : LiftA X f σ H P :=
  ⟨ρ, M, al, F, G, W, s, h.mono _ _ _ _ (fun d M1 r al1 F1 H1 v e W1 rp => k d M1 al1 F1 H1 v r e W1 rp (s.ext e)) q⟩

/-! ### names and constants -/
@[reducible] def dVar (i : Nat) : DTE := fun ρ M Q => match ρ.v[i]? with
  | some (some d) => Q d M
  | _ => False
@[reducible] def dC (d : D) : DTE := fun _ M Q => Q d M
theorem d_var (i : Nat) {x : Str} {pos : Pos} (hN : X.N[i]? = some x) (hv : Vis X.env.scope x) (hd : (x == ("__debug__" : Str)) = false := by decide) (hcd : (x == ("__classdict__" : Str)) = false := by decide) : DE X (.Name x pos) (dVar i) := by
  refine ⟨PE.of (pe_var hN hv hd hcd) fun σ H Q ⟨ρ, M, al, F, G, W, s, q⟩ => ?_, fun ρ M Q Q' w q => ?_⟩
  · unfold dVar at q
    split at q
    · next d e =>
      obtain ⟨v, h1, h2⟩ := s.get i d e
      exact ⟨v, h1, q al F H v (Ext.refl _ _) W h2⟩
    · exact q.elim
  · unfold dVar at q ⊢
    split at q
    · next d e => exact w _ _ q
    · exact q.elim
theorem d_const {e : Expr} {v : V} {d : D} (h : PE X e (tC v)) (r : ∀ F al, Rp X.K F al v d) : DE X e (dC d) :=
  ⟨PE.of h fun _ H _ ⟨_, _, al, F, _, W, _, q⟩ => q al F H v (Ext.refl _ _) W (r F al), fun _ _ _ _ w q => w _ _ q⟩
theorem d_int {i j pos} : DE X (.Constant (.int i) j pos) (dC (.int i)) := d_const pe_int fun _ _ => .int i
theorem d_bl {b j pos} : DE X (.Constant (.bool b) j pos) (dC (.bl b)) := d_const pe_bl fun _ _ => .bl b
theorem d_non {j pos} : DE X (.Constant .none j pos) (dC .non) := d_const pe_non fun _ _ => .non
theorem d_str {x j pos} : DE X (.Constant (.str x) j pos) (dC (.str x)) := d_const pe_str fun _ _ => .str x
/-- a module's constant int -/
theorem d_glob {x : Str} {i : Int} {t : Tok} {pos : Pos} (hg : Gl X x) (hm : X.mg x = some (.int i t)) (hd : (x == ("__debug__" : Str)) = false := by decide) : DE X (.Name x pos) (dC (.int i)) :=
  d_const (pe_glob (v := .int i) hg hm ⟨t, rfl⟩ hd) fun _ _ => .int i
theorem d_globS {x : Str} {i : Str} {t : Tok} {pos : Pos} (hg : Gl X x) (hm : X.mg x = some (.str i t)) (hd : (x == ("__debug__" : Str)) = false := by decide) : DE X (.Name x pos) (dC (.str i)) :=
  d_const (pe_glob (v := .str i) hg hm ⟨t, rfl⟩ hd) fun _ _ => .str i

/-! ### operations by data -/
abbrev G2 := D → D → Sto → DK → Prop
abbrev G1 := D → Sto → DK → Prop
abbrev GN := List D → Sto → DK → Prop
def Mono2 (g : G2) : Prop := ∀ x y M (Q Q' : DK), (∀ d M, Q d M → Q' d M) → g x y M Q → g x y M Q'
def Mono1 (g : G1) : Prop := ∀ x M (Q Q' : DK), (∀ d M, Q d M → Q' d M) → g x M Q → g x M Q'
def MonoN (g : GN) : Prop := ∀ x M (Q Q' : DK), (∀ d M, Q d M → Q' d M) → g x M Q → g x M Q'
/-- a two-place operation of the machine, by data -/
structure O2 (X : Cx) (f : Value → Value → Sem Value) (g : G2) : Prop where
  run : ∀ (pins : List (Addr × Obj)) (s : Shared) (σ : L2.St) (al : List Addr) (F G H : Hp) (M : Sto) (x y : V) (v u : Value) (dx dy : D) (Q : VK), Inv X pins σ H s → RelV x v → RelV y u → Wd X.K al F G H M → Rp X.K F al x dx → Rp X.K F al y dy →
    g dx dy M (kont X.K al F G Q) → wpAny (model X.prog X.w) X.A (f v u) (EP X pins σ Q) X.xe s
  mono : Mono2 g
structure O1 (X : Cx) (f : Value → Sem Value) (g : G1) : Prop where
  run : ∀ (pins : List (Addr × Obj)) (s : Shared) (σ : L2.St) (al : List Addr) (F G H : Hp) (M : Sto) (x : V) (v : Value) (dx : D) (Q : VK), Inv X pins σ H s → RelV x v → Wd X.K al F G H M → Rp X.K F al x dx →
    g dx M (kont X.K al F G Q) → wpAny (model X.prog X.w) X.A (f v) (EP X pins σ Q) X.xe s
  mono : Mono1 g
/-- a call of a value, by data -/
structure ON (X : Cx) (f : Value) (g : GN) : Prop where
  run : ∀ (pins : List (Addr × Obj)) (s : Shared) (σ : L2.St) (al : List Addr) (F G H : Hp) (M : Sto) (xs : List V) (us : List Value) (ds : List D) (Q : VK), Inv X pins σ H s → Vals xs us → Wd X.K al F G H M → Rps X.K F al xs ds →
    g ds M (kont X.K al F G Q) → wpAny (model X.prog X.w) X.A (call f us) (EP X pins σ Q) X.xe s
  mono : MonoN g
@[reducible] def dBin (g : G2) (fa fb : DTE) : DTE := fun ρ M Q => fa ρ M fun x M1 => fb ρ M1 fun y M2 => g x y M2 Q
@[reducible] def dUn (g : G1) (fa : DTE) : DTE := fun ρ M Q => fa ρ M fun x M1 => g x M1 Q
@[reducible] def dNil : DTA := fun _ M Q => Q [] M
@[reducible] def dCons (fa : DTE) (fr : DTA) : DTA := fun ρ M Q => fa ρ M fun x M1 => fr ρ M1 fun xs M2 => Q (x :: xs) M2
@[reducible] def dApp (g : GN) (fa : DTA) : DTE := fun ρ M Q => fa ρ M fun xs M1 => g xs M1 Q
variable {a b c : Expr} {fa fb fc : DTE} {pos : Pos}
theorem dBin_mono {g : G2} (hg : Mono2 g) (ha : DE X a fa) (hb : DE X b fb) : ∀ ρ M (Q Q' : DK), (∀ d M, Q d M → Q' d M) → dBin g fa fb ρ M Q → dBin g fa fb ρ M Q' :=
  fun ρ M Q Q' w q => ha.mono _ _ _ _ (fun x M1 q1 => hb.mono _ _ _ _ (fun y M2 q2 => hg x y M2 Q Q' w q2) q1) q
/-- the two operands' run, then the operation -/
theorem bin2 {g : G2} {f : Value → Value → Sem Value} (ho : O2 X f g) (ha : DE X a fa) (hb : DE X b fb) {pins : List (Addr × Obj)} {s : Shared} {σ : L2.St} {H : Hp} {Q : VK} (I : Inv X pins σ H s) (h : Lift X (dBin g fa fb) σ H Q) :
    wpAny (model X.prog X.w) X.A (eval a X.env) (fun v s₁ => wpAny (model X.prog X.w) X.A (eval b X.env) (fun u s₂ => wpAny (model X.prog X.w) X.A (f v u) (EP X pins σ Q) X.xe s₂) X.xe s₁) X.xe s := by
  obtain ⟨ρ, M, al, F, G, W, es, q⟩ := h
  refine bin ha.pe hb.pe (R := fun x y H2 => ∃ dx dy M2 al2 F2, Wd X.K al2 F2 G H2 M2 ∧ Rp X.K F2 al2 x dx ∧ Rp X.K F2 al2 y dy ∧ g dx dy M2 (kont X.K al2 F2 G Q)) I ?_ fun v u s2 x y H2 I2 rx ry h2 => ?_
  · refine ha.seq W es q fun dx M1 al1 F1 H1 v q1 e1 W1 r1 s1 => ?_
    refine hb.seq W1 s1 q1 fun dy M2 al2 F2 H2 u q2 e2 W2 r2 s2 => ?_
    exact ⟨dx, dy, M2, al2, F2, W2, r1.ext e2, r2, ho.mono _ _ _ _ _ (fun d M3 k => k.ext (e1.trans e2)) q2⟩
  · obtain ⟨dx, dy, M2, al2, F2, W2, r1, r2, k⟩ := h2
    exact ho.run pins s2 σ al2 F2 G H2 M2 x y v u dx dy Q I2 rx ry W2 r1 r2 k
theorem d_op {op : Operator} {g : G2} (ho : O2 X (binaryOp op) g) (ha : DE X a fa) (hb : DE X b fb) : DE X (.BinOp a op b pos) (dBin g fa fb) :=
  ⟨⟨fun pins s σ H Q I h => wpAny_BinOp (bin2 ho ha hb I h)⟩, dBin_mono ho.mono ha hb⟩
theorem d_cmp {op : CmpOp} {g : G2} (ho : O2 X (compareOp op) g) (ha : DE X a fa) (hb : DE X b fb) (hm : behindInMarks op b = false := by first | exact nobehind _ (by decide) (by decide) | rfl) : DE X (.Compare a [op] [b] pos) (dBin g fa fb) :=
  ⟨⟨fun pins s σ H Q I h => wpAny_Compare1 (bin2 ho ha hb I h) hm⟩, dBin_mono ho.mono ha hb⟩
theorem d_un {op : UnaryOp} {g : G1} (ho : O1 X (unaryOp op) g) (ha : DE X a fa) : DE X (.UnaryOp op a pos) (dUn g fa) := by
  refine ⟨⟨fun pins s σ H Q I h => ?_⟩, fun ρ M Q Q' w q => ha.mono _ _ _ _ (fun x M1 q1 => ho.mono x M1 Q Q' w q1) q⟩
  obtain ⟨ρ, M, al, F, G, W, es, q⟩ := h
  have hl : Lift X fa σ H (fun x H1 => ∃ dx M1 al1 F1, Wd X.K al1 F1 G H1 M1 ∧ Rp X.K F1 al1 x dx ∧ g dx M1 (kont X.K al1 F1 G Q)) :=
    ha.seq W es q fun dx M1 al1 F1 H1 v q1 e1 W1 r1 s1 => ⟨dx, M1, al1, F1, W1, r1, ho.mono _ _ _ _ (fun d M3 k => k.ext e1) q1⟩
  refine UnaryOp_ (thn (ha.pe.run pins s σ H _ I hl) fun v s1 ⟨x, H1, I1, rx, dx, M1, al1, F1, W1, r1, k⟩ => ?_)
  exact ho.run pins s1 σ al1 F1 G H1 M1 x v dx Q I1 rx W1 r1 k
theorem d_nil : DA X [] dNil := ⟨PA.of pa_nil fun _ H _ ⟨_, _, al, F, _, W, _, q⟩ => q al F H [] (Ext.refl _ _) W .nil, fun _ _ _ _ w q => w _ _ q⟩
theorem d_cons {es : List Expr} {fr : DTA} (ha : DE X a fa) (hr : DA X es fr) (hs : starEach (a :: es) X.env = (false, eval a X.env) :: starEach es X.env := by rfl) : DA X (a :: es) (dCons fa fr) := by
  refine ⟨PA.of (pa_cons ha.pe hr.pa hs) fun σ H Q ⟨ρ, M, al, F, G, W, es, q⟩ => ?_, fun ρ M Q Q' w q => ha.mono _ _ _ _ (fun x M1 q1 => hr.mono _ _ _ _ (fun y M2 q2 => w _ _ q2) q1) q⟩
  refine ha.seq W es q fun dx M1 al1 F1 H1 v q1 e1 W1 r1 s1 => ?_
  refine hr.seq W1 s1 q1 fun dy M2 al2 F2 H2 u q2 e2 W2 r2 s2 => ?_
  exact q2 al2 F2 H2 _ (e1.trans e2) W2 (.cons (r1.ext e2) r2)
/-- the value-rules of the layer, as data-rules -/
theorem O2.of {f : Value → Value → Sem Value} {r : R2} {g : G2} (h : OpR X f r) (m : Mono2 g)
    (k : ∀ al F G H M x y dx dy Q, Wd X.K al F G H M → Rp X.K F al x dx → Rp X.K F al y dy → g dx dy M (kont X.K al F G Q) → r x y H Q) : O2 X f g :=
  ⟨fun pins s σ al F G H M x y v u dx dy Q I rx ry W r1 r2 q => h pins s σ H x y v u Q I rx ry (k al F G H M x y dx dy Q W r1 r2 q), m⟩
theorem ON.of {f : Value} {r : List V → Hp → VK → Prop} {g : GN} (h : CallR X f r) (m : MonoN g)
    (k : ∀ al F G H M xs ds Q, Wd X.K al F G H M → Rps X.K F al xs ds → g ds M (kont X.K al F G Q) → r xs H Q) : ON X f g :=
  ⟨fun pins s σ al F G H M xs us ds Q I rx W r1 q => h pins s σ H xs us Q I rx (k al F G H M xs ds Q W r1 q), m⟩
end
end DL

/-! DL2: defs and their calls where no repr runs around (guards = some []); the law's own end. -/
namespace DL
open PySem PySem.Spec PyProof.Rows L2

/-- a def keeps its promise, wherever no repr is under way -/
structure FnG (P : Program) (w : World) (K : PySem.W.Frag) (mg : Str → Option Value) (base : Heap) (CX : CXT) (k : Nat) (f : Addr) (fd : FuncData) (ps : List Str) (sp : Sp) : Prop where
  len : ∀ vs H Q E, sp vs H Q E → vs.length = ps.length
  run : ∀ (A : Around) (outer : List Env) (s : Shared) (H : Hp) (args : Args) (us : List Value) (vs : List V) (Q : VK) (E : XK), A.guards = some [] → Room k A → Env0 P w K mg base A outer s H → BindsTo s fd args (ps.zip us) → Vals vs us →
    sp vs H Q E → codeAny (model P w) A (Code.call (Value.ref f) args) (CR CX outer P w H s Q E) s
theorem FnG.mono {P : Program} {w : World} {K : PySem.W.Frag} {mg : Str → Option Value} {base : Heap} {CX : CXT} {j k : Nat} {f : Addr} {fd : FuncData} {ps : List Str} {sp : Sp} (h : FnG P w K mg base CX j f fd ps sp) (le : j ≤ k) : FnG P w K mg base CX k f fd ps sp :=
  ⟨h.len, fun A outer s H args us vs Q E hg hr => h.run A outer s H args us vs Q E hg (hr.mono le)⟩
section
variable {P : Program} {w : World} {K : PySem.W.Frag} {mg : Str → Option Value} {base : Heap}
theorem fnG_of {CX : CXT} {k : Nat} {f : Addr} {x qual : Str} {st : Stmt} {fd : FuncData} {N ps : List Str} {sp : Sp} (F : Fun K x qual st f fd) (S : FnScope N ps (defScope st)) (len : ∀ vs H Q E, sp vs H Q E → vs.length = ps.length)
    (body : ∀ (cdv : Value) (A : Around) (outer : List Env) (s : Shared) (H : Hp) (vs : List V) (Q : VK) (E : XK), (A.deeper (envOfC qual (defScope st) s.heap.objs.size f cdv)).guards = some [] → Room k (A.deeper (envOfC qual (defScope st) s.heap.objs.size f cdv)) → sp vs H Q E →
      ∃ t, PSs (cxOf CX P w K mg base N qual (defScope st) f cdv A outer s H E) (defBody st) t ∧ t { nx := fun _ H' => Q .non H', rt := Q } (start N vs) H) : FnG P w K mg base CX (k + 1) f fd ps sp := by
  obtain ⟨oc, od, kV, doc, pm, an, cdv, ct, osl, rfl, lk, hcd⟩ := F.ex
  refine ⟨len, fun A outer s H args us vs Q E hgd hr e0 hbi rv hsp => ?_⟩
  have KI : K.In s.heap := e0.mod.kin.keeps fun b o e => (e0.bs b o e).1
  have nolim : s.heap.NoLimit := e0.mod.nolimit.keeps fun b o e => (e0.bs b o e).1
  have kinds : ∀ y ∈ ps.zip us, (defScope st).names.lookup y.1 = some .local ∨ ((defScope st).names.lookup y.1 = some .cell ∧ ((cellsFrom (s.heap.objs.size + 1) (defScope st).names []).lookup y.1).isSome = true) := by
    rintro ⟨n, v⟩ hy
    exact (S.par n (List.of_mem_zip hy).1).imp id fun q => ⟨q, PySem.W.cellsFrom_some _ _ _ (.inl q)⟩
  refine codeAny_call_function hr.depth (KI _ _ lk) rfl S.co S.gen rfl (PySem.W.codeRec_of KI hcd) (hbi _ _ _ _ (wpAny_newFunctionEnv_cells S.kind kinds fun env henv s1 ic => ?_))
  subst henv
  refine ⟨nolim.keeps ic.toInCall.keep, codeAny_func ?_⟩
  obtain ⟨t, pt, tq⟩ := body cdv A outer s H vs Q E hgd (hr.deeper _) hsp
  have J0 : Inv (cxOf CX P w K mg base N qual (defScope st) f cdv A outer s H E) [] (start N vs) H s1 := inv_start S hr.hd e0 (len _ _ _ _ hsp) rv ic
  refine wpAny_mono (pt.run [] s1 (start N vs) H _ J0 tq) (fun fl s' z => ?_) fun _ _ z => z
  cases fl with
  | ret u => obtain ⟨v, σ', H', J, r, q⟩ := z; exact ⟨v, H', J.os, J.bare, J.base, J.hok, r, q⟩
  | next => obtain ⟨σ', H', J, q⟩ := z; exact ⟨V.non, H', J.os, J.bare, J.base, J.hok, rfl, q⟩
  | brk => obtain ⟨_, _, _, q⟩ := z; exact q.elim
  | cont => obtain ⟨_, _, _, q⟩ := z; exact q.elim
end
section
variable {X : Cx} {CX : CXT} {k : Nat} {f : Addr} {fd : FuncData} {ps : List Str} {sp : Sp} {dvs : List V} {dds : List Value} {E : XK}
theorem runG {pins : List (Addr × Obj)} {σ : L2.St} {H : Hp} {s : Shared} {Q : VK} {us : List Value} {vs : List V} (F : FnG X.prog X.w X.K X.mg X.base CX k f fd ps sp) (hgd : X.A.guards = some []) (hr : Room k X.A) (hb : Binds X.K fd ps dds) (hd : Vals dvs dds) (hx : Passes CX X E)
    (I : Inv X pins σ H s) (r : Vals vs us) (h : sp (vs ++ dvs) H Q E) : wpAny (model X.prog X.w) X.A (call (.ref f) us) (EP X pins σ Q) X.xe s := by
  have rr : Vals (vs ++ dvs) (us ++ dds) := r.append hd
  have ll : (us ++ dds).length = ps.length := rr.length.symm.trans (F.len _ _ _ _ h)
  refine wpAny_call (codeAny_mono (F.run X.A X.stack s H ⟨us, []⟩ _ _ Q E hgd hr I.env0 (hb s us I.kIn ll) rr h) fun res s' z => ?_)
  match res, z with
  | .error e, z => exact hx pins σ H s e s' I z
  | .ok (.ret u), z => exact I.after z
  | .ok .next, z => exact z.elim
  | .ok .brk, z => exact z.elim
  | .ok .cont, z => exact z.elim
theorem runGS {pins : List (Addr × Obj)} {σ : L2.St} {H : Hp} {s : Shared} {Q : VK} {us : List Value} {vs : List V} {E : L2.St → XK} (F : FnG X.prog X.w X.K X.mg X.base CX k f fd ps sp) (hgd : X.A.guards = some []) (hr : Room k X.A) (hb : Binds X.K fd ps dds) (hd : Vals dvs dds) (hx : PassesAt CX X σ (E σ))
    (I : Inv X pins σ H s) (r : Vals vs us) (h : sp (vs ++ dvs) H Q (E σ)) : wpAny (model X.prog X.w) X.A (call (.ref f) us) (EP X pins σ Q) X.xe s := by
  have rr : Vals (vs ++ dvs) (us ++ dds) := r.append hd
  have ll : (us ++ dds).length = ps.length := rr.length.symm.trans (F.len _ _ _ _ h)
  refine wpAny_call (codeAny_mono (F.run X.A X.stack s H ⟨us, []⟩ _ _ Q (E σ) hgd hr I.env0 (hb s us I.kIn ll) rr h) fun res s' z => ?_)
  match res, z with
  | .error e, z => exact hx pins H s e s' I z
  | .ok (.ret u), z => exact I.after z
  | .ok .next, z => exact z.elim
  | .ok .brk, z => exact z.elim
  | .ok .cont, z => exact z.elim
/-- a call whose exceptions are told with the slots -/
def tCallSD' (sp : Sp) (dvs : List V) (E : L2.St → XK) (t : TA) : TE := fun σ H Q => t σ H fun vs H1 => sp (vs ++ dvs) H1 Q (E σ)
theorem peG_callS {x : Str} {p pos : Pos} {e : Expr} {es : List Expr} {t : TA} {E : L2.St → XK} (F : FnG X.prog X.w X.K X.mg X.base CX k f fd ps sp) (hgd : X.A.guards = some []) (hr : Room k X.A) (hg : Gl X x) (hm : X.mg x = some (.ref f)) (hk : PySem.W.keepIn X.K (.ref f) = true) (hb : Binds X.K fd ps dds) (hd : Vals dvs dds) (hx : ∀ σ, PassesAt CX X σ (E σ))
    (ha : PA X (e :: es) t) (hdb : (x == ("__debug__" : Str)) = false := by decide) (he : starEach (e :: es) X.env = (false, eval e X.env) :: starEach es X.env := by rfl) (hpl : (backTo pos (starEach es X.env)).any (·.1) = false := by rfl) :
    PE X (.Call (.Name x p) (e :: es) [] pos) (tCallSD' sp dvs E t) :=
  ⟨fun pins s σ H Q I h => wpAny_Call_Name_kw (ld_glob I hg hm (PySem.W.callWith_K (h₀ := X.base) I.ok.mod.kin hk (thn (ha.run pos pins s σ H _ I h) fun us s1 ⟨vs, H1, I1, r, q⟩ => ⟨I1.kIn, runGS F hgd hr hb hd (hx σ) I1 r q⟩) he hpl) hdb)⟩
theorem peG_call {x : Str} {p pos : Pos} {e : Expr} {es : List Expr} {t : TA} (F : FnG X.prog X.w X.K X.mg X.base CX k f fd ps sp) (hgd : X.A.guards = some []) (hr : Room k X.A) (hg : Gl X x) (hm : X.mg x = some (.ref f)) (hk : PySem.W.keepIn X.K (.ref f) = true) (hb : Binds X.K fd ps dds) (hd : Vals dvs dds) (hx : Passes CX X E)
    (ha : PA X (e :: es) t) (hdb : (x == ("__debug__" : Str)) = false := by decide) (he : starEach (e :: es) X.env = (false, eval e X.env) :: starEach es X.env := by rfl) (hpl : (backTo pos (starEach es X.env)).any (·.1) = false := by rfl) :
    PE X (.Call (.Name x p) (e :: es) [] pos) (tCall sp dvs E t) :=
  ⟨fun pins s σ H Q I h => wpAny_Call_Name_kw (ld_glob I hg hm (PySem.W.callWith_K (h₀ := X.base) I.ok.mod.kin hk (thn (ha.run pos pins s σ H _ I h) fun us s1 ⟨vs, H1, I1, r, q⟩ => ⟨I1.kIn, runG F hgd hr hb hd hx I1 r q⟩) he hpl) hdb)⟩
end

/-! ### the law's own end -/
theorem law_callG {P : Program} {w : World} {K : PySem.W.Frag} {mg mb : Str → Option Value} {CX : CXT} {k : Nat} {fa a : Addr} {fd : FuncData} {x : Str} {sp : Sp} {t0 : Shared} {vs : List Value} {ns : List Int}
    (KI : K.In t0.heap) (hglob : t0.heap.Ns mainGlobals mg) (hblt : t0.heap.Ns builtinsNs mb) (hbo : ∀ x : Str, x ≠ "__name__" → mb x = bootBuiltins x) (hlim : t0.heap.NoLimit) (hgen : t0.gens = #[])
    (ha : t0.heap.get? a = some { cls := .type "list", data := .seq vs.toArray }) (hi : IntsAre vs ns) (hl : ns.length ≤ sizeLine) (hr : Room k callerA)
    (F : ∀ base : Heap, K.In base → base.Ns mainGlobals mg → FnG P w K mg base CX k fa fd [x] sp) (hbind : ∀ (s : Shared) (u : Value), BindsTo s fd ⟨[u], []⟩ [(x, u)])
    (hsp : ∀ H : Hp, Only H → SqL K H a (ns.map V.int) → sp [.ref a] H (fun v _ => v = .bl true) fun _ _ _ => False)
    (hCX : ∀ H e s', CX [] H t0 (fun _ _ _ => False) e s' → False) :
    codeAny (model P w) callerA (.call (.ref fa) ⟨[.ref a], []⟩) (fun r s' => r = .ok (.ret (.bool true)) ∧ OldK t0.heap s'.heap ∧ s'.os = t0.os ∧ AllBare s'.gens) t0 := by
  have key : ∀ H : Hp, Only H → SqL K H a (ns.map V.int) → HOk P w H t0.heap → (∀ b, H b ≠ none → b = a) → (H a ≠ none → K.lookup a = none) →
      codeAny (model P w) callerA (.call (.ref fa) ⟨[.ref a], []⟩) (fun r s' => r = .ok (.ret (.bool true)) ∧ OldK t0.heap s'.heap ∧ s'.os = t0.os ∧ AllBare s'.gens) t0 := by
    intro H hO hS hok hA hK
    have free : ∀ {b : Addr} {o : Obj} {es : Array DictEntry} {ep : Nat}, t0.heap.get? b = some o → o.data = .dict es ep → H b = none := by
      intro b o es ep e d
      cases q : H b with
      | none => rfl
      | some u =>
        have z := hA b (by rw [q]; simp)
        subst z
        rw [ha] at e
        cases e
        exact absurd (show Data.seq vs.toArray _ = Data.dict es ep from d) (fun y => nomatch y)
    have nsH : ∀ {b : Addr} {m : Str → Option Value}, t0.heap.Ns b m → (hidT t0.heap H).Ns b m := fun {b m} ⟨o, es, ep, e, d, r⟩ => ⟨o, es, ep, hidT_get e (free e d), d, r⟩
    have KH : K.In (hidT t0.heap H) := by
      intro b o e
      refine hidT_get (KI b o e) ?_
      cases q : H b with
      | none => rfl
      | some u =>
        have z := hA b (by rw [q]; simp)
        subst z
        have := hK (by rw [q]; simp)
        rw [this] at e
        cases e
    obtain ⟨mc, l1, l2⟩ := hlim
    have md : Mod K mg (hidT t0.heap H) := ⟨KH, nsH hglob, ⟨mb, nsH hblt, hbo⟩, mc, nsH l1, l2⟩
    have e0 : Env0 P w K mg (hidT t0.heap H) callerA [] t0 H := ⟨rfl, md, fun b o e => of_hidT e, Nat.le_of_eq (hidT_size _ _), trivial, fun b z => (List.not_mem_nil z).elim, hok, .of_eq hgen⟩
    refine codeAny_mono ((F _ KH (nsH hglob)).run callerA [] t0 H ⟨[.ref a], []⟩ [.ref a] [.ref a] _ _ rfl hr e0 (hbind t0 (.ref a)) (.cons rfl .nil) (hsp H hO hS)) fun res s' z => ?_
    match res, z with
    | .error e, z => exact (hCX H e s' z).elim
    | .ok .next, z => exact z.elim
    | .ok .brk, z => exact z.elim
    | .ok .cont, z => exact z.elim
    | .ok (.ret u), z =>
      obtain ⟨v, H', os, bare, un, hok', r', q⟩ := z
      obtain rfl : v = .bl true := q
      obtain rfl : u = Value.bool true := r'
      refine ⟨rfl, OldK.of_keep fun b o e => ?_, os, bare⟩
      cases y : H b with
      | none => exact un.keep b o e y (fun z => (List.not_mem_nil z).elim) List.not_mem_nil
      | some u =>
        rcases hO b with n | ⟨ob, xs, n⟩
        · rw [y] at n; cases n
        · have c1 := (hok b _ n).1
          have c2 := (hok' b _ (un.frzs b ob _ n)).1
          rw [e] at c1
          cases c1
          exact c2
  cases hk : K.lookup a with
  | some o =>
    have e := KI a o hk
    rw [ha] at e
    cases e
    exact key (fun _ => none) (fun _ => .inl rfl) (.inr ⟨_, vs.toArray, _, hk, rfl, rfl, rfl, by rw [List.size_toArray, hi.length]; exact hl, by simpa using vals_ints hi⟩) (fun b u z => nomatch z) (fun b z => absurd rfl z) fun z => absurd rfl z
  | none =>
    let ob : Obj := { cls := .type "list", data := .seq vs.toArray }
    refine key (upd (fun _ => none) a (.frz ob (.lst (ns.map V.int)))) (fun b => ?_) (.inl (.inr ⟨ob, upd_same⟩)) (fun b u z => ?_) (fun b z => ?_) fun _ => hk
    · by_cases hb : b = a
      · subst hb; exact .inr ⟨_, _, upd_same⟩
      · exact .inl (upd_ne hb)
    · by_cases hb : b = a
      · subst hb
        rw [upd_same] at z
        cases z
        exact ⟨ha, by rw [List.length_map]; exact hl, vs, _, vals_ints hi, ha⟩
      · rw [upd_ne hb] at z
        cases z
    · by_cases hb : b = a
      · exact hb
      · rw [upd_ne hb] at z
        exact absurd rfl z
theorem cx_no {P : Program} {w : World} {outer : List Env} {H : Hp} {s : Shared} {u : Value} {s' : Shared} (h : L2N.CX P w outer H s (fun _ _ _ => False) u s') : False := by
  unfold L2N.CX at h
  obtain ⟨_, _, _, _, _, _, _, _, _, _, _, _, h⟩ := h
  exact h
theorem walkG {l : PySem.W.OpenLaw} {n k : Nat} {q : Program} {loose : List Str} {XP : (Str → Option Value) → Heap → Prop} {YP : World → Heap → Prop} {d : DefRec} {K : Params → PySem.W.Frag} {sp : PySem.W.Frag → Sp} {x : Str}
    (hn : l.most = some n) (hn2 : n ≤ sizeLine) (hdf : d.params.defaults = []) (hr : Room k callerA) (hY : ∀ (w : World) (h : Heap), YP w h → (K w.params).In h)
    (F : ∀ (w : World) (mg : Str → Option Value) (fa : Addr) (h : Heap), (K w.params).In h → h.Ns mainGlobals mg → mg d.name = some (.ref fa) →
      ∃ fd : FuncData, (∀ (s : Shared) (u : Value), BindsTo s fd ⟨[u], []⟩ [(x, u)]) ∧ ∀ base : Heap, (K w.params).In base → base.Ns mainGlobals mg → FnG l.prog w (K w.params) mg base (L2N.CX l.prog w) k fa fd [x] (sp (K w.params)))
    (hsp : ∀ (K : PySem.W.Frag) (H : Hp) (a : Addr) (ns : List Int), ns.length ≤ n → Only H → SqL K H a (ns.map V.int) → sp K [.ref a] H (fun v _ => v = .bl true) fun _ _ _ => False) :
    PySem.W.WalkO q loose XP YP l.row.toRowW d [] (fun f vs => PySem.call f vs) := by
  refine Att.attach_call hn hdf fun w s0 s1 mg mb fa o pm cd doc a vs ns G Y ho hd hcd hmg hobj hints hlen hg => ?_
  obtain ⟨fd, hb, hF⟩ := F w mg fa _ (hY w _ Y) G.T.g hmg
  exact law_callG (hY w _ Y) G.T.g G.T.b G.T.builtins G.T.nolimit hg hobj hints (Nat.le_trans hlen hn2) hr hF hb (fun H hO hS => hsp _ H a ns hlen hO hS) fun H e s' z => cx_no z
end DL

/-! DL3: statements, loops, comprehensions, defs by data. -/
namespace DL
open PySem PySem.Spec PyProof.Rows L2

/-! ### tests -/
@[reducible] def gTru : D → Sto → (Bool → Sto → Prop) → Prop
  | .non, M, Q => Q false M
  | .bl b, M, Q => Q b M
  | .int i, M, Q => Q (i != 0) M
  | .str x, M, Q => x.length ≤ sizeLine ∧ Q ((x.length : Int) != 0) M
  | .tup ds, M, Q => Q (!ds.isEmpty) M
  | .lst ds, M, Q => Q (!ds.isEmpty) M
  | .ref n, M, Q => match M[n]? with
    | some (.lst ds) => Q (!ds.isEmpty) M
    | _ => False
  | _, _, _ => False
@[reducible] def dTru (f : DTE) : DTT := fun ρ M Q => f ρ M fun d M1 => gTru d M1 Q
theorem gTru_mono (d : D) (M : Sto) (Q Q' : Bool → Sto → Prop) (w : ∀ b M, Q b M → Q' b M) (h : gTru d M Q) : gTru d M Q' := by
  cases d with
  | non => exact w _ _ h
  | bl b => exact w _ _ h
  | int i => exact w _ _ h
  | str x => exact ⟨h.1, w _ _ h.2⟩
  | tup ds => exact w _ _ h
  | lst ds => exact w _ _ h
  | dct ks ds => exact h.elim
  | scr ns => exact h.elim
  | exo a c o ks ds => exact h.elim
  | ref n =>
    unfold gTru at h ⊢
    dsimp only at h ⊢
    split at h
    · exact w _ _ h
    · exact h.elim
theorem isEmpty_len {α β : Type} {xs : List α} {ys : List β} (h : xs.length = ys.length) : (!xs.isEmpty) = (!ys.isEmpty) := by
  cases xs <;> cases ys <;> simp at h <;> rfl
theorem gTru_ok {K : PySem.W.Frag} {al : List Addr} {F G H : Hp} {M : Sto} {v : V} {d : D} {Q : Bool → Hp → Prop} (W : Wd K al F G H M) (r : Rp K F al v d) (h : gTru d M (kontB K al F G Q)) : ∃ k, TruV K v H k ∧ Q k H := by
  cases r with
  | non => exact ⟨false, rfl, h al F H (Ext.refl _ _) W⟩
  | bl b => exact ⟨b, rfl, h al F H (Ext.refl _ _) W⟩
  | int i => exact ⟨_, rfl, h al F H (Ext.refl _ _) W⟩
  | str x => exact ⟨_, ⟨h.1, rfl⟩, h.2 al F H (Ext.refl _ _) W⟩
  | tup a b => exact ⟨_, .inr (.inl ⟨_, SqT.of (W.sm _ _ a), (isEmpty_len b.length).symm⟩), h al F H (Ext.refl _ _) W⟩
  | lst a b => exact ⟨_, .inl ⟨_, SqL.of (W.sm _ _ a), (isEmpty_len b.length).symm⟩, h al F H (Ext.refl _ _) W⟩
  | dct a l b => exact h.elim
  | scr a => exact h.elim
  | exo0 => exact h.elim
  | exo a l b => exact h.elim
  | ref a =>
    unfold gTru at h
    dsimp only at h
    split at h
    · next ds e =>
      obtain ⟨xs, q, rs⟩ := W.cel _ _ _ e a
      exact ⟨_, .inl ⟨xs, SqL.of q, (isEmpty_len rs.length).symm⟩, h al F H (Ext.refl _ _) W⟩
    · exact h.elim
section
variable {X : Cx} {a b c : Expr} {fa fb fc : DTE} {pos : Pos} {ta tb : DTT} {rest : List Expr}
/-- any expression as a test -/
theorem dt_val (h : DE X a fa) (he : ∀ whole, isTrue a X.env whole = (do let v ← whole; standAt a.pos; holding [v] (truthy v)) := by intro _; rfl) : DT X a (dTru fa) := by
  refine ⟨PT.of (pt_truth h.pe he) fun σ H Q ⟨ρ, M, al, F, G, W, es, q⟩ => ?_, fun ρ M Q Q' w q => h.mono _ _ _ _ (fun d M1 q1 => gTru_mono d M1 Q Q' w q1) q⟩
  refine h.seq W es q fun d M1 al1 F1 H1 v q1 e1 W1 r1 s1 => ?_
  exact gTru_ok W1 r1 (gTru_mono _ _ _ _ (fun b M2 k al' F' H' e' W' => k al' F' H' (e1.trans e') W') q1)
@[reducible] def dBl (f : DTE) : DTT := fun ρ M Q => f ρ M fun d M1 => match d with
  | .bl b => Q b M1
  | _ => False
theorem dBl_mono (h : DE X a fa) : ∀ ρ M (Q Q' : Bool → Sto → Prop), (∀ d M, Q d M → Q' d M) → dBl fa ρ M Q → dBl fa ρ M Q' := fun ρ M Q Q' w q => h.mono _ _ _ _ (fun d M1 q1 => by
  cases d <;> first | exact w _ _ q1 | exact q1.elim) q
/-- a comparison as a test -/
theorem dt_cmp {op : CmpOp} {g : G2} (ho : O2 X (compareOp op) g) (ha : DE X a fa) (hb : DE X b fb) (hm : behindInMarks op b = false := by first | exact nobehind _ (by decide) (by decide) | rfl) : DT X (.Compare a [op] [b] pos) (dBl (dBin g fa fb)) := by
  refine ⟨⟨fun pins s σ H Q I h => ?_⟩, dBl_mono (d_cmp (pos := pos) ho ha hb hm)⟩
  obtain ⟨ρ, M, al, F, G, W, es, q⟩ := h
  have hl : Lift X (dBin g fa fb) σ H (fun v H1 => ∃ c, v = .bl c ∧ Q c H1) :=
    (d_cmp (pos := pos) ho ha hb hm).seq W es q fun d M1 al1 F1 H1 v q1 e1 W1 r1 s1 => by
      cases r1 <;> first | exact ⟨_, rfl, q1 al1 F1 H1 e1 W1⟩ | exact q1.elim
  refine wpAny_isTrue_Compare1 (thn (bin2 ho ha hb I hl) fun v s1 h1 => thn h1 fun u s2 h2 => thn h2 fun c s3 ⟨x, H1, I1, r1, q1⟩ => ?_) hm
  obtain ⟨d, rfl, q⟩ := q1
  cases r1
  exact wpAny_truthy_bool ⟨H1, I1, q⟩
@[reducible] def dAnd (t u : DTT) : DTT := fun ρ M Q => t ρ M fun b M1 => if b = true then u ρ M1 Q else Q false M1
@[reducible] def dOr (t u : DTT) : DTT := fun ρ M Q => t ρ M fun b M1 => if b = true then Q true M1 else u ρ M1 Q
@[reducible] def dNot (t : DTT) : DTT := fun ρ M Q => t ρ M fun b M1 => Q (!b) M1
theorem DT.mono' {f : DTT} (h : DT X a f) {ρ : Dn} {M : Sto} {Q Q' : Bool → Sto → Prop} (q : f ρ M Q) (w : ∀ b M, Q b M → Q' b M) : f ρ M Q' := h.mono _ _ _ _ w q
theorem dw_and1 (h : DT X a ta) : DW X (.BoolOp .And [a] pos) ta := ⟨pw_and1 h.pt, h.mono⟩
theorem dw_or1 (h : DT X a ta) : DW X (.BoolOp .Or [a] pos) ta := ⟨pw_or1 h.pt, h.mono⟩
theorem dw_and (h : DT X a ta) (g : DW X (.BoolOp .And (b :: rest) pos) tb) : DW X (.BoolOp .And (a :: b :: rest) pos) (dAnd ta tb) := by
  refine ⟨PW.of (pw_and h.pt g.pw) fun σ H Q ⟨ρ, M, al, F, G, W, es, q⟩ => ?_, fun ρ M Q Q' w q => h.mono _ _ _ _ (fun b M1 q1 => ?_) q⟩
  · refine h.seq W es q fun d M1 al1 F1 H1 q1 e1 W1 s1 => ?_
    cases d with
    | true => exact ⟨ρ, M1, al1, F1, G, W1, s1, g.mono _ _ _ _ (fun b M2 k al' F' H' e' W' => k al' F' H' (e1.trans e') W') q1⟩
    | false => exact q1 al1 F1 H1 e1 W1
  · cases b with
    | true => exact g.mono _ _ _ _ w q1
    | false => exact w _ _ q1
theorem dw_or (h : DT X a ta) (g : DW X (.BoolOp .Or (b :: rest) pos) tb) : DW X (.BoolOp .Or (a :: b :: rest) pos) (dOr ta tb) := by
  refine ⟨PW.of (pw_or h.pt g.pw) fun σ H Q ⟨ρ, M, al, F, G, W, es, q⟩ => ?_, fun ρ M Q Q' w q => h.mono _ _ _ _ (fun b M1 q1 => ?_) q⟩
  · refine h.seq W es q fun d M1 al1 F1 H1 q1 e1 W1 s1 => ?_
    cases d with
    | false => exact ⟨ρ, M1, al1, F1, G, W1, s1, g.mono _ _ _ _ (fun b M2 k al' F' H' e' W' => k al' F' H' (e1.trans e') W') q1⟩
    | true => exact q1 al1 F1 H1 e1 W1
  · cases b with
    | false => exact g.mono _ _ _ _ w q1
    | true => exact w _ _ q1
theorem DW.dt (h : DW X a ta) : DT X a ta := ⟨PW.pt h.pw, h.mono⟩
theorem dt_not (h : DT X a ta) : DT X (.UnaryOp .Not a pos) (dNot ta) := by
  refine ⟨PT.of (pt_not h.pt) fun σ H Q ⟨ρ, M, al, F, G, W, es, q⟩ => ?_, fun ρ M Q Q' w q => h.mono _ _ _ _ (fun b M1 q1 => w _ _ q1) q⟩
  exact h.seq W es q fun d M1 al1 F1 H1 q1 e1 W1 s1 => q1 al1 F1 H1 e1 W1
/-- and, or, not as values: all but the last are bools -/
@[reducible] def dAndV (fa fb : DTE) : DTE := fun ρ M Q => fa ρ M fun d M1 => match d with
  | .bl true => fb ρ M1 Q
  | .bl false => Q (.bl false) M1
  | _ => False
@[reducible] def dOrV (fa fb : DTE) : DTE := fun ρ M Q => fa ρ M fun d M1 => match d with
  | .bl true => Q (.bl true) M1
  | .bl false => fb ρ M1 Q
  | _ => False
@[reducible] def dNotV (fa : DTE) : DTE := fun ρ M Q => fa ρ M fun d M1 => match d with
  | .bl b => Q (.bl (!b)) M1
  | _ => False
theorem d_one {op} (h : DE X a fa) : DE X (.BoolOp op [a] pos) fa := ⟨pe_one h.pe, h.mono⟩
theorem d_and (h : DE X a fa) (g : DE X (.BoolOp .And (b :: rest) pos) fb) : DE X (.BoolOp .And (a :: b :: rest) pos) (dAndV fa fb) := by
  refine ⟨PE.of (pe_and h.pe g.pe) fun σ H Q ⟨ρ, M, al, F, G, W, es, q⟩ => ?_, fun ρ M Q Q' w q => h.mono _ _ _ _ (fun d M1 q1 => ?_) q⟩
  · refine h.seq W es q fun d M1 al1 F1 H1 v q1 e1 W1 r1 s1 => ?_
    cases r1 with
    | bl b =>
      refine ⟨b, rfl, ?_⟩
      cases b with
      | true => exact ⟨ρ, M1, al1, F1, G, W1, s1, g.mono _ _ _ _ (fun b M2 k => k.ext e1) q1⟩
      | false => exact q1 al1 F1 H1 _ e1 W1 (.bl false)
    | _ => exact q1.elim
  · cases d with
    | bl b =>
      cases b with
      | true => exact g.mono _ _ _ _ w q1
      | false => exact w _ _ q1
    | _ => exact q1.elim
theorem d_or (h : DE X a fa) (g : DE X (.BoolOp .Or (b :: rest) pos) fb) : DE X (.BoolOp .Or (a :: b :: rest) pos) (dOrV fa fb) := by
  refine ⟨PE.of (pe_or h.pe g.pe) fun σ H Q ⟨ρ, M, al, F, G, W, es, q⟩ => ?_, fun ρ M Q Q' w q => h.mono _ _ _ _ (fun d M1 q1 => ?_) q⟩
  · refine h.seq W es q fun d M1 al1 F1 H1 v q1 e1 W1 r1 s1 => ?_
    cases r1 with
    | bl b =>
      refine ⟨b, rfl, ?_⟩
      cases b with
      | false => exact ⟨ρ, M1, al1, F1, G, W1, s1, g.mono _ _ _ _ (fun b M2 k => k.ext e1) q1⟩
      | true => exact q1 al1 F1 H1 _ e1 W1 (.bl true)
    | _ => exact q1.elim
  · cases d with
    | bl b =>
      cases b with
      | false => exact g.mono _ _ _ _ w q1
      | true => exact w _ _ q1
    | _ => exact q1.elim
theorem d_not (h : DE X a fa) : DE X (.UnaryOp .Not a pos) (dNotV fa) := by
  refine ⟨PE.of (pe_not h.pe) fun σ H Q ⟨ρ, M, al, F, G, W, es, q⟩ => ?_, fun ρ M Q Q' w q => h.mono _ _ _ _ (fun d M1 q1 => ?_) q⟩
  · refine h.seq W es q fun d M1 al1 F1 H1 v q1 e1 W1 r1 s1 => ?_
    cases r1 with
    | bl b => exact ⟨b, rfl, q1 al1 F1 H1 _ e1 W1 (.bl _)⟩
    | _ => exact q1.elim
  · cases d with
    | bl b => exact w _ _ q1
    | _ => exact q1.elim
@[reducible] def dIf (t : DTT) (fa fb : DTE) : DTE := fun ρ M Q => t ρ M fun b M1 => if b = true then fa ρ M1 Q else fb ρ M1 Q
theorem d_if (hc : DT X c ta) (ha : DE X a fa) (hb : DE X b fb) : DE X (.IfExp c a b pos) (dIf ta fa fb) := by
  refine ⟨PE.of (pe_ifExp hc.pt ha.pe hb.pe) fun σ H Q ⟨ρ, M, al, F, G, W, es, q⟩ => ?_, fun ρ M Q Q' w q => hc.mono _ _ _ _ (fun d M1 q1 => ?_) q⟩
  · refine hc.seq W es q fun d M1 al1 F1 H1 q1 e1 W1 s1 => ?_
    cases d with
    | true => exact ⟨ρ, M1, al1, F1, G, W1, s1, ha.mono _ _ _ _ (fun b M2 k => k.ext e1) q1⟩
    | false => exact ⟨ρ, M1, al1, F1, G, W1, s1, hb.mono _ _ _ _ (fun b M2 k => k.ext e1) q1⟩
  · cases d with
    | true => exact ha.mono _ _ _ _ w q1
    | false => exact hb.mono _ _ _ _ w q1
end

/-! ### statements -/
structure DEnds where
  nx : Dn → Sto → Prop
  rt : DK
  bk : Dn → Sto → Prop := fun _ _ => False
  ct : Dn → Sto → Prop := fun _ _ => False
structure DEnds.Le (D D' : DEnds) : Prop where
  nx : ∀ ρ M, D.nx ρ M → D'.nx ρ M
  rt : ∀ d M, D.rt d M → D'.rt d M
  bk : ∀ ρ M, D.bk ρ M → D'.bk ρ M
  ct : ∀ ρ M, D.ct ρ M → D'.ct ρ M
abbrev DTS := DEnds → Dn → Sto → Prop
def kN (K : PySem.W.Frag) (al : List Addr) (F G : Hp) (x : DXS) (Q : L2.St → Hp → Prop) : Dn → Sto → Prop := fun ρ M' => ∀ al' F' H' σ', Ext al F al' F' → Wd K al' F' G H' M' → Sl K F' al' σ' ρ.v → ρ.x = x → Q σ' H'
theorem kN.ext {K : PySem.W.Frag} {al al1 : List Addr} {F F1 G : Hp} {x : DXS} {Q : L2.St → Hp → Prop} {ρ : Dn} {M : Sto} (h : kN K al F G x Q ρ M) (e : Ext al F al1 F1) : kN K al1 F1 G x Q ρ M :=
  fun al' F' H' σ' e' W s q => h al' F' H' σ' (e.trans e') W s q
def kontS (K : PySem.W.Frag) (al : List Addr) (F G : Hp) (x : DXS) (E : Ends) : DEnds := ⟨kN K al F G x E.nx, kont K al F G E.rt, kN K al F G x E.bk, kN K al F G x E.ct⟩
theorem kontS_ext {K : PySem.W.Frag} {al al1 : List Addr} {F F1 G : Hp} {x : DXS} {E : Ends} (e : Ext al F al1 F1) : (kontS K al F G x E).Le (kontS K al1 F1 G x E) :=
  ⟨fun _ _ h => kN.ext h e, fun _ _ h => kont.ext h e, fun _ _ h => kN.ext h e, fun _ _ h => kN.ext h e⟩
def LiftS (X : Cx) (f : DTS) : TS := fun E σ H => ∃ ρ M al F G, Wd X.K al F G H M ∧ Es X F G al σ ρ ∧ f (kontS X.K al F G ρ.x E) ρ M
def MonoS (f : DTS) : Prop := ∀ (D D' : DEnds) ρ M, D.Le D' → f D ρ M → f D' ρ M
structure DS (X : Cx) (st : Stmt) (f : DTS) : Prop where
  ps : PS X st (LiftS X f)
  mono : MonoS f
structure DSs (X : Cx) (st : List Stmt) (f : DTS) : Prop where
  ps : PSs X st (LiftS X f)
  mono : MonoS f
theorem MonoS.up {f : DTS} (h : MonoS f) {D D' : DEnds} {ρ : Dn} {M : Sto} (q : f D ρ M) (w : D.Le D') : f D' ρ M := h D D' ρ M w q
section
variable {X : Cx} {a b c : Expr} {fa fb fc : DTE} {pos : Pos} {ta tb : DTT} {st : Stmt} {sts : List Stmt} {f g : DTS}
@[reducible] def dNext : DTS := fun D ρ M => D.nx ρ M
@[reducible] def dSeq (f g : DTS) : DTS := fun D ρ M => f { D with nx := g D } ρ M
theorem ds_nil : DSs X [] dNext := ⟨PSs.of pss_nil fun E σ H ⟨ρ, M, al, F, G, W, es, q⟩ => q al F H σ (Ext.refl _ _) W es.sl rfl, fun _ _ _ _ w q => w.nx _ _ q⟩
theorem ds_pass : DS X (.Pass pos) dNext := ⟨PS.of ps_pass fun E σ H ⟨ρ, M, al, F, G, W, es, q⟩ => q al F H σ (Ext.refl _ _) W es.sl rfl, fun _ _ _ _ w q => w.nx _ _ q⟩
@[reducible] def dBreak : DTS := fun D ρ M => D.bk ρ M
@[reducible] def dCont : DTS := fun D ρ M => D.ct ρ M
theorem ds_break : DS X (.Break pos) dBreak := ⟨PS.of ps_break fun E σ H ⟨ρ, M, al, F, G, W, es, q⟩ => q al F H σ (Ext.refl _ _) W es.sl rfl, fun _ _ _ _ w q => w.bk _ _ q⟩
theorem ds_continue : DS X (.Continue pos) dCont := ⟨PS.of ps_continue fun E σ H ⟨ρ, M, al, F, G, W, es, q⟩ => q al F H σ (Ext.refl _ _) W es.sl rfl, fun _ _ _ _ w q => w.ct _ _ q⟩
theorem ds_cons (h1 : DS X st f) (h2 : DSs X sts g) : DSs X (st :: sts) (dSeq f g) := by
  refine ⟨PSs.of (pss_cons h1.ps h2.ps) fun E σ H ⟨ρ, M, al, F, G, W, es, q⟩ => ?_, fun D D' ρ M w q => h1.mono { D with nx := g D } _ _ _ ⟨fun ρ M q => h2.mono _ _ _ _ w q, w.rt, w.bk, w.ct⟩ q⟩
  refine ⟨ρ, M, al, F, G, W, es, MonoS.up h1.mono (show f { kontS X.K al F G ρ.x E with nx := g (kontS X.K al F G ρ.x E) } ρ M from q) ⟨fun ρ1 M1 q1 al1 F1 H1 σ1 e1 W1 s1 x1 => ?_, fun _ _ z => z, fun _ _ z => z, fun _ _ z => z⟩⟩
  exact ⟨ρ1, M1, al1, F1, G, W1, es.of e1 s1 x1, by rw [x1]; exact MonoS.up h2.mono q1 (kontS_ext e1)⟩
theorem ds_one (h1 : DS X st f) : DSs X [st] f := ⟨pss_one h1.ps, h1.mono⟩
@[reducible] def dDrop (fa : DTE) : DTS := fun D ρ M => fa ρ M fun _ M1 => D.nx ρ M1
theorem ds_expr (h : DE X a fa) (hs : swapsWith a none pos.line X.env = pure false := by rfl) : DS X (.Expr a pos) (dDrop fa) := by
  refine ⟨PS.of (ps_expr h.pe hs) fun E σ H ⟨ρ, M, al, F, G, W, es, q⟩ => ?_, fun D D' ρ M w q => h.mono _ _ _ _ (fun d M1 q1 => w.nx _ _ q1) q⟩
  exact h.seq W es q fun d M1 al1 F1 H1 v q1 e1 W1 r1 s1 => q1 al1 F1 H1 σ e1 W1 s1.sl rfl
@[reducible] def dRet (fa : DTE) : DTS := fun D ρ M => fa ρ M D.rt
theorem ds_ret (h : DE X a fa) : DS X (.Return (some a) pos) (dRet fa) := by
  refine ⟨PS.of (ps_ret h.pe) fun E σ H ⟨ρ, M, al, F, G, W, es, q⟩ => ⟨ρ, M, al, F, G, W, es, q⟩, fun D D' ρ M w q => h.mono _ _ _ _ (fun d M1 q1 => w.rt _ _ q1) q⟩
@[reducible] def dRetN : DTS := fun D _ M => D.rt .non M
theorem ds_retN : DS X (.Return none pos) dRetN := ⟨PS.of ps_retN fun E σ H ⟨ρ, M, al, F, G, W, es, q⟩ => q al F H _ (Ext.refl _ _) W .non, fun _ _ _ _ w q => w.rt _ _ q⟩
@[reducible] def dIfS (t : DTT) (f g : DTS) : DTS := fun D ρ M => t ρ M fun b M1 => if b = true then f D ρ M1 else g D ρ M1
theorem ds_if {yes no : List Stmt} (hc : DT X c ta) (ha : DSs X yes f) (hb : DSs X no g) : DS X (.If c yes no pos) (dIfS ta f g) := by
  refine ⟨PS.of (ps_if hc.pt ha.ps hb.ps) fun E σ H ⟨ρ, M, al, F, G, W, es, q⟩ => ?_, fun D D' ρ M w q => hc.mono _ _ _ _ (fun d M1 q1 => ?_) q⟩
  · refine hc.seq W es q fun d M1 al1 F1 H1 q1 e1 W1 s1 => ?_
    cases d with
    | true => exact ⟨ρ, M1, al1, F1, G, W1, s1, ha.mono _ _ _ _ (kontS_ext e1) q1⟩
    | false => exact ⟨ρ, M1, al1, F1, G, W1, s1, hb.mono _ _ _ _ (kontS_ext e1) q1⟩
  · cases d with
    | true => exact ha.mono _ _ _ _ w q1
    | false => exact hb.mono _ _ _ _ w q1

/-! ### targets: js, the slots that change -/
def Off (js : List Nat) (σ σ' : L2.St) : Prop := σ'.length = σ.length ∧ ∀ i, i ∉ js → σ'[i]? = σ[i]?
abbrev DTG := D → Dn → Sto → (Dn → Sto → Prop) → Prop
abbrev DTGs := List D → Dn → Sto → (Dn → Sto → Prop) → Prop
def LiftG (X : Cx) (f : DTG) (js : List Nat) : TG := fun v σ H Q => ∃ d ρ M al F G, Wd X.K al F G H M ∧ Es X F G al σ ρ ∧ Rp X.K F al v d ∧
  f d ρ M (fun ρ' M' => ∀ al' F' H' σ', Ext al F al' F' → Wd X.K al' F' G H' M' → Sl X.K F' al' σ' ρ'.v → ρ'.x = ρ.x → Off js σ σ' → Q σ' H')
def LiftGs (X : Cx) (f : DTGs) (js : List Nat) : TGs := fun vs σ H Q => ∃ ds ρ M al F G, Wd X.K al F G H M ∧ Es X F G al σ ρ ∧ Rps X.K F al vs ds ∧
  f ds ρ M (fun ρ' M' => ∀ al' F' H' σ', Ext al F al' F' → Wd X.K al' F' G H' M' → Sl X.K F' al' σ' ρ'.v → ρ'.x = ρ.x → Off js σ σ' → Q σ' H')
def MonoG (f : DTG) : Prop := ∀ d ρ M (Q Q' : Dn → Sto → Prop), (∀ ρ M, Q ρ M → Q' ρ M) → f d ρ M Q → f d ρ M Q'
def MonoGs (f : DTGs) : Prop := ∀ d ρ M (Q Q' : Dn → Sto → Prop), (∀ ρ M, Q ρ M → Q' ρ M) → f d ρ M Q → f d ρ M Q'
structure DG (X : Cx) (tg : Expr) (f : DTG) (js : List Nat) : Prop where
  pg : PG X tg (LiftG X f js)
  mono : MonoG f
structure DGs (X : Cx) (tg : List Expr) (f : DTGs) (js : List Nat) : Prop where
  pg : PGs X tg (LiftGs X f js)
  mono : MonoGs f
theorem PG.of {e : Expr} {t t' : TG} (h : PG X e t) (w : ∀ v σ H Q, t' v σ H Q → t v σ H Q) : PG X e t' := ⟨fun pins s σ H v u Q I r q => h.run pins s σ H v u Q I r (w v σ H Q q)⟩
theorem PGs.of {e : List Expr} {t t' : TGs} (h : PGs X e t) (w : ∀ v σ H Q, t' v σ H Q → t v σ H Q) : PGs X e t' := ⟨fun pins s σ H v u Q I r q => h.run pins s σ H v u Q I r (w v σ H Q q)⟩
theorem Off.refl (js : List Nat) (σ : L2.St) : Off js σ σ := ⟨rfl, fun _ _ => rfl⟩
theorem Off.trans {js ks : List Nat} {σ σ1 σ2 : L2.St} (a : Off js σ σ1) (b : Off ks σ1 σ2) : Off (js ++ ks) σ σ2 :=
  ⟨b.1.trans a.1, fun i hi => by
    rw [List.mem_append, not_or] at hi
    exact (b.2 i hi.2).trans (a.2 i hi.1)⟩
theorem Off.set (σ : L2.St) (i : Nat) (v : Option V) : Off [i] σ (σ.set i v) := ⟨List.length_set, fun j hj => by
  rw [List.getElem?_set_ne]
  intro z
  exact hj (by simp [z])⟩
@[reducible] def dgName (i : Nat) : DTG := fun d ρ M Q => Q ⟨ρ.v.set i (some d), ρ.x⟩ M
@[reducible] def dgNil : DTGs := fun ds ρ M Q => match ds with
  | [] => Q ρ M
  | _ => False
@[reducible] def dgCons (f : DTG) (g : DTGs) : DTGs := fun ds ρ M Q => match ds with
  | d :: r => f d ρ M fun ρ1 M1 => g r ρ1 M1 Q
  | [] => False
@[reducible] def dgTup (n : Nat) (g : DTGs) : DTG := fun d ρ M Q => match d with
  | .tup ds => ds.length = n ∧ g ds ρ M Q
  | _ => False
theorem dg_name {i : Nat} {x : Str} (hN : X.N.Nodup) (hi : X.N[i]? = some x) (hx : Loc X.env.scope x) (hf : X.fn x = true ∨ X.env.scope.names.lookup x = some .local := by first | exact .inl rfl | exact .inr rfl | assumption) : DG X (.Name x pos) (dgName i) [i] := by
  refine ⟨PG.of (pg_name hN hi hx hf) fun v σ H Q ⟨d, ρ, M, al, F, G, W, es, r, q⟩ => ?_, fun d ρ M Q Q' w q => w _ _ q⟩
  exact q al F H _ (Ext.refl _ _) W (es.sl.set r i) rfl (Off.set σ i _)
theorem dgs_nil : DGs X [] dgNil [] := by
  refine ⟨PGs.of pgs_nil fun vs σ H Q ⟨ds, ρ, M, al, F, G, W, es, r, q⟩ => ?_, fun d ρ M Q Q' w q => ?_⟩
  · cases r with
    | nil => exact ⟨rfl, q al F H σ (Ext.refl _ _) W es.sl rfl (Off.refl _ _)⟩
    | cons a b => exact q.elim
  · cases d with
    | nil => exact w _ _ q
    | cons a b => exact q.elim

theorem dgs_cons {e : Expr} {es : List Expr} {f : DTG} {g : DTGs} {js ks : List Nat} (h1 : DG X e f js) (h2 : DGs X es g ks)
    (hs : (assignEach (e :: es) X.env).map (·.2) = assign e X.env :: (assignEach es X.env).map (·.2) := by rfl) : DGs X (e :: es) (dgCons f g) (js ++ ks) := by
  refine ⟨PGs.of (pgs_cons h1.pg h2.pg hs) fun vs σ H Q ⟨ds, ρ, M, al, F, G, W, es, r, q⟩ => ?_, fun d ρ M Q Q' w q => ?_⟩
  · cases r with
    | nil => exact q.elim
    | cons a b =>
      refine ⟨_, _, rfl, _, ρ, M, al, F, G, W, es, a, h1.mono _ _ _ _ _ (fun ρ1 M1 q1 al1 F1 H1 σ1 e1 W1 s1 x1 o1 => ?_) q⟩
      refine ⟨_, ρ1, M1, al1, F1, G, W1, es.of e1 s1 x1, b.ext e1, h2.mono _ _ _ _ _ (fun ρ2 M2 q2 al2 F2 H2 σ2 e2 W2 s2 x2 o2 => ?_) q1⟩
      exact q2 al2 F2 H2 σ2 (e1.trans e2) W2 s2 (x2.trans x1) (o1.trans o2)
  · cases d with
    | nil => exact q.elim
    | cons a b => exact h1.mono _ _ _ _ _ (fun ρ1 M1 q1 => h2.mono _ _ _ _ _ w q1) q
theorem dg_tup {es : List Expr} {k : Nat} {g : DTGs} {js : List Nat} {n : Nat} (hc : X.calm = true) (h : DGs X es g js)
    (hn : (assignEach es X.env).length = n := by rfl) (hst : (assignEach es X.env).findIdx? (·.1) = none := by rfl) : DG X (.Tuple es k pos) (dgTup n g) js := by
  refine ⟨PG.of (pg_tup hc h.pg hn hst) fun v σ H Q ⟨d, ρ, M, al, F, G, W, es, r, q⟩ => ?_, fun d ρ M Q Q' w q => ?_⟩
  · cases r with
    | tup a b => exact ⟨_, _, rfl, SqT.of (W.sm _ _ a), b.length.trans q.1, _, ρ, M, al, F, G, W, es, b, q.2⟩
    | _ => exact q.elim
  · cases d with
    | tup ds => exact ⟨q.1, h.mono _ _ _ _ _ w q.2⟩
    | _ => exact q.elim
@[reducible] def dAsg (fa : DTE) (g : DTG) : DTS := fun D ρ M => fa ρ M fun d M1 => g d ρ M1 D.nx
theorem dAsg_mono {tg : Expr} {g : DTG} {js : List Nat} (h : DE X a fa) (hg : DG X tg g js) : MonoS (dAsg fa g) := fun D D' ρ M w q => h.mono _ _ _ _ (fun d M1 q1 => hg.mono _ _ _ _ _ (fun ρ M q => w.nx ρ M q) q1) q
theorem asg_ok {tg : Expr} {g : DTG} {js : List Nat} (h : DE X a fa) (hg : DG X tg g js) {E : Ends} {σ : L2.St} {H : Hp} (q : LiftS X (dAsg fa g) E σ H) : tAsg (Lift X fa) (LiftG X g js) E σ H := by
  obtain ⟨ρ, M, al, F, G, W, es, q⟩ := q
  refine h.seq W es q fun d M1 al1 F1 H1 v q1 e1 W1 r1 s1 => ?_
  exact ⟨d, ρ, M1, al1, F1, G, W1, s1, r1, hg.mono _ _ _ _ _ (fun ρ2 M2 q2 al2 F2 H2 σ2 e2 W2 s2 x2 _ => q2 al2 F2 H2 σ2 (e1.trans e2) W2 s2 x2) q1⟩
theorem ds_asg {tg : Expr} {g : DTG} {js : List Nat} (h : DE X a fa) (hg : DG X tg g js) (hs : swapsWithSole [tg] a pos.line X.env = pure false := by rfl) (hw : swappedStores [tg] a X.env = pure none := by rfl) (h1 : (assignEach [tg] X.env).map (·.2) = [assign tg X.env] := by rfl) : DS X (.Assign [tg] a pos) (dAsg fa g) :=
  ⟨PS.of (ps_asg h.pe hg.pg hs hw h1) fun E σ H q => asg_ok h hg q, dAsg_mono h hg⟩
theorem ds_set {i : Nat} {x : Str} {pos' : Pos} (hN : X.N.Nodup) (hi : X.N[i]? = some x) (hx : Loc X.env.scope x) (h : DE X a fa) (hs : swapsWith a (some (.Name x pos')) pos.line X.env = pure false := by rfl) (hf : X.fn x = true ∨ X.env.scope.names.lookup x = some .local := by first | exact .inl rfl | exact .inr rfl | assumption) :
    DS X (.Assign [.Name x pos'] a pos) (dAsg fa (dgName i)) := by
  refine ⟨PS.of (ps_set hN hi hx h.pe hs hf) fun E σ H ⟨ρ, M, al, F, G, W, es, q⟩ => ?_, dAsg_mono h (dg_name (pos := pos') hN hi hx hf)⟩
  exact h.seq W es q fun d M1 al1 F1 H1 v q1 e1 W1 r1 s1 => q1 al1 F1 H1 _ e1 W1 (s1.sl.set r1 i) rfl
@[reducible] def dPar (i j : Nat) (fa : DTA) : DTS := fun D ρ M => fa ρ M fun ds M1 => match ds with
  | [d, e] => D.nx ⟨(ρ.v.set i (some d)).set j (some e), ρ.x⟩ M1
  | _ => False
theorem ds_par {i j : Nat} {x y : Str} {fr : DTA} {px py pt : Pos} {kt k2 : Nat} {pt2 : Pos} (hc : X.calm = true) (hN : X.N.Nodup) (hi : X.N[i]? = some x) (hj : X.N[j]? = some y) (hij : i ≠ j) (hx : X.env.scope.names.lookup x = some .local) (hy : X.env.scope.names.lookup y = some .local) (ha : DA X [a, b] fr)
    (ps : ∀ {ta : TA}, PA X [a, b] ta → PS X (.Assign [.Tuple [.Name x px, .Name y py] kt pt] (.Tuple [a, b] k2 pt2) pos) (tPar i j ta)) : DS X (.Assign [.Tuple [.Name x px, .Name y py] kt pt] (.Tuple [a, b] k2 pt2) pos) (dPar i j fr) := by
  refine ⟨PS.of (ps ha.pa) fun E σ H ⟨ρ, M, al, F, G, W, es, q⟩ => ?_, fun D D' ρ M w q => ha.mono _ _ _ _ (fun ds M1 q1 => ?_) q⟩
  · refine ha.seq W es q fun ds M1 al1 F1 H1 vs q1 e1 W1 r1 s1 => ?_
    match ds, r1, q1 with
    | [d, e], .cons r2 (.cons r3 .nil), q1 => exact ⟨_, _, rfl, q1 al1 F1 H1 _ e1 W1 ((s1.sl.set r2 i).set r3 j) rfl⟩
  · match ds, q1 with
    | [d, e], q1 => exact w.nx _ _ q1

/-! ### what a loop walks: items ds, while st holds of the store -/
abbrev DTI := Dn → Sto → (List D → (Sto → Prop) → Sto → Prop) → Prop
def ItOk (K : PySem.W.Frag) (J : It) (ds : List D) (st : Sto → Prop) (al : List Addr) (F G : Hp) : Prop := ∀ al' F' G' H' M', Ext al F al' F' → Sm G G' → Wd K al' F' G' H' M' → st M' → ∀ i : Nat,
  (∀ d, ds[i]? = some d → J.go i H' ∧ ∀ x H'', J.yld i H' x H'' → ∃ F'', Sm F' F'' ∧ Wd K al' F'' G' H'' M' ∧ Rp K F'' al' x d) ∧ (ds.length ≤ i → J.stop i H')
theorem ItOk.ext {K : PySem.W.Frag} {J : It} {ds : List D} {st : Sto → Prop} {al al1 : List Addr} {F F1 G : Hp} (h : ItOk K J ds st al F G) (e : Ext al F al1 F1) : ItOk K J ds st al1 F1 G :=
  fun al' F' G' H' M' e' => h al' F' G' H' M' (e.trans e')
def LiftI (X : Cx) (f : DTI) : TI := fun σ H R => ∃ ρ M al F G, Wd X.K al F G H M ∧ Es X F G al σ ρ ∧ f ρ M (fun ds st M' => ∀ al' F' H' J, Ext al F al' F' → Wd X.K al' F' G H' M' → ItOk X.K J ds st al' F' G → R J H')
structure DI (X : Cx) (tg iter : Expr) (f : DTI) : Prop where
  pi : PI X tg iter (LiftI X f)
  mono : ∀ ρ M (Q Q' : List D → (Sto → Prop) → Sto → Prop), (∀ ds st M, Q ds st M → Q' ds st M) → f ρ M Q → f ρ M Q'
theorem PI.of {tg e : Expr} {t t' : TI} (h : PI X tg e t) (w : ∀ σ H Q, t' σ H Q → t σ H Q) : PI X tg e t' := ⟨fun pins s σ H R I q => h.run pins s σ H R I (w σ H R q)⟩
def forGo (st : Sto → Prop) (g : DTG) (body : DTS) : List D → DTS
  | [], E, ρ, M => st M ∧ E.nx ρ M
  | d :: ds, E, ρ, M => st M ∧ g d ρ M fun ρ1 M1 => body { nx := fun ρ2 M2 => forGo st g body ds E ρ2 M2, rt := E.rt, bk := E.nx, ct := fun ρ2 M2 => forGo st g body ds E ρ2 M2 } ρ1 M1
@[reducible] def dFor (fi : DTI) (g : DTG) (body : DTS) : DTS := fun E ρ M => fi ρ M fun ds st M1 => forGo st g body ds E ρ M1
theorem forGo_mono {st : Sto → Prop} {g : DTG} {body : DTS} (hg : MonoG g) (hb : MonoS body) : ∀ ds, MonoS (forGo st g body ds)
  | [], D, D', ρ, M, w, q => ⟨q.1, w.nx _ _ q.2⟩
  | d :: ds, D, D', ρ, M, w, q => by
    refine ⟨q.1, hg _ _ _ _ _ (fun ρ1 M1 q1 => ?_) q.2⟩
    refine MonoS.up hb (D := { nx := fun ρ2 M2 => forGo st g body ds D ρ2 M2, rt := D.rt, bk := D.nx, ct := fun ρ2 M2 => forGo st g body ds D ρ2 M2 }) q1 ⟨fun ρ2 M2 q2 => ?_, w.rt, w.nx, fun ρ2 M2 q2 => ?_⟩
    · exact forGo_mono hg hb ds D D' ρ2 M2 w q2
    · exact forGo_mono hg hb ds D D' ρ2 M2 w q2
theorem ds_for {tg iter : Expr} {body : List Stmt} {fi : DTI} {g : DTG} {js : List Nat} {f : DTS} (hp : PassesOwn (model X.prog X.w) X.A X.env X.xe) (hc : X.calm = true) (hi : DI X tg iter fi) (hg : DG X tg g js) (hb : DSs X body f)
    (hfs : ∀ x : Value, foldedSetIterable iter X.env x = pure x := by intro _; rfl) : DS X (.For tg iter body [] pos) (dFor fi g f) := by
  refine ⟨PS.of (ps_for hp hc hi.pi hg.pg hb.ps hfs) fun E σ H ⟨ρ, M, al, F, G, W, es, q⟩ => ?_, fun D D' ρ M w q => hi.mono _ _ _ _ (fun ds st M1 q1 => forGo_mono hg.mono hb.mono ds D D' ρ M1 w q1) q⟩
  refine ⟨ρ, M, al, F, G, W, es, hi.mono _ _ _ _ (fun ds st M1 q1 al1 F1 H1 J e1 W1 ok => ?_) q⟩
  refine ⟨fun i m σ' H' => ∃ ρ' M' al' F', i + m = ds.length ∧ Ext al1 F1 al' F' ∧ Wd X.K al' F' G H' M' ∧ Es X F' G al' σ' ρ' ∧ ρ'.x = ρ.x ∧ forGo st g f (ds.drop i) (kontS X.K al' F' G ρ.x E) ρ' M',
    ⟨ds.length, ρ, M1, al1, F1, by omega, Ext.refl _ _, W1, es.ext e1, rfl, forGo_mono hg.mono hb.mono _ _ _ _ _ (kontS_ext e1) q1⟩, ?_⟩
  rintro i m σ' H' ⟨ρ', M', al', F', em, e', W', s', x', q'⟩
  by_cases hil : i < ds.length
  · rw [List.drop_eq_getElem_cons hil] at q'
    obtain ⟨hst, q'⟩ := q'
    obtain ⟨go, yl⟩ := (ok al' F' G H' M' e' (Sm.refl G) W' hst i).1 ds[i] (List.getElem?_eq_getElem hil)
    refine .inr ⟨go, fun σ2 H2 => ∃ ρ2 M2 al2 F2, Ext al1 F1 al2 F2 ∧ Wd X.K al2 F2 G H2 M2 ∧ Es X F2 G al2 σ2 ρ2 ∧ ρ2.x = ρ.x ∧ forGo st g f (ds.drop (i + 1)) (kontS X.K al2 F2 G ρ.x E) ρ2 M2, ?_, fun x H2 hy => ?_⟩
    · rintro σ2 H2 ⟨ρ2, M2, al2, F2, e2, W2, s2, x2, q2⟩
      exact ⟨m - 1, by omega, ρ2, M2, al2, F2, by omega, e2, W2, s2, x2, q2⟩
    · obtain ⟨F2, sm2, W2, r2⟩ := yl x H2 hy
      have e2 : Ext al' F' al' F2 := ⟨⟨[], by simp⟩, sm2⟩
      refine ⟨ds[i], ρ', M', al', F2, G, W2, s'.ext e2, r2, hg.mono _ _ _ _ _ (fun ρ3 M3 q3 al3 F3 H3 σ3 e3 W3 s3 x3 o3 => ?_) q'⟩
      have s3' := s'.of (e2.trans e3) s3 x3
      rw [x'] at x3
      refine ⟨ρ3, M3, al3, F3, G, W3, s3', ?_⟩
      rw [x3]
      refine MonoS.up hb.mono q3 ⟨fun ρ4 M4 q4 al4 F4 H4 σ4 e4 W4 s4 x4 => ?_, fun d M4 q4 => kont.ext q4 (e2.trans e3), fun ρ4 M4 q4 => kN.ext q4 (e2.trans e3), fun ρ4 M4 q4 al4 F4 H4 σ4 e4 W4 s4 x4 => ?_⟩
      · exact ⟨ρ4, M4, al4, F4, e'.trans (e2.trans (e3.trans e4)), W4, s3'.of e4 s4 (x4.trans x3.symm), x4, forGo_mono hg.mono hb.mono _ _ _ _ _ (kontS_ext (e2.trans (e3.trans e4))) q4⟩
      · exact ⟨ρ4, M4, al4, F4, e'.trans (e2.trans (e3.trans e4)), W4, s3'.of e4 s4 (x4.trans x3.symm), x4, forGo_mono hg.mono hb.mono _ _ _ _ _ (kontS_ext (e2.trans (e3.trans e4))) q4⟩
  · rw [List.drop_eq_nil_of_le (by omega)] at q'
    exact .inl ⟨(ok al' F' G H' M' e' (Sm.refl G) W' q'.1 i).2 (by omega), q'.2 al' F' H' σ' (Ext.refl _ _) W' s'.sl x'⟩

/-! ### comprehensions -/
def wipeD (ρ : List (Option D)) : List Nat → List (Option D)
  | [] => ρ
  | v :: vs => (wipeD ρ vs).set v none
theorem wipeD_length (ρ : List (Option D)) : ∀ vs : List Nat, (wipeD ρ vs).length = ρ.length
  | [] => rfl
  | v :: vs => by unfold wipeD; rw [List.length_set, wipeD_length ρ vs]
theorem wipeD_some {ρ : List (Option D)} {i : Nat} {d : D} : ∀ {vs : List Nat}, (wipeD ρ vs)[i]? = some (some d) → ρ[i]? = some (some d) ∧ i ∉ vs
  | [], h => ⟨h, by simp⟩
  | v :: vs, h => by
    unfold wipeD at h
    by_cases hi : v = i
    · subst hi
      by_cases hv : v < (wipeD ρ vs).length
      · rw [List.getElem?_set_self hv] at h; cases h
      · rw [List.getElem?_eq_none (by simpa using hv)] at h; cases h
    · rw [List.getElem?_set_ne hi] at h
      obtain ⟨h1, h2⟩ := wipeD_some h
      exact ⟨h1, by simp only [List.mem_cons, not_or]; exact ⟨fun e => hi e.symm, h2⟩⟩
theorem wipe_get {σ : L2.St} {i : Nat} : ∀ {vs : List Nat}, i ∉ vs → (wipe σ vs)[i]? = σ[i]?
  | [], _ => rfl
  | v :: vs, h => by
    rw [List.mem_cons, not_or] at h
    unfold wipe
    rw [List.getElem?_set_ne (Ne.symm h.1), wipe_get h.2]
theorem wipe_off {σ : L2.St} {i : Nat} (hl : i < σ.length) : ∀ {vs : List Nat}, i ∈ vs → (wipe σ vs)[i]? = some none
  | v :: vs, h => by
    unfold wipe
    by_cases hi : v = i
    · subst hi
      rw [List.getElem?_set_self (by rw [wipe_length]; exact hl)]
    · rw [List.getElem?_set_ne hi]
      refine wipe_off hl ?_
      rcases List.mem_cons.mp h with z | z
      · exact absurd z.symm hi
      · exact z
theorem wipe_eq {σ σ' : L2.St} {js vs : List Nat} (o : Off js σ σ') (h : ∀ j ∈ js, j ∈ vs) : wipe σ' vs = wipe σ vs := by
  apply List.ext_getElem?
  intro i
  by_cases hi : i ∈ vs
  · by_cases hl : i < σ.length
    · rw [wipe_off hl hi, wipe_off (by rw [o.1]; exact hl) hi]
    · have h1 := o.1; rw [List.getElem?_eq_none (by rw [wipe_length]; omega), List.getElem?_eq_none (by rw [wipe_length]; omega)]
  · rw [wipe_get hi, wipe_get hi]
    exact o.2 i fun z => hi (h i z)
theorem wipe_wipe {σ : L2.St} {vs : List Nat} : wipe (wipe σ vs) vs = wipe σ vs := by
  apply List.ext_getElem?
  intro i
  by_cases hi : i ∈ vs
  · by_cases hl : i < σ.length
    · rw [wipe_off hl hi, wipe_off (by rw [wipe_length]; exact hl) hi]
    · rw [List.getElem?_eq_none (by rw [wipe_length, wipe_length]; omega), List.getElem?_eq_none (by rw [wipe_length]; omega)]
  · rw [wipe_get hi]
theorem Sl.wipe {K : PySem.W.Frag} {F : Hp} {al : List Addr} {σ : L2.St} {ρ : List (Option D)} (h : Sl K F al σ ρ) (vs : List Nat) : Sl K F al (L2.wipe σ vs) (wipeD ρ vs) := by
  refine ⟨by rw [wipe_length, wipeD_length]; exact h.len, fun i d q => ?_⟩
  obtain ⟨q1, q2⟩ := wipeD_some q
  obtain ⟨v, h1, h2⟩ := h.get i d q1
  exact ⟨v, by rw [wipe_get q2]; exact h1, h2⟩
/-- the inner readings, without exceptions: one for all surroundings -/
def LiftN (K : PySem.W.Frag) (f : DTE) : TE := fun σ H Q => ∃ ρ M al F G, Wd K al F G H M ∧ Sl K F al σ ρ.v ∧ ρ.x = noX ∧ f ρ M (kont K al F G Q)
def LiftTN (K : PySem.W.Frag) (f : DTT) : TT := fun σ H Q => ∃ ρ M al F G, Wd K al F G H M ∧ Sl K F al σ ρ.v ∧ ρ.x = noX ∧ f ρ M (kontB K al F G Q)
def LiftGN (K : PySem.W.Frag) (f : DTG) (js : List Nat) : TG := fun v σ H Q => ∃ d ρ M al F G, Wd K al F G H M ∧ Sl K F al σ ρ.v ∧ ρ.x = noX ∧ Rp K F al v d ∧
  f d ρ M (fun ρ' M' => ∀ al' F' H' σ', Ext al F al' F' → Wd K al' F' G H' M' → Sl K F' al' σ' ρ'.v → ρ'.x = noX → Off js σ σ' → Q σ' H')
theorem LiftN.of {Y : Cx} {f : DTE} {σ : L2.St} {H : Hp} {Q : VK} (h : LiftN Y.K f σ H Q) : Lift Y f σ H Q := by
  obtain ⟨ρ, M, al, F, G, W, s, x, q⟩ := h
  exact ⟨ρ, M, al, F, G, W, Es.none s x, q⟩
theorem LiftTN.of {Y : Cx} {f : DTT} {σ : L2.St} {H : Hp} {Q : Bool → Hp → Prop} (h : LiftTN Y.K f σ H Q) : LiftT Y f σ H Q := by
  obtain ⟨ρ, M, al, F, G, W, s, x, q⟩ := h
  exact ⟨ρ, M, al, F, G, W, Es.none s x, q⟩
theorem LiftGN.of {Y : Cx} {f : DTG} {js : List Nat} (m : MonoG f) {v : V} {σ : L2.St} {H : Hp} {Q : L2.St → Hp → Prop} (h : LiftGN Y.K f js v σ H Q) : LiftG Y f js v σ H Q := by
  obtain ⟨d, ρ, M, al, F, G, W, s, x, r, q⟩ := h
  exact ⟨d, ρ, M, al, F, G, W, Es.none s x, r, m _ _ _ _ _ (fun ρ' M' k al' F' H' σ' e W' s' x' o => k al' F' H' σ' e W' s' (x'.trans x) o) q⟩
/-- one turn: the item bound, the tests, the element -/
@[reducible] def lcStep (ρ : Dn) (vs : List Nat) (g : DTG) (t : DTT) (fe : DTE) (d : D) (M : Sto) (k : Option D → Sto → Prop) : Prop :=
  g d ⟨wipeD ρ.v vs, noX⟩ M fun ρ2 M2 => t ρ2 M2 fun b M3 => if b = true then fe ρ2 M3 (fun y M4 => k (some y) M4) else k none M3
def lcGo (st : Sto → Prop) (step : D → Sto → (Option D → Sto → Prop) → Prop) : List D → List D → Sto → (List D → Sto → Prop) → Prop
  | [], acc, M, Q => st M ∧ Q acc M
  | d :: ds, acc, M, Q => st M ∧ step d M fun o M1 => match o with
    | some y => acc.length < 100000 ∧ lcGo st step ds (acc ++ [y]) M1 Q
    | none => lcGo st step ds acc M1 Q
@[reducible] def dLc (fi : DTI) (g : DTG) (t : DTT) (fe : DTE) (vs : List Nat) : DTE := fun ρ M Q => fi ρ M fun ds st M1 => lcGo st (lcStep ρ vs g t fe) ds [] M1 fun acc M2 => Q (.lst acc) M2
theorem lcStep_mono {ρ : Dn} {vs : List Nat} {g : DTG} {t : DTT} {fe : DTE} (hg : MonoG g) (ht : ∀ ρ M (Q Q' : Bool → Sto → Prop), (∀ d M, Q d M → Q' d M) → t ρ M Q → t ρ M Q') (he : ∀ ρ M (Q Q' : DK), (∀ d M, Q d M → Q' d M) → fe ρ M Q → fe ρ M Q')
    (d : D) (M : Sto) (k k' : Option D → Sto → Prop) (w : ∀ o M, k o M → k' o M) (q : lcStep ρ vs g t fe d M k) : lcStep ρ vs g t fe d M k' :=
  hg _ _ _ _ _ (fun ρ2 M2 q2 => ht _ _ _ _ (fun b M3 q3 => by
    cases b with
    | true => exact he _ _ _ _ (fun y M4 q4 => w _ _ q4) q3
    | false => exact w _ _ q3) q2) q
theorem lcGo_mono {st : Sto → Prop} {step : D → Sto → (Option D → Sto → Prop) → Prop} (hs : ∀ (d : D) (M : Sto) (k k' : Option D → Sto → Prop), (∀ o M, k o M → k' o M) → step d M k → step d M k') (Q Q' : List D → Sto → Prop) (w : ∀ a M, Q a M → Q' a M) :
    ∀ (ds acc : List D) (M : Sto), lcGo st step ds acc M Q → lcGo st step ds acc M Q'
  | [], acc, M, q => ⟨q.1, w _ _ q.2⟩
  | d :: ds, acc, M, q => ⟨q.1, hs _ _ _ _ (fun o M1 q1 => by
    cases o with
    | none => exact lcGo_mono hs Q Q' w ds acc M1 q1
    | some y => exact ⟨q1.1, lcGo_mono hs Q Q' w ds _ M1 q1.2⟩) q.2⟩
theorem PTs.of {ifs : List Expr} {t t' : TT} (h : PTs X ifs t) (w : ∀ σ H Q, t' σ H Q → t σ H Q) : PTs X ifs t' := ⟨fun pins s σ H Q I q => h.run pins s σ H Q I (w σ H Q q)⟩
abbrev DTTs (X : Cx) (ifs : List Expr) (t : DTT) : Prop := PTs X ifs (LiftT X t) ∧ ∀ ρ M (Q Q' : Bool → Sto → Prop), (∀ d M, Q d M → Q' d M) → t ρ M Q → t ρ M Q'
@[reducible] def dYes : DTT := fun _ M Q => Q true M
theorem dts_nil : DTTs X [] dYes := ⟨⟨fun pins s σ H Q I h => by
  obtain ⟨ρ, M, al, F, G, W, es, q⟩ := h
  exact pts_nil.run pins s σ H Q I (q al F H (Ext.refl _ _) W)⟩, fun _ _ _ _ w q => w _ _ q⟩
theorem dts_one {t : DTT} (h : DT X c t) : DTTs X [c] t := ⟨pts_one h.pt, h.mono⟩
theorem lc_ok {Y : Cx} {wi : DTI} {g : DTG} {t : DTT} {fe : DTE} {vs js : List Nat} {σ : L2.St} {H : Hp} {Q : VK} (hi : ∀ ρ M (Q Q' : List D → (Sto → Prop) → Sto → Prop), (∀ ds st M, Q ds st M → Q' ds st M) → wi ρ M Q → wi ρ M Q')
    (hg : MonoG g) (ht : ∀ ρ M (Q Q' : Bool → Sto → Prop), (∀ d M, Q d M → Q' d M) → t ρ M Q → t ρ M Q') (he : ∀ ρ M (Q Q' : DK), (∀ d M, Q d M → Q' d M) → fe ρ M Q → fe ρ M Q') (hj : ∀ j ∈ js, j ∈ vs)
    (h : Lift Y (dLc wi g t fe vs) σ H Q) : tLc (LiftI Y wi) (LiftGN Y.K g js) (LiftTN Y.K t) (LiftN Y.K fe) vs σ H Q := by
  obtain ⟨ρ, M, al, F, G, W, es, q⟩ := h
  refine ⟨ρ, M, al, F, G, W, es, hi _ _ _ _ (fun ds st M1 q1 al1 F1 H1 J e1 W1 ok => ?_) q⟩
  intro Dd hD
  have hGD : G Dd = none := W1.sg.free hD
  refine ⟨fun i m H' => ∃ M' al' F' acc xs, i + m = ds.length ∧ Ext al1 F1 al' F' ∧ Wd Y.K al' F' (upd G Dd (.lst xs)) H' M' ∧ Rps Y.K F' al' xs acc ∧ lcGo st (lcStep ρ vs g t fe) (ds.drop i) acc M' (fun acc M2 => kont Y.K al F G Q (.lst acc) M2),
    ⟨ds.length, M1, al1, F1, [], [], by omega, Ext.refl _ _, W1.hide hD, .nil, q1⟩, ?_⟩
  rintro i m H' ⟨M', al', F', acc, xs, em, e', W', rs, q'⟩
  have smG : Sm G (upd G Dd (.lst xs)) := Sm.new hGD
  by_cases hil : i < ds.length
  · rw [List.drop_eq_getElem_cons hil] at q'
    obtain ⟨hst, q'⟩ := q'
    obtain ⟨go, yl⟩ := (ok al' F' _ H' M' e' smG W' hst i).1 ds[i] (List.getElem?_eq_getElem hil)
    refine .inr ⟨go, fun H2 => ∃ M2 al2 F2 acc2 xs2, Ext al1 F1 al2 F2 ∧ Wd Y.K al2 F2 (upd G Dd (.lst xs2)) H2 M2 ∧ Rps Y.K F2 al2 xs2 acc2 ∧ lcGo st (lcStep ρ vs g t fe) (ds.drop (i + 1)) acc2 M2 (fun acc M2 => kont Y.K al F G Q (.lst acc) M2), ?_, fun x H2 hy => ?_⟩
    · rintro H2 ⟨M2, al2, F2, acc2, xs2, e2, W2, r2, q2⟩
      exact ⟨m - 1, by omega, M2, al2, F2, acc2, xs2, by omega, e2, W2, r2, q2⟩
    · obtain ⟨F2, sm2, W2, r2⟩ := yl x H2 hy
      have e2 : Ext al' F' al' F2 := ⟨⟨[], by simp⟩, sm2⟩
      have esw : Sl Y.K F2 al' (wipe σ vs) (wipeD ρ.v vs) := (es.sl.ext (e1.trans (e'.trans e2))).wipe vs
      refine ⟨ds[i], ⟨wipeD ρ.v vs, noX⟩, M', al', F2, _, W2, esw, rfl, r2, hg _ _ _ _ _ (fun ρ3 M3 q3 al3 F3 H3 σ3 e3 W3 s3 x3 o3 => ?_) q'⟩
      refine ⟨(wipe_eq o3 hj).trans wipe_wipe, ρ3, M3, al3, F3, _, W3, s3, x3, ht _ _ _ _ (fun b M4 q4 al4 F4 H4 e4 W4 => ?_) q3⟩
      cases b with
      | false =>
        exact ⟨M4, al4, F4, acc, xs, e'.trans (e2.trans (e3.trans e4)), W4, rs.ext (e2.trans (e3.trans e4)), q4⟩
      | true =>
        refine ⟨ρ3, M4, al4, F4, _, W4, s3.ext e4, x3, he _ _ _ _ (fun y M5 q5 al5 F5 H5 v5 e5 W5 r5 => ?_) q4⟩
        have eA : Ext al' F' al5 F5 := e2.trans (e3.trans (e4.trans e5))
        have rl := rs.length
        refine ⟨xs, W5.sg _ _ upd_same, Nat.lt_of_lt_of_le (by have := q5.1; omega : xs.length < 100000) (by decide), M5, al5, F5, acc ++ [y], xs ++ [v5], e'.trans eA, W5.rehide, (rs.ext eA).append (.cons r5 .nil), q5.2⟩
  · rw [List.drop_eq_nil_of_le (by omega)] at q'
    refine .inl ⟨(ok al' F' _ H' M' e' smG W' q'.1 i).2 (by omega), ?_⟩
    obtain ⟨W2, e2⟩ := W'.thaw hGD
    exact q'.2 al' _ H' _ (e1.trans (e'.trans e2)) W2 (.lst upd_same (rs.ext e2))
theorem d_lc {elt tg iter : Expr} {ifs : List Expr} {scope : Scope} {own : List (Str × Nat)} {fi : DTI} {g : DTG} {t : DTT} {fe : DTE} {js : List Nat} (hc : X.calm = true) (hN : X.N.Nodup) (hi : DI X tg iter fi) (ok : BlkOk X.N X.env.scope scope own) (hj : ∀ j ∈ js, j ∈ own.map (·.2))
    (hg : ∀ (s : Shared) (H : Hp) (C : Addr) (cl : List (Str × Addr)) (fp : List Addr), DG (X.blk s H scope (compEnvC scope cl C X.env) fp) tg g js)
    (ht : ∀ (s : Shared) (H : Hp) (C : Addr) (cl : List (Str × Addr)) (fp : List Addr), DTTs (X.blk s H scope (compEnvC scope cl C X.env) fp) ifs t)
    (he : ∀ (s : Shared) (H : Hp) (C : Addr) (cl : List (Str × Addr)) (fp : List Addr), DE (X.blk s H scope (compEnvC scope cl C X.env) fp) elt fe)
    (hfs : ∀ x : Value, foldedSetIterable iter X.env x = pure x := by intro _; rfl) : DE X (.ListComp elt [⟨tg, iter, ifs, 0⟩] scope pos) (dLc fi g t fe (own.map (·.2))) := by
  have g0 := (hg X.s_0 (fun _ => none) 0 [] []).mono
  have t0 := (ht X.s_0 (fun _ => none) 0 [] []).2
  have e0 := (he X.s_0 (fun _ => none) 0 [] []).mono
  refine ⟨PE.of (pe_lc hc hN hi.pi ok (fun s H C cl fp => PG.of (hg s H C cl fp).pg fun _ _ _ _ z => LiftGN.of (hg s H C cl fp).mono z) (fun s H C cl fp => PTs.of (ht s H C cl fp).1 fun _ _ _ z => LiftTN.of z) (fun s H C cl fp => PE.of (he s H C cl fp).pe fun _ _ _ z => LiftN.of z) hfs) fun σ H Q h => lc_ok (Y := X) hi.mono g0 t0 e0 hj h, fun ρ M Q Q' w q => ?_⟩
  exact hi.mono _ _ _ _ (fun ds st M1 q1 => lcGo_mono (lcStep_mono g0 t0 e0) _ _ (fun a M2 q2 => w _ _ q2) ds [] M1 q1) q
theorem ds_setLc {i : Nat} {y : Str} {py spos : Pos} {elt tg iter : Expr} {ifs : List Expr} {scope : Scope} {own : List (Str × Nat)} {fi : DTI} {g : DTG} {t : DTT} {fe : DTE} {js : List Nat} (hc : X.calm = true) (hN : X.N.Nodup) (hy : X.N[i]? = some y) (hl : X.env.scope.names.lookup y = some .local)
    (hsw : swapsWith (.ListComp elt [⟨tg, iter, ifs, 0⟩] scope pos) (some (.Name y py)) spos.line X.env = pure true) (hi : DI X tg iter fi) (ok : BlkOk X.N X.env.scope scope own) (hj : ∀ j ∈ js, j ∈ own.map (·.2))
    (hg : ∀ (s : Shared) (H : Hp) (C : Addr) (cl : List (Str × Addr)) (fp : List Addr), DG (X.blk s H scope (compEnvC scope cl C X.env) fp) tg g js)
    (ht : ∀ (s : Shared) (H : Hp) (C : Addr) (cl : List (Str × Addr)) (fp : List Addr), DTTs (X.blk s H scope (compEnvC scope cl C X.env) fp) ifs t)
    (he : ∀ (s : Shared) (H : Hp) (C : Addr) (cl : List (Str × Addr)) (fp : List Addr), DE (X.blk s H scope (compEnvC scope cl C X.env) fp) elt fe)
    (hfs : ∀ x : Value, foldedSetIterable iter X.env x = pure x := by intro _; rfl) : DS X (.Assign [.Name y py] (.ListComp elt [⟨tg, iter, ifs, 0⟩] scope pos) spos) (dAsg (dLc fi g t fe (own.map (·.2))) (dgName i)) := by
  have hd := d_lc (pos := pos) hc hN hi ok hj hg ht he hfs
  refine ⟨PS.of (ps_setLc (g := LiftGN X.K g js) (tt := LiftTN X.K t) (te := LiftN X.K fe) hc hN hy hl hsw hi.pi ok (fun s H C cl fp => PG.of (hg s H C cl fp).pg fun _ _ _ _ z => LiftGN.of (hg s H C cl fp).mono z) (fun s H C cl fp => PTs.of (ht s H C cl fp).1 fun _ _ _ z => LiftTN.of z) (fun s H C cl fp => PE.of (he s H C cl fp).pe fun _ _ _ z => LiftN.of z) hfs) fun E σ H ⟨ρ, M, al, F, G, W, es, q⟩ => ?_, fun D D' ρ M w q => hd.mono _ _ _ _ (fun d M1 q1 => w.nx _ _ q1) q⟩
  refine lc_ok (Y := X) hi.mono (hg X.s_0 (fun _ => none) 0 [] []).mono (ht X.s_0 (fun _ => none) 0 [] []).2 (he X.s_0 (fun _ => none) 0 [] []).mono hj ?_
  exact hd.seq W es q fun d M1 al1 F1 H1 v q1 e1 W1 r1 s1 => q1 al1 F1 H1 _ e1 W1 (s1.sl.set r1 i) rfl
end
end DL

/-! DL4: operations, displays, subscripts, slices, lists that change, built-ins, what loops walk, defs. -/
namespace DL
open PySem PySem.Spec PyProof.Rows L2

theorem le_line {n : Nat} (h : n ≤ 100000) : n ≤ sizeLine := Nat.le_trans h (by decide)
theorem lt_line {n : Nat} (h : n < 100000) : n < sizeLine := Nat.lt_of_lt_of_le h (by decide)
/-- the list that a datum stands for -/
def seqOf : D → Sto → Option (List D)
  | .lst ds, _ => some ds
  | .ref n, M => match M[n]? with
    | some (.lst ds) => some ds
    | _ => none
  | _, _ => none
theorem seqOf_ok {K : PySem.W.Frag} {al : List Addr} {F G H : Hp} {M : Sto} {v : V} {d : D} {ds : List D} (W : Wd K al F G H M) (r : Rp K F al v d) (h : seqOf d M = some ds) : ∃ a xs, v = .ref a ∧ H a = some (.lst xs) ∧ Rps K F al xs ds := by
  cases r with
  | lst a b => cases h; exact ⟨_, _, rfl, W.sm _ _ a, b⟩
  | ref a =>
    unfold seqOf at h
    dsimp only at h
    split at h
    · next e =>
      cases h
      obtain ⟨xs, q, rs⟩ := W.cel _ _ _ e a
      exact ⟨_, xs, rfl, q, rs⟩
    · cases h
  | _ => cases h
section
variable {K : PySem.W.Frag} {al : List Addr} {F G H : Hp} {M : Sto} {Q : VK}
theorem kont.here {d : D} {v : V} (k : kont K al F G Q d M) (W : Wd K al F G H M) (r : Rp K F al v d) : Q v H := k al F H v (Ext.refl _ _) W r
theorem kont.tup {ds : List D} {xs : List V} {p : Addr} (k : kont K al F G Q (.tup ds) M) (W : Wd K al F G H M) (r : Rps K F al xs ds) (hp : H p = none) : Q (.ref p) (upd H p (.tup xs)) := by
  obtain ⟨W1, e1⟩ := W.newF (o := .tup xs) hp
  exact k al _ _ _ e1 W1 (.tup upd_same (r.ext e1))
theorem kont.lst {ds : List D} {xs : List V} {p : Addr} (k : kont K al F G Q (.lst ds) M) (W : Wd K al F G H M) (r : Rps K F al xs ds) (hp : H p = none) : Q (.ref p) (upd H p (.lst xs)) := by
  obtain ⟨W1, e1⟩ := W.newF (o := .lst xs) hp
  exact k al _ _ _ e1 W1 (.lst upd_same (r.ext e1))
theorem kont.new {ds : List D} {xs : List V} {p : Addr} (k : kont K al F G Q (.ref M.length) (M ++ [.lst ds])) (W : Wd K al F G H M) (r : Rps K F al xs ds) (hp : H p = none) : Q (.ref p) (upd H p (.lst xs)) := by
  have e : Ext al F (al ++ [p]) F := ⟨⟨[p], rfl⟩, Sm.refl F⟩
  obtain ⟨W1, e1⟩ := W.newM (o := .lst xs) (c := .lst ds) hp ⟨xs, upd_same, r.ext e⟩
  exact k _ _ _ _ e1 W1 (.ref (by rw [← W.len, List.getElem?_append_right (Nat.le_refl _)]; simp))
end
section
variable {X : Cx} {a b c : Expr} {fa fb fc : DTE} {pos : Pos} {ta tb : DTT}
/-! ### arithmetic -/
@[reducible] def gInt (f : Int → Int → D) (C : Int → Int → Prop) : G2 := fun x y M Q => match x, y with
  | .int i, .int j => C i j ∧ Q (f i j) M
  | _, _ => False
theorem gInt_mono (f : Int → Int → D) (C : Int → Int → Prop) : Mono2 (gInt f C) := fun x y M Q Q' w q => by
  unfold gInt at q ⊢
  split at q
  · exact ⟨q.1, w _ _ q.2⟩
  · exact q.elim
theorem o_int {f : Value → Value → Sem Value} {g : Int → Int → V} {h : Int → Int → D} {C : Int → Int → Prop} (ho : OpR X f (rI C g)) (hr : ∀ i j F al, Rp X.K F al (g i j) (h i j)) : O2 X f (gInt h C) :=
  O2.of ho (gInt_mono h C) fun al F G H M x y dx dy Q W r1 r2 q => by
    cases r1 <;> first | exact q.elim | (cases r2 <;> first | exact q.elim | exact ⟨_, _, rfl, rfl, q.1, q.2.here W (hr _ _ F al)⟩)
@[reducible] def gI0 (f : Int → Int → D) : G2 := fun x y M Q => match x, y with
  | .int i, .int j => Q (f i j) M
  | _, _ => False
theorem gI0_mono (f : Int → Int → D) : Mono2 (gI0 f) := fun x y M Q Q' w q => by
  unfold gI0 at q ⊢
  split at q
  · exact w _ _ q
  · exact q.elim
theorem o_int0 {f : Value → Value → Sem Value} {g : Int → Int → V} {h : Int → Int → D} (ho : OpR X f (rI0 g)) (hr : ∀ i j F al, Rp X.K F al (g i j) (h i j)) : O2 X f (gI0 h) :=
  O2.of ho (gI0_mono h) fun al F G H M x y dx dy Q W r1 r2 q => by
    cases r1 <;> first | exact q.elim | (cases r2 <;> first | exact q.elim | exact ⟨_, _, rfl, rfl, kont.here q W (hr _ _ F al)⟩)
theorem o_sub : O2 X (binaryOp .Sub) (gI0 fun i j => .int (i - j)) := o_int0 op_sub fun _ _ _ _ => .int _
theorem o_fdiv : O2 X (binaryOp .FloorDiv) (gInt (fun i j => .int (i / j)) CDiv) := o_int op_fdiv fun _ _ _ _ => .int _
theorem o_mod : O2 X (binaryOp .Mod) (gInt (fun i j => .int (i % j)) fun _ j => 0 < j) := o_int op_mod fun _ _ _ _ => .int _
theorem o_pow : O2 X (binaryOp .Pow) (gInt (fun i j => .int (i ^ j.toNat)) CPow) := o_int op_pow fun _ _ _ _ => .int _
theorem o_lt : O2 X (compareOp .Lt) (gI0 fun i j => .bl (decide (i < j))) := o_int0 op_lt fun _ _ _ _ => .bl _
theorem o_le : O2 X (compareOp .LtE) (gI0 fun i j => .bl (decide (i ≤ j))) := o_int0 op_le fun _ _ _ _ => .bl _
theorem o_gt : O2 X (compareOp .Gt) (gI0 fun i j => .bl (decide (j < i))) := o_int0 op_gt fun _ _ _ _ => .bl _
theorem o_ge : O2 X (compareOp .GtE) (gI0 fun i j => .bl (decide (j ≤ i))) := o_int0 op_ge fun _ _ _ _ => .bl _
@[reducible] def gNeg : G1 := fun x M Q => match x with
  | .int i => Q (.int (-i)) M
  | _ => False
theorem O1.of {f : Value → Sem Value} {r : V → Hp → VK → Prop} {g : G1} (h : UnR X f r) (m : Mono1 g)
    (k : ∀ al F G H M x dx Q, Wd X.K al F G H M → Rp X.K F al x dx → g dx M (kont X.K al F G Q) → r x H Q) : O1 X f g :=
  ⟨fun pins s σ al F G H M x v dx Q I rx W r1 q => h pins s σ H x v Q I rx (k al F G H M x dx Q W r1 q), m⟩
theorem o_neg : O1 X (unaryOp .USub) gNeg := O1.of un_neg (fun x M Q Q' w q => by
    unfold gNeg at q ⊢
    split at q
    · exact w _ _ q
    · exact q.elim) fun al F G H M x dx Q W r1 q => by
  cases r1 <;> first | exact q.elim | exact ⟨_, rfl, kont.here q W (.int _)⟩
/-- + : ints, texts, tuples, lists -/
@[reducible] def gAdd : G2 := fun x y M Q => match x, y with
  | .int i, .int j => Q (.int (i + j)) M
  | .str i, .str j => i.length + j.length ≤ 100000 ∧ Q (.str (i ++ j)) M
  | .tup i, .tup j => i.length + j.length ≤ 100000 ∧ Q (.tup (i ++ j)) M
  | x, y => match seqOf x M, seqOf y M with
    | some i, some j => i.length + j.length ≤ 100000 ∧ Q (.lst (i ++ j)) M
    | _, _ => False
theorem gAdd_mono : Mono2 gAdd := fun x y M Q Q' w q => by
  unfold gAdd at q ⊢
  split at q
  · exact w _ _ q
  · exact ⟨q.1, w _ _ q.2⟩
  · exact ⟨q.1, w _ _ q.2⟩
  · split at q
    · exact ⟨q.1, w _ _ q.2⟩
    · exact q.elim
theorem o_add : O2 X (binaryOp .Add) gAdd := O2.of (OpR.or op_add (OpR.or op_add_str (OpR.or op_catA op_cat))) gAdd_mono fun al F G H M x y dx dy Q W r1 r2 q => by
  unfold gAdd at q
  split at q
  · cases r1; cases r2
    exact .inl ⟨_, _, rfl, rfl, kont.here q W (.int _)⟩
  · cases r1; cases r2
    exact .inr (.inl ⟨_, _, rfl, rfl, le_line q.1, kont.here q.2 W (.str _)⟩)
  · cases r1 with
    | tup a1 b1 =>
      cases r2 with
      | tup a2 b2 =>
        have l1 := b1.length
        have l2 := b2.length
        refine .inr (.inr (.inl ⟨_, _, _, _, rfl, rfl, SqT.of (W.sm _ _ a1), SqT.of (W.sm _ _ a2), le_line (by have := q.1; omega), fun z => ?_, fun _ z => ?_, fun _ _ p hp => kont.tup q.2 W (b1.append b2) hp⟩))
        · subst z
          cases b1
          exact kont.here q.2 W (.tup a2 b2)
        · subst z
          cases b2
          rw [List.append_nil] at q
          exact kont.here q.2 W (.tup a1 b1)
  · split at q
    · next e1 e2 =>
      obtain ⟨p1, xs1, rfl, h1, s1⟩ := seqOf_ok W r1 e1
      obtain ⟨p2, xs2, rfl, h2, s2⟩ := seqOf_ok W r2 e2
      have l1 := s1.length
      have l2 := s2.length
      exact .inr (.inr (.inr ⟨_, _, _, _, rfl, rfl, h1, h2, le_line (by have := q.1; omega), fun p hp => kont.lst q.2 W (s1.append s2) hp⟩))
    · exact q.elim
theorem Rps.rep {K : PySem.W.Frag} {F : Hp} {al : List Addr} {xs : List V} {ds : List D} (h : Rps K F al xs ds) : ∀ k : Nat, Rps K F al (List.replicate k xs).flatten (List.replicate k ds).flatten
  | 0 => .nil
  | k + 1 => by rw [List.replicate_succ, List.replicate_succ, List.flatten_cons, List.flatten_cons]; exact h.append (h.rep k)
/-- * : ints; lists and tuples some times -/
@[reducible] def gMul : G2 := fun x y M Q => match x, y with
  | .int i, .int j => CMul i j ∧ Q (.int (i * j)) M
  | .tup ds, .int k => ds ≠ [] ∧ 2 ≤ k ∧ k ≤ 1000 ∧ ds.length ≤ 1000 ∧ Q (.tup (List.replicate k.toNat ds).flatten) M
  | x, .int k => match seqOf x M with
    | some ds => 0 ≤ k ∧ k < 100000 ∧ ds.length * k.toNat ≤ 100000 ∧ Q (.lst (List.replicate k.toNat ds).flatten) M
    | none => False
  | _, _ => False
theorem gMul_mono : Mono2 gMul := fun x y M Q Q' w q => by
  unfold gMul at q ⊢
  split at q
  · exact ⟨q.1, w _ _ q.2⟩
  · exact ⟨q.1, q.2.1, q.2.2.1, q.2.2.2.1, w _ _ q.2.2.2.2⟩
  · split at q
    · exact ⟨q.1, q.2.1, q.2.2.1, w _ _ q.2.2.2⟩
    · exact q.elim
  · exact q.elim

theorem o_mul : O2 X (binaryOp .Mult) gMul := O2.of (OpR.or op_mul (OpR.or op_repT op_rep)) gMul_mono fun al F G H M x y dx dy Q W r1 r2 q => by
  unfold gMul at q
  split at q
  · cases r1; cases r2
    exact .inl ⟨_, _, rfl, rfl, q.1, kont.here q.2 W (.int _)⟩
  · cases r2
    cases r1 with
    | tup a1 b1 =>
      have l1 := b1.length
      refine .inr (.inl ⟨_, _, _, rfl, rfl, SqT.of (W.sm _ _ a1), fun z => ?_, q.2.1, q.2.2.1, by have := q.2.2.2.1; omega, fun p hp => kont.tup q.2.2.2.2 W (b1.rep _) hp⟩)
      subst z
      cases b1
      exact q.1 rfl
  · cases r2
    split at q
    · next e =>
      obtain ⟨p1, xs1, rfl, h1, s1⟩ := seqOf_ok W r1 e
      have l1 := s1.length
      refine .inr (.inr ⟨_, _, _, rfl, rfl, h1, by have := q.1; omega, by have := q.2.1; omega, le_line (by rw [l1]; exact q.2.2.1), fun p hp => kont.lst q.2.2.2 W (s1.rep _) hp⟩)
    · exact q.elim
  · exact q.elim
/-! ### is None -/
def isNon : D → Bool
  | .non => true
  | _ => false
@[reducible] def gIsN (neg : Bool) : G2 := fun x y M Q => match y with
  | .non => Q (.bl (isNon x ^^ neg)) M
  | _ => False
theorem gIsN_mono (neg : Bool) : Mono2 (gIsN neg) := fun x y M Q Q' w q => by
  unfold gIsN at q ⊢
  split at q
  · exact w _ _ q
  · exact q.elim
theorem isNon_ok {K : PySem.W.Frag} {F : Hp} {al : List Addr} {v : V} {d : D} (r : Rp K F al v d) : decide (v = .non) = isNon d := by
  cases r <;> simp [isNon]
theorem o_isN : O2 X (compareOp .Is) (gIsN false) := O2.of op_isN (gIsN_mono _) fun al F G H M x y dx dy Q W r1 r2 q => by
  unfold gIsN at q
  split at q
  · cases r2
    rw [Bool.xor_false] at q
    exact ⟨rfl, by rw [isNon_ok r1]; exact kont.here q W (.bl _)⟩
  · exact q.elim
theorem o_notN : O2 X (compareOp .IsNot) (gIsN true) := O2.of op_notN (gIsN_mono _) fun al F G H M x y dx dy Q W r1 r2 q => by
  unfold gIsN at q
  split at q
  · cases r2
    rw [Bool.xor_true] at q
    exact ⟨rfl, by rw [isNon_ok r1]; exact kont.here q W (.bl _)⟩
  · exact q.elim
/-! ### data as PyData: ==, != and repr -/
mutual
def toPy : D → PyData
  | .non => .none
  | .bl b => .bool b
  | .int i => .int i
  | .str x => .str x
  | .tup ds => .tuple (toPys ds)
  | .lst ds => .list (toPys ds)
  | .dct _ _ => .none
  | .ref _ => .none
  | .scr _ => .none
  | .exo _ _ _ _ _ => .none
def toPys : List D → List PyData
  | [] => []
  | d :: ds => toPy d :: toPys ds
end
mutual
def pu : D → Bool
  | .non | .bl _ | .int _ | .str _ => true
  | .tup ds => pus ds
  | .lst ds => pus ds
  | .dct _ _ | .ref _ | .scr _ | .exo _ _ _ _ _ => false
def pus : List D → Bool
  | [] => true
  | d :: ds => pu d && pus ds
end
section
variable {K : PySem.W.Frag} {al : List Addr} {F G H : Hp} {M : Sto}
mutual
theorem dp_of (sm : Sm F H) : ∀ {d : D} {v : V}, Rp K F al v d → pu d = true → Dp K H v (toPy d)
  | .non, _, r, _ => by cases r; exact .non
  | .bl _, _, r, _ => by cases r; exact .bl _
  | .int _, _, r, _ => by cases r; exact .int _
  | .str _, _, r, _ => by cases r; exact .str _
  | .tup _, _, r, h => by
    cases r with
    | tup a b => exact .tup (SqT.of (sm _ _ a)) (dps_of sm b h)
  | .lst _, _, r, h => by
    cases r with
    | lst a b => exact .lst (SqL.of (sm _ _ a)) (dps_of sm b h)
  | .dct _ _, _, _, h => by cases h
  | .ref _, _, _, h => by cases h
  | .scr _, _, _, h => by cases h
  | .exo _ _ _ _ _, _, _, h => by cases h
theorem dps_of (sm : Sm F H) : ∀ {ds : List D} {vs : List V}, Rps K F al vs ds → pus ds = true → DpAll K H vs (toPys ds)
  | [], _, r, _ => by cases r; exact .nil
  | d :: ds, _, r, h => by
    cases r with
    | cons a b =>
      have h' : pu d = true ∧ pus ds = true := by simpa [pus] using h
      exact .cons (dp_of sm a h'.1) (dps_of sm b h'.2)
end
/-- a list of the store, as it stands -/
def vw : D → Sto → D
  | .ref n, M => match M[n]? with
    | some (.lst ds) => .lst ds
    | _ => .ref n
  | d, _ => d
theorem dp_vw {v : V} {d : D} (W : Wd K al F G H M) (r : Rp K F al v d) (h : pu (vw d M) = true) : Dp K H v (toPy (vw d M)) := by
  cases r with
  | ref a =>
    unfold vw at h ⊢
    dsimp only at h ⊢
    split at h
    · next ds e =>
      obtain ⟨xs, q, rs⟩ := W.cel _ _ _ e a
      exact .lst (SqL.of q) (dps_of W.sm rs h)
    · cases h
  | non => exact .non
  | bl b => exact .bl b
  | int i => exact .int i
  | str x => exact .str x
  | tup a b => exact dp_of W.sm (.tup a b) h
  | lst a b => exact dp_of W.sm (.lst a b) h
  | dct a l b => cases h
  | scr a => cases h
  | exo0 => cases h
  | exo a l b => cases h
end
def eqOk (d : D) (M : Sto) : Prop := pu (vw d M) = true ∧ SeqAt.shaped (toPy (vw d M)) = true
@[reducible] def gEq (neg : Bool) : G2 := fun x y M Q => match x, y with
  | .int i, .int j => Q (.bl (decide (i = j) ^^ neg)) M
  | .str i, .str j => Q (.bl (decide (i = j) ^^ neg)) M
  | x, y => eqOk x M ∧ eqOk y M ∧ Q (.bl (PyData.eqv (toPy (vw x M)) (toPy (vw y M)) ^^ neg)) M
theorem gEq_mono (neg : Bool) : Mono2 (gEq neg) := fun x y M Q Q' w q => by
  unfold gEq at q ⊢
  split at q
  · exact w _ _ q
  · exact w _ _ q
  · exact ⟨q.1, q.2.1, w _ _ q.2.2⟩
theorem o_eq (hu : X.A.units + 64 < cLine) : O2 X (compareOp .Eq) (gEq false) := O2.of (OpR.or op_eq (op_eqD hu)) (gEq_mono _) fun al F G H M x y dx dy Q W r1 r2 q => by
  unfold gEq at q
  split at q
  · cases r1; cases r2
    rw [Bool.xor_false] at q
    refine .inl ⟨rfl, ?_⟩
    have e : ∀ i j : Int, decide (V.int i = V.int j) = decide (i = j) := fun i j => by simp
    rw [e]
    exact kont.here q W (.bl _)
  · cases r1; cases r2
    rw [Bool.xor_false] at q
    refine .inl ⟨rfl, ?_⟩
    have e : ∀ i j : Str, decide (V.str i = V.str j) = decide (i = j) := fun i j => by simp
    rw [e]
    exact kont.here q W (.bl _)
  · rw [Bool.xor_false] at q
    exact .inr ⟨_, _, dp_vw W r1 q.1.1, dp_vw W r2 q.2.1.1, q.1.2, q.2.1.2, kont.here q.2.2 W (.bl _)⟩
theorem o_ne (hu : X.A.units + 64 < cLine) : O2 X (compareOp .NotEq) (gEq true) := O2.of (OpR.or op_ne (op_neD hu)) (gEq_mono _) fun al F G H M x y dx dy Q W r1 r2 q => by
  unfold gEq at q
  split at q
  · cases r1; cases r2
    rw [Bool.xor_true] at q
    refine .inl ⟨rfl, ?_⟩
    have e : ∀ i j : Int, (!decide (V.int i = V.int j)) = !decide (i = j) := fun i j => by simp
    rw [e]
    exact kont.here q W (.bl _)
  · cases r1; cases r2
    rw [Bool.xor_true] at q
    refine .inl ⟨rfl, ?_⟩
    have e : ∀ i j : Str, (!decide (V.str i = V.str j)) = !decide (i = j) := fun i j => by simp
    rw [e]
    exact kont.here q W (.bl _)
  · rw [Bool.xor_true] at q
    exact .inr ⟨_, _, dp_vw W r1 q.1.1, dp_vw W r2 q.2.1.1, q.1.2, q.2.1.2, kont.here q.2.2 W (.bl _)⟩
/-! ### calls of built-ins -/
def rN (K : PySem.W.Frag) (g : GN) : List V → Hp → VK → Prop := fun xs H Q => ∃ ds al F G M, Wd K al F G H M ∧ Rps K F al xs ds ∧ g ds M (kont K al F G Q)
theorem ON.callR {f : Value} {g : GN} (h : ON X f g) : CallR X f (rN X.K g) := fun pins s σ H xs us Q I r ⟨ds, al, F, G, M, W, rs, q⟩ => h.run pins s σ al F G H M xs us ds Q I r W rs q
theorem dApp_mono {es : List Expr} {fr : DTA} {g : GN} (ha : DA X es fr) (hg : MonoN g) : ∀ ρ M (Q Q' : DK), (∀ d M, Q d M → Q' d M) → dApp g fr ρ M Q → dApp g fr ρ M Q' :=
  fun ρ M Q Q' w q => ha.mono _ _ _ _ (fun ds M1 q1 => hg _ _ _ _ w q1) q
theorem app_ok {es : List Expr} {fr : DTA} {g : GN} (ha : DA X es fr) (hg : MonoN g) {σ : L2.St} {H : Hp} {Q : VK} (h : Lift X (dApp g fr) σ H Q) : tCB (rN X.K g) (LiftA X fr) σ H Q := by
  obtain ⟨ρ, M, al, F, G, W, es, q⟩ := h
  exact ha.seq W es q fun ds M1 al1 F1 H1 vs q1 e1 W1 r1 s1 => ⟨ds, al1, F1, G, M1, W1, r1, hg _ _ _ _ (fun d M2 k => kont.ext k e1) q1⟩
theorem d_callB {x : Str} {p : Pos} {es : List Expr} {fr : DTA} {id : String} {g : GN} (ho : ON X (.builtin id) g) (hg : Gl X x) (hm : X.mg x = none) (hv : bootBuiltins x = some (.builtin id)) (ha : DA X (a :: es) fr) (hn : x ≠ "__name__" := by decide) (hd : (x == ("__debug__" : Str)) = false := by decide)
    (hs : starEach (a :: es) X.env = (false, eval a X.env) :: starEach es X.env := by rfl) (hpl : (backTo pos (starEach es X.env)).any (·.1) = false := by rfl) : DE X (.Call (.Name x p) (a :: es) [] pos) (dApp g fr) :=
  ⟨PE.of (pe_callB ho.callR hg hm hv ha.pa hn hd hs hpl) fun σ H Q h => app_ok ha ho.mono h, dApp_mono ha ho.mono⟩
theorem d_callTy {x : Str} {p : Pos} {es : List Expr} {fr : DTA} {T : String} {g : GN} (ho : ON X (.type T) g) (hg : Gl X x) (hm : X.mg x = none) (hv : bootBuiltins x = some (.type T)) (ha : DA X (a :: es) fr) (hn : x ≠ "__name__" := by decide) (hd : (x == ("__debug__" : Str)) = false := by decide)
    (hs : starEach (a :: es) X.env = (false, eval a X.env) :: starEach es X.env := by rfl) (hpl : (backTo pos (starEach es X.env)).any (·.1) = false := by rfl) : DE X (.Call (.Name x p) (a :: es) [] pos) (dApp g fr) :=
  ⟨PE.of (pe_callTy ho.callR hg hm hv ha.pa hn hd hs hpl) fun σ H Q h => app_ok ha ho.mono h, dApp_mono ha ho.mono⟩
@[reducible] def g1 (g : G1) : GN := fun ds M Q => match ds with
  | [d] => g d M Q
  | _ => False
theorem g1_mono {g : G1} (h : Mono1 g) : MonoN (g1 g) := fun ds M Q Q' w q => by
  unfold g1 at q ⊢
  split at q
  · exact h _ _ _ _ w q
  · exact q.elim
theorem ON.of1 {f : Value} {r : List V → Hp → VK → Prop} {g : G1} (h : CallR X f r) (m : Mono1 g)
    (k : ∀ al F G H M x d Q, Wd X.K al F G H M → Rp X.K F al x d → g d M (kont X.K al F G Q) → r [x] H Q) : ON X f (g1 g) :=
  ON.of h (g1_mono m) fun al F G H M xs ds Q W rs q => by
    match ds, rs, q with
    | [d], .cons r .nil, q => exact k al F G H M _ d Q W r q
    | [], _, q => exact q.elim
    | _ :: _ :: _, _, q => exact q.elim
/-- len -/
def lenOf : D → Sto → Option Nat
  | .tup ds, _ => some ds.length
  | .scr ns, _ => some ns.length
  | d, M => match seqOf d M with
    | some ds => some ds.length
    | none => none
@[reducible] def gLen : G1 := fun d M Q => match d with
  | .str x => x.length ≤ 100000 ∧ Q (.int x.length) M
  | d => match lenOf d M with
    | some n => Q (.int n) M
    | none => False
theorem gLen_mono : Mono1 gLen := fun d M Q Q' w q => by
  unfold gLen at q ⊢
  split at q
  · exact ⟨q.1, w _ _ q.2⟩
  · split at q
    · exact w _ _ q
    · exact q.elim
theorem o_len : ON X (.builtin "len") (g1 gLen) := ON.of1 call_len gLen_mono fun al F G H M x d Q W r q => by
  unfold gLen at q
  split at q
  · cases r
    exact ⟨_, _, rfl, ⟨le_line q.1, rfl⟩, kont.here q.2 W (.int _)⟩
  · split at q
    · next e =>
      unfold lenOf at e
      split at e
      · cases e
        cases r with
        | tup a b =>
          rw [← b.length] at q
          exact ⟨_, _, rfl, .inr ⟨_, SqT.of (W.sm _ _ a), rfl⟩, kont.here q W (.int _)⟩
      · cases e
        cases r with
        | scr a => exact ⟨_, _, rfl, .inl ⟨_, W.sm.l a, (List.length_map ..).symm⟩, kont.here q W (.int _)⟩
      · cases e2 : seqOf d M with
        | none => rw [e2] at e; cases e
        | some ds =>
          rw [e2] at e
          cases e
          obtain ⟨p1, xs1, rfl, h1, s1⟩ := seqOf_ok W r e2
          rw [← s1.length] at q
          exact ⟨_, _, rfl, .inl ⟨_, SqL.of h1, rfl⟩, kont.here q W (.int _)⟩
    · exact q.elim
/-- tuple(..), list(..) -/
@[reducible] def gTuple : G1 := fun d M Q => match d with
  | .tup ds => Q (.tup ds) M
  | d => match seqOf d M with
    | some ds => Q (.tup ds) M
    | none => False
theorem gTuple_mono : Mono1 gTuple := fun d M Q Q' w q => by
  unfold gTuple at q ⊢
  split at q
  · exact w _ _ q
  · split at q
    · exact w _ _ q
    · exact q.elim
theorem o_tuple : ON X (.type "tuple") (g1 gTuple) := ON.of1 call_tuple_of gTuple_mono fun al F G H M x d Q W r q => by
  unfold gTuple at q
  split at q
  · cases r with
    | tup a b => exact ⟨_, _, rfl, .inr ⟨SqT.of (W.sm _ _ a), kont.here q W (.tup a b)⟩⟩
  · split at q
    · next e =>
      obtain ⟨p1, xs1, rfl, h1, s1⟩ := seqOf_ok W r e
      exact ⟨_, _, rfl, .inl ⟨SqL.of h1, fun l hl => kont.tup q W s1 hl⟩⟩
    · exact q.elim
@[reducible] def gList : G1 := fun d M Q => match d with
  | .tup ds => Q (.lst ds) M
  | d => match seqOf d M with
    | some ds => Q (.lst ds) M
    | none => False
theorem gList_mono : Mono1 gList := fun d M Q Q' w q => by
  unfold gList at q ⊢
  split at q
  · exact w _ _ q
  · split at q
    · exact w _ _ q
    · exact q.elim
theorem o_list : ON X (.type "list") (g1 gList) := ON.of1 call_list_of gList_mono fun al F G H M x d Q W r q => by
  unfold gList at q
  split at q
  · cases r with
    | tup a b => exact ⟨_, _, rfl, .inr (SqT.of (W.sm _ _ a)), fun l hl => kont.lst q W b hl⟩
  · split at q
    · next e =>
      obtain ⟨p1, xs1, rfl, h1, s1⟩ := seqOf_ok W r e
      exact ⟨_, _, rfl, .inl (SqL.of h1), fun l hl => kont.lst q W s1 hl⟩
    · exact q.elim
/-- abs, max, min of two; int, str of an int -/
@[reducible] def gAbs : G1 := fun d M Q => match d with
  | .int i => Q (.int (if i < 0 then -i else i)) M
  | _ => False
theorem o_abs : ON X (.builtin "abs") (g1 gAbs) := ON.of1 call_abs (fun d M Q Q' w q => by
    unfold gAbs at q ⊢
    split at q
    · exact w _ _ q
    · exact q.elim) fun al F G H M x d Q W r q => by
  cases r <;> first | exact q.elim | exact ⟨_, rfl, kont.here q W (.int _)⟩
@[reducible] def g2I (f : Int → Int → Int) : GN := fun ds M Q => match ds with
  | [.int i, .int j] => Q (.int (f i j)) M
  | _ => False
theorem g2I_mono (f : Int → Int → Int) : MonoN (g2I f) := fun ds M Q Q' w q => by
  unfold g2I at q ⊢
  split at q
  · exact w _ _ q
  · exact q.elim
@[reducible] def gStrI : G1 := fun d M Q => match d with
  | .int i => i.natAbs.log2 < 1920 ∧ Q (.str (Str.ofString (toString i))) M
  | _ => False
theorem o_str : ON X (.type "str") (g1 gStrI) := ON.of1 call_str_int (fun d M Q Q' w q => by
    unfold gStrI at q ⊢
    split at q
    · exact ⟨q.1, w _ _ q.2⟩
    · exact q.elim) fun al F G H M x d Q W r q => by
  cases r <;> first | exact q.elim | exact ⟨_, rfl, q.1, kont.here q.2 W (.str _)⟩
@[reducible] def gInt1 : G1 := fun d M Q => match d with
  | .int i => Q (.int i) M
  | .bl b => Q (.int (if b = true then 1 else 0)) M
  | _ => False
theorem o_int1 : ON X (.type "int") (g1 gInt1) := ON.of1 call_int1 (fun d M Q Q' w q => by
    unfold gInt1 at q ⊢
    split at q
    · exact w _ _ q
    · exact w _ _ q
    · exact q.elim) fun al F G H M x d Q W r q => by
  cases r <;> first | exact q.elim | exact .inl ⟨_, rfl, kont.here q W (.int _)⟩ | exact .inr ⟨_, rfl, kont.here q W (.int _)⟩
/-- sum, min, max of a list of ints; all, any of a list of bools -/
def intsOf : List D → Option (List Int)
  | [] => some []
  | .int i :: r => (intsOf r).map (i :: ·)
  | _ :: _ => none
theorem intsOf_eq : ∀ {ds : List D} {ns : List Int}, intsOf ds = some ns → ds = ns.map D.int
  | [], _, h => by cases h; rfl
  | d :: r, ns, h => by
    cases d <;> first | (cases h; done) | skip
    unfold intsOf at h
    cases e : intsOf r with
    | none => rw [e] at h; cases h
    | some ms => rw [e] at h; cases h; rw [intsOf_eq e]; rfl
theorem intsOf_map (ns : List Int) : intsOf (ns.map D.int) = some ns := by
  induction ns with
  | nil => rfl
  | cons n ns ih => rw [List.map_cons]; unfold intsOf; rw [ih]; rfl
def blsOf : List D → Option (List Bool)
  | [] => some []
  | .bl i :: r => (blsOf r).map (i :: ·)
  | _ :: _ => none
theorem blsOf_eq : ∀ {ds : List D} {ns : List Bool}, blsOf ds = some ns → ds = ns.map D.bl
  | [], _, h => by cases h; rfl
  | d :: r, ns, h => by
    cases d <;> first | (cases h; done) | skip
    unfold blsOf at h
    cases e : blsOf r with
    | none => rw [e] at h; cases h
    | some ms => rw [e] at h; cases h; rw [blsOf_eq e]; rfl
theorem blsOf_map (ns : List Bool) : blsOf (ns.map D.bl) = some ns := by
  induction ns with
  | nil => rfl
  | cons n ns ih => rw [List.map_cons]; unfold blsOf; rw [ih]; rfl
def minI : List Int → Int
  | [] => 0
  | [x] => x
  | x :: y :: r => min x (minI (y :: r))
def maxI : List Int → Int
  | [] => 0
  | [x] => x
  | x :: y :: r => max x (maxI (y :: r))
theorem minI_le : ∀ {ns : List Int} {x : Int}, x ∈ ns → minI ns ≤ x
  | [y], x, h => by simp at h; subst h; exact Int.le_refl _
  | y :: z :: r, x, h => by
    unfold minI
    rcases List.mem_cons.mp h with rfl | h
    · exact Int.min_le_left _ _
    · exact Int.le_trans (Int.min_le_right _ _) (minI_le h)
theorem minI_mem : ∀ {ns : List Int}, ns ≠ [] → minI ns ∈ ns
  | [y], _ => by simp [minI]
  | y :: z :: r, _ => by
    unfold minI
    have ih := minI_mem (ns := z :: r) (by simp)
    rcases Int.le_total y (minI (z :: r)) with h | h
    · rw [Int.min_eq_left h]; exact List.mem_cons_self
    · rw [Int.min_eq_right h]; exact List.mem_cons_of_mem _ ih
theorem le_maxI : ∀ {ns : List Int} {x : Int}, x ∈ ns → x ≤ maxI ns
  | [y], x, h => by simp at h; subst h; exact Int.le_refl _
  | y :: z :: r, x, h => by
    unfold maxI
    rcases List.mem_cons.mp h with rfl | h
    · exact Int.le_max_left _ _
    · exact Int.le_trans (le_maxI h) (Int.le_max_right _ _)
theorem maxI_mem : ∀ {ns : List Int}, ns ≠ [] → maxI ns ∈ ns
  | [y], _ => by simp [maxI]
  | y :: z :: r, _ => by
    unfold maxI
    have ih := maxI_mem (ns := z :: r) (by simp)
    rcases Int.le_total y (maxI (z :: r)) with h | h
    · rw [Int.max_eq_right h]; exact List.mem_cons_of_mem _ ih
    · rw [Int.max_eq_left h]; exact List.mem_cons_self
theorem minI_uniq {ns : List Int} {m : Int} (h : m ∈ ns) (l : ∀ x ∈ ns, m ≤ x) : minI ns = m :=
  Int.le_antisymm (minI_le h) (l _ (minI_mem (List.ne_nil_of_mem h)))
theorem maxI_uniq {ns : List Int} {m : Int} (h : m ∈ ns) (l : ∀ x ∈ ns, x ≤ m) : maxI ns = m :=
  Int.le_antisymm (l _ (maxI_mem (List.ne_nil_of_mem h))) (le_maxI h)
@[reducible] def gInts (f : List Int → Sto → DK → Prop) : G1 := fun d M Q => match seqOf d M with
  | some ds => match intsOf ds with
    | some ns => f ns M Q
    | none => False
  | none => False
theorem gInts_mono {f : List Int → Sto → DK → Prop} (h : ∀ ns M (Q Q' : DK), (∀ d M, Q d M → Q' d M) → f ns M Q → f ns M Q') : Mono1 (gInts f) := fun d M Q Q' w q => by
  unfold gInts at q ⊢
  split at q
  · split at q
    · exact h _ _ _ _ w q
    · exact q.elim
  · exact q.elim
theorem gInts_ok {f : List Int → Sto → DK → Prop} {K : PySem.W.Frag} {al : List Addr} {F G H : Hp} {M : Sto} {v : V} {d : D} {Q : DK} (W : Wd K al F G H M) (r : Rp K F al v d) (h : gInts f d M Q) : ∃ a ns, v = .ref a ∧ SqL K H a (ns.map V.int) ∧ f ns M Q := by
  unfold gInts at h
  split at h
  · next ds e2 =>
    split at h
    · next ns e =>
      have e3 := intsOf_eq e
      subst e3
      obtain ⟨p1, xs1, rfl, h1, s1⟩ := seqOf_ok W r e2
      rw [s1.ints] at h1
      exact ⟨_, ns, rfl, SqL.of h1, h⟩
    · exact h.elim
  · exact h.elim
@[reducible] def gBls (f : List Bool → Sto → DK → Prop) : G1 := fun d M Q => match seqOf d M with
  | some ds => match blsOf ds with
    | some ns => f ns M Q
    | none => False
  | none => False
theorem gBls_mono {f : List Bool → Sto → DK → Prop} (h : ∀ ns M (Q Q' : DK), (∀ d M, Q d M → Q' d M) → f ns M Q → f ns M Q') : Mono1 (gBls f) := fun d M Q Q' w q => by
  unfold gBls at q ⊢
  split at q
  · split at q
    · exact h _ _ _ _ w q
    · exact q.elim
  · exact q.elim
theorem gBls_ok {f : List Bool → Sto → DK → Prop} {K : PySem.W.Frag} {al : List Addr} {F G H : Hp} {M : Sto} {v : V} {d : D} {Q : DK} (W : Wd K al F G H M) (r : Rp K F al v d) (h : gBls f d M Q) : ∃ a ns, v = .ref a ∧ SqL K H a (ns.map V.bl) ∧ f ns M Q := by
  unfold gBls at h
  split at h
  · next ds e2 =>
    split at h
    · next ns e =>
      have e3 := blsOf_eq e
      subst e3
      obtain ⟨p1, xs1, rfl, h1, s1⟩ := seqOf_ok W r e2
      rw [s1.bls] at h1
      exact ⟨_, ns, rfl, SqL.of h1, h⟩
    · exact h.elim
  · exact h.elim
@[reducible] def fSum : List Int → Sto → DK → Prop := fun ns M Q => Q (.int ns.sum) M
@[reducible] def fMin : List Int → Sto → DK → Prop := fun ns M Q => ns ≠ [] ∧ Q (.int (minI ns)) M
@[reducible] def fMax : List Int → Sto → DK → Prop := fun ns M Q => ns ≠ [] ∧ Q (.int (maxI ns)) M
@[reducible] def fAll : List Bool → Sto → DK → Prop := fun ns M Q => Q (.bl (ns.all id)) M
@[reducible] def fAny : List Bool → Sto → DK → Prop := fun ns M Q => Q (.bl (ns.any id)) M
theorem o_sum (hc : X.calm = true) : ON X (.builtin "sum") (g1 (gInts fSum)) := ON.of1 (cr_sum hc) (gInts_mono fun _ _ _ _ w q => w _ _ q) fun al F G H M x d Q W r q => by
  obtain ⟨p, ns, rfl, h, k⟩ := gInts_ok W r q
  exact ⟨p, ns, rfl, h, kont.here k W (.int _)⟩
theorem o_all (hc : X.calm = true) : ON X (.builtin "all") (g1 (gBls fAll)) := ON.of1 (cr_all hc) (gBls_mono fun _ _ _ _ w q => w _ _ q) fun al F G H M x d Q W r q => by
  obtain ⟨p, ns, rfl, h, k⟩ := gBls_ok W r q
  exact ⟨p, ns, rfl, h, kont.here k W (.bl _)⟩
theorem o_any (hc : X.calm = true) : ON X (.builtin "any") (g1 (gBls fAny)) := ON.of1 (cr_any hc) (gBls_mono fun _ _ _ _ w q => w _ _ q) fun al F G H M x d Q W r q => by
  obtain ⟨p, ns, rfl, h, k⟩ := gBls_ok W r q
  exact ⟨p, ns, rfl, h, kont.here k W (.bl _)⟩
theorem len_pos {ns : List Int} (h : ns ≠ []) : 0 < ns.length := List.length_pos_iff.mpr h
theorem o_min (hc : X.calm = true) : ON X (.builtin "min") (g1 (gInts fMin)) := ON.of1 (cr_min hc) (gInts_mono fun _ _ _ _ w q => ⟨q.1, w _ _ q.2⟩) fun al F G H M x d Q W r q => by
  obtain ⟨p, ns, rfl, h, n0, k⟩ := gInts_ok W r q
  exact ⟨p, ns, rfl, h, len_pos n0, fun m hm hl => by rw [minI_uniq hm hl] at k; exact kont.here k W (.int _)⟩
theorem o_max (hc : X.calm = true) : ON X (.builtin "max") (g1 (gInts fMax)) := ON.of1 (cr_max hc) (gInts_mono fun _ _ _ _ w q => ⟨q.1, w _ _ q.2⟩) fun al F G H M x d Q W r q => by
  obtain ⟨p, ns, rfl, h, n0, k⟩ := gInts_ok W r q
  exact ⟨p, ns, rfl, h, len_pos n0, fun m hm hl => by rw [maxI_uniq hm hl] at k; exact kont.here k W (.int _)⟩
theorem o_max2 (hc : X.calm = true) : ON X (.builtin "max") (g2I fun m n => if n > m then n else m) := ON.of (call_max2 hc) (g2I_mono _) fun al F G H M xs ds Q W rs q => by
  unfold g2I at q
  split at q
  · cases rs with
    | cons r1 rs =>
      cases rs with
      | cons r2 rs =>
        cases rs; cases r1; cases r2
        exact ⟨_, _, rfl, kont.here q W (.int _)⟩
  · exact q.elim
theorem o_min2 (hc : X.calm = true) : ON X (.builtin "min") (g2I fun m n => if n < m then n else m) := ON.of (call_min2 hc) (g2I_mono _) fun al F G H M xs ds Q W rs q => by
  unfold g2I at q
  split at q
  · cases rs with
    | cons r1 rs =>
      cases rs with
      | cons r2 rs =>
        cases rs; cases r1; cases r2
        exact ⟨_, _, rfl, kont.here q W (.int _)⟩
  · exact q.elim
end
end DL

/-! DL5: displays, subscripts, slices, lists that change, repr, isinstance, what loops walk, while, defs. -/
namespace DL
open PySem PySem.Spec PyProof.Rows L2
section
variable {X : Cx} {a b c : Expr} {fa fb fc : DTE} {pos : Pos} {ta tb : DTT} {es : List Expr} {fr : DTA}
/-! ### displays -/
@[reducible] def dTup (fr : DTA) : DTE := fun ρ M Q => fr ρ M fun ds M1 => ds.length ≤ 100000 ∧ Q (.tup ds) M1
@[reducible] def dLst (fr : DTA) : DTE := fun ρ M Q => fr ρ M fun ds M1 => ds.length ≤ 100000 ∧ Q (.lst ds) M1
/-- a list that will be changed -/
@[reducible] def dLstM (fr : DTA) : DTE := fun ρ M Q => fr ρ M fun ds M1 => ds.length ≤ 100000 ∧ Q (.ref M1.length) (M1 ++ [.lst ds])
theorem d_tup {k : Nat} (h : DA X es fr) : DE X (.Tuple es k pos) (dTup fr) := by
  refine ⟨PE.of (pe_tup h.pa) fun σ H Q ⟨ρ, M, al, F, G, W, s, q⟩ => ?_, fun ρ M Q Q' w q => h.mono _ _ _ _ (fun ds M1 q1 => ⟨q1.1, w _ _ q1.2⟩) q⟩
  refine h.seq W s q fun ds M1 al1 F1 H1 vs q1 e1 W1 r1 s1 => ⟨le_line (by rw [r1.length]; exact q1.1), fun p hp => kont.tup (kont.ext q1.2 e1) W1 r1 hp⟩
theorem d_lst (h : DA X es fr) : DE X (.List es pos) (dLst fr) := by
  refine ⟨PE.of (pe_lst h.pa) fun σ H Q ⟨ρ, M, al, F, G, W, s, q⟩ => ?_, fun ρ M Q Q' w q => h.mono _ _ _ _ (fun ds M1 q1 => ⟨q1.1, w _ _ q1.2⟩) q⟩
  refine h.seq W s q fun ds M1 al1 F1 H1 vs q1 e1 W1 r1 s1 => ⟨le_line (by rw [r1.length]; exact q1.1), fun p hp => kont.lst (kont.ext q1.2 e1) W1 r1 hp⟩
theorem d_lstM (h : DA X es fr) : DE X (.List es pos) (dLstM fr) := by
  refine ⟨PE.of (pe_lst h.pa) fun σ H Q ⟨ρ, M, al, F, G, W, s, q⟩ => ?_, fun ρ M Q Q' w q => h.mono _ _ _ _ (fun ds M1 q1 => ⟨q1.1, w _ _ q1.2⟩) q⟩
  refine h.seq W s q fun ds M1 al1 F1 H1 vs q1 e1 W1 r1 s1 => ⟨le_line (by rw [r1.length]; exact q1.1), fun p hp => kont.new (kont.ext q1.2 e1) W1 r1 hp⟩
/-- *e in a display -/
def itemsOf : D → Sto → Option (List D)
  | .tup ds, _ => some ds
  | d, M => seqOf d M
theorem itemsOf_ok {K : PySem.W.Frag} {al : List Addr} {F G H : Hp} {M : Sto} {v : V} {d : D} {ds : List D} (W : Wd K al F G H M) (r : Rp K F al v d) (h : itemsOf d M = some ds) : ∃ a xs, v = .ref a ∧ (H a = some (.tup xs) ∨ H a = some (.lst xs)) ∧ Rps K F al xs ds := by
  unfold itemsOf at h
  split at h
  · cases h
    cases r with
    | tup a b => exact ⟨_, _, rfl, .inl (W.sm _ _ a), b⟩
  · obtain ⟨p, xs, rfl, h1, h2⟩ := seqOf_ok W r h
    exact ⟨p, xs, rfl, .inr h1, h2⟩
@[reducible] def dStar (fa : DTE) (fr : DTA) : DTA := fun ρ M Q => fa ρ M fun d M1 => match itemsOf d M1 with
  | some xs => fr ρ M1 fun ys M2 => Q (xs ++ ys) M2
  | none => False
theorem d_star {p : Pos} (h : DE X a fa) (hr : DA X es fr) (hs : starEach (.Starred a p :: es) X.env = (true, eval a X.env) :: starEach es X.env := by rfl) : DA X (.Starred a p :: es) (dStar fa fr) := by
  refine ⟨PA.of (StX.pa_star h.pe hr.pa hs) fun σ H Q ⟨ρ, M, al, F, G, W, s, q⟩ => ?_, fun ρ M Q Q' w q => h.mono _ _ _ _ (fun d M1 q1 => ?_) q⟩
  · refine h.seq W s q fun d M1 al1 F1 H1 v q1 e1 W1 r1 s1 => ?_
    split at q1
    · next ds e =>
      obtain ⟨p, xs, rfl, h1, h2⟩ := itemsOf_ok W1 r1 e
      refine ⟨p, xs, rfl, h1.imp SqT.of SqL.of, ?_⟩
      exact hr.seq W1 s1 q1 fun ys M2 al2 F2 H2 vs q2 e2 W2 r2 s2 => q2 al2 F2 H2 _ (e1.trans e2) W2 ((h2.ext e2).append r2)
    · exact q1.elim
  · try dsimp only at q1 ⊢
    split at q1
    · exact hr.mono _ _ _ _ (fun ys M2 q2 => w _ _ q2) q1
    · exact q1.elim
/-! ### subscripts -/
@[reducible] def gIx : G2 := fun x y M Q => match x, y with
  | .str z, .int i => z.length ≤ 100000 ∧ (match atI z.cps.toList i with
    | some c => Q (.str ⟨#[c]⟩) M
    | none => False)
  | x, .int i => match itemsOf x M with
    | some ds => match atI ds i with
      | some d => Q d M
      | none => False
    | none => False
  | _, _ => False
theorem gIx_mono : Mono2 gIx := fun x y M Q Q' w q => by
  unfold gIx at q ⊢
  split at q
  · refine ⟨q.1, ?_⟩
    have q := q.2
    split at q
    · next e => exact w _ _ q
    · exact q.elim
  · split at q
    · split at q
      · exact w _ _ q
      · exact q.elim
    · exact q.elim
  · exact q.elim
theorem Rps.at {K : PySem.W.Frag} {F : Hp} {al : List Addr} {xs : List V} {ds : List D} {i : Int} {d : D} (h : Rps K F al xs ds) (e : atI ds i = some d) : ∃ v, atI xs i = some v ∧ Rp K F al v d := by
  unfold atI at e ⊢
  rw [h.length]
  cases q : ixN ds.length i with
  | none => rw [q] at e; cases e
  | some j =>
    rw [q] at e
    exact h.get e
theorem d_ix (ha : DE X a fa) (hb : DE X b fb) (hs : PlainIx b) : DE X (.Subscript a b pos) (dBin gIx fa fb) := by
  refine ⟨PE.of (pe_ix ix_seq ha.pe hb.pe hs) fun σ H Q ⟨ρ, M, al, F, G, W, s, q⟩ => ?_, dBin_mono gIx_mono ha hb⟩
  refine ha.seq W s q fun dx M1 al1 F1 H1 v q1 e1 W1 r1 s1 => ?_
  refine hb.seq W1 s1 q1 fun dy M2 al2 F2 H2 u q2 e2 W2 r2 s2 => ?_
  have r1 := r1.ext e2
  unfold gIx at q2
  split at q2
  · cases r1; cases r2
    have q3 := q2.2
    split at q3
    · next e => exact .inr (.inr ⟨_, _, _, rfl, rfl, le_line q2.1, e, kont.here (kont.ext q3 (e1.trans e2)) W2 (.str _)⟩)
    · exact q3.elim
  · cases r2
    split at q2
    · next ds e3 =>
      split at q2
      · next d e =>
        obtain ⟨p, xs, rfl, h1, h2⟩ := itemsOf_ok W2 r1 e3
        obtain ⟨z, h3, h4⟩ := h2.at (show atI ds _ = some d from e)
        have fin := kont.here (kont.ext q2 (e1.trans e2)) W2 h4
        rcases h1 with h1 | h1
        · exact .inr (.inl ⟨_, _, _, _, rfl, rfl, SqT.of h1, h3, fin⟩)
        · exact .inl ⟨_, _, _, _, rfl, rfl, SqL.of h1, h3, fin⟩
      · exact q2.elim
    · exact q2.elim
  · exact q2.elim
/-! ### slices -/
def cut {α : Type} (xs : List α) (lo hi : Option Int) : List α := (xs.drop (HT.sIx xs.length 0 lo)).take (HT.sIx xs.length xs.length hi - HT.sIx xs.length 0 lo)
theorem Rps.cut {K : PySem.W.Frag} {F : Hp} {al : List Addr} {xs : List V} {ds : List D} (h : Rps K F al xs ds) (lo hi : Option Int) : Rps K F al (cutV xs lo hi) (DL.cut ds lo hi) := by
  unfold cutV DL.cut
  rw [h.length]
  exact (h.drop _).take _
abbrev DTO := Dn → Sto → (Option Int → Sto → Prop) → Prop
def kontO (K : PySem.W.Frag) (al : List Addr) (F G : Hp) (Q : Option Int → Hp → Prop) : Option Int → Sto → Prop := fun b M' => ∀ al' F' H', Ext al F al' F' → Wd K al' F' G H' M' → Q b H'
def LiftO (X : Cx) (f : DTO) : TO := fun σ H Q => ∃ ρ M al F G, Wd X.K al F G H M ∧ Es X F G al σ ρ ∧ f ρ M (kontO X.K al F G Q)
structure DO (X : Cx) (e : Option Expr) (f : DTO) : Prop where
  po : PO X e (LiftO X f)
  mono : ∀ ρ M (Q Q' : Option Int → Sto → Prop), (∀ d M, Q d M → Q' d M) → f ρ M Q → f ρ M Q'
theorem PO.of {e : Option Expr} {t t' : TO} (h : PO X e t) (w : ∀ σ H Q, t' σ H Q → t σ H Q) : PO X e t' := ⟨fun pins s σ H Q I q => h.run pins s σ H Q I (w σ H Q q)⟩
@[reducible] def dNoPart : DTO := fun _ M Q => Q none M
@[reducible] def dPart (fa : DTE) : DTO := fun ρ M Q => fa ρ M fun d M1 => match d with
  | .int i => Q (some i) M1
  | _ => False
theorem do_none : DO X none dNoPart := ⟨PO.of po_none fun σ H Q ⟨ρ, M, al, F, G, W, s, q⟩ => q al F H (Ext.refl _ _) W, fun _ _ _ _ w q => w _ _ q⟩
theorem do_some (h : DE X a fa) : DO X (some a) (dPart fa) := by
  refine ⟨PO.of (po_some h.pe) fun σ H Q ⟨ρ, M, al, F, G, W, s, q⟩ => ?_, fun ρ M Q Q' w q => h.mono _ _ _ _ (fun d M1 q1 => ?_) q⟩
  · refine h.seq W s q fun d M1 al1 F1 H1 v q1 e1 W1 r1 s1 => ?_
    cases r1 <;> first | exact q1.elim | exact ⟨_, rfl, q1 al1 F1 H1 e1 W1⟩
  · cases d <;> first | exact q1.elim | exact w _ _ q1
theorem DO.seq {e : Option Expr} {f : DTO} (h : DO X e f) {ρ : Dn} {M : Sto} {al : List Addr} {F G H : Hp} {σ : L2.St} {R : Option Int → Sto → Prop} {P : Option Int → Hp → Prop} (W : Wd X.K al F G H M) (s : Es X F G al σ ρ) (q : f ρ M R)
    (k : ∀ d M1 al1 F1 H1, R d M1 → Ext al F al1 F1 → Wd X.K al1 F1 G H1 M1 → Es X F1 G al1 σ ρ → P d H1) : LiftO X f σ H P :=
  ⟨ρ, M, al, F, G, W, s, h.mono _ _ _ _ (fun d M1 r al1 F1 H1 e W1 => k d M1 al1 F1 H1 r e W1 (s.ext e)) q⟩
@[reducible] def gSl (lo hi : Option Int) : G1 := fun d M Q => match d with
  | .tup ds => Q (.tup (cut ds lo hi)) M
  | .scr ns => Q (.lst (cut (ns.map D.int) lo hi)) M
  | .str z => z.length ≤ 100000 ∧ Q (.str (cutS z lo hi)) M
  | d => match seqOf d M with
    | some ds => Q (.lst (cut ds lo hi)) M
    | none => False
theorem gSl_mono (lo hi : Option Int) : Mono1 (gSl lo hi) := fun d M Q Q' w q => by
  unfold gSl at q ⊢
  split at q
  · exact w _ _ q
  · exact w _ _ q
  · exact ⟨q.1, w _ _ q.2⟩
  · split at q
    · exact w _ _ q
    · exact q.elim
@[reducible] def dSl (fa : DTE) (lo hi : DTO) : DTE := fun ρ M Q => fa ρ M fun x M1 => lo ρ M1 fun l M2 => hi ρ M2 fun h M3 => gSl l h x M3 Q
theorem cut_whole {ds : List D} {lo hi : Option Int} (h1 : HT.sIx ds.length 0 lo = 0) (h2 : HT.sIx ds.length ds.length hi = ds.length) : cut ds lo hi = ds := by
  unfold cut
  rw [h1, h2, List.drop_zero, Nat.sub_zero, List.take_length]
theorem d_slice {lo hi : Option Expr} {fl fh : DTO} {p2 : Pos} (ha : DE X a fa) (hl : DO X lo fl) (hh : DO X hi fh) : DE X (.Subscript a (.Slice lo hi none p2) pos) (dSl fa fl fh) := by
  refine ⟨PE.of (pe_slice (SlR.or sl_tupA (SlR.or sl_list sl_str)) ha.pe hl.po hh.po) fun σ H Q ⟨ρ, M, al, F, G, W, s, q⟩ => ?_, fun ρ M Q Q' w q => ha.mono _ _ _ _ (fun d M1 q1 => hl.mono _ _ _ _ (fun l M2 q2 => hh.mono _ _ _ _ (fun h M3 q3 => gSl_mono _ _ _ _ _ _ w q3) q2) q1) q⟩
  refine ha.seq W s q fun d M1 al1 F1 H1 v q1 e1 W1 r1 s1 => ?_
  refine hl.seq W1 s1 q1 fun l M2 al2 F2 H2 q2 e2 W2 s2 => ?_
  refine hh.seq W2 s2 q2 fun h M3 al3 F3 H3 q3 e3 W3 s3 => ?_
  have r1 := r1.ext (e2.trans e3)
  have eA := e1.trans (e2.trans e3)
  unfold gSl at q3
  split at q3
  · cases r1 with
    | tup a1 b1 =>
      refine .inl ⟨_, _, rfl, SqT.of (W3.sm _ _ a1), fun z => ?_, fun _ p hp => kont.tup (kont.ext q3 eA) W3 (b1.cut _ _) hp⟩
      rw [b1.length] at z
      rw [cut_whole z.1 z.2] at q3
      exact kont.here (kont.ext q3 eA) W3 (.tup a1 b1)
  · cases r1 with
    | scr a1 => exact .inr (.inl ⟨_, _, rfl, W3.sm.l a1, fun p hp => kont.lst (kont.ext q3 eA) W3 (Rps.of_ints.cut _ _) hp⟩)
  · cases r1
    exact .inr (.inr ⟨_, rfl, le_line q3.1, kont.here (kont.ext q3.2 eA) W3 (.str _)⟩)
  · split at q3
    · next e =>
      obtain ⟨p1, xs1, rfl, h1, s1⟩ := seqOf_ok W3 r1 e
      exact .inr (.inl ⟨_, _, rfl, SqL.of h1, fun p hp => kont.lst (kont.ext q3 eA) W3 (s1.cut _ _) hp⟩)
    · exact q3.elim
/-! ### lists that change -/
theorem cell_ok {K : PySem.W.Frag} {al : List Addr} {F G H : Hp} {M : Sto} {v : V} {n : Nat} {ds : List D} (W : Wd K al F G H M) (r : Rp K F al v (.ref n)) (e : M[n]? = some (.lst ds)) : ∃ p xs, v = .ref p ∧ al[n]? = some p ∧ H p = some (.lst xs) ∧ Rps K F al xs ds := by
  cases r with
  | ref a =>
    obtain ⟨xs, q, rs⟩ := W.cel _ _ _ e a
    exact ⟨_, xs, rfl, a, q, rs⟩
def isCell (M : Sto) (n : Nat) : Prop := ∃ ds, M[n]? = some (.lst ds)
theorem isCell.ex {M : Sto} {n : Nat} (h : isCell M n) : ∃ ds, M[n]? = some (.lst ds) := h
/-- a method of a list of the store: what it makes of the list and gives back -/
@[reducible] def dMt (step : List D → List D → (List D → D → Prop) → Prop) (fo : DTE) (fr : DTA) : DTE := fun ρ M Q => fo ρ M fun o M1 => match o with
  | .ref n => isCell M1 n ∧ fr ρ M1 fun ys M2 => match M2[n]? with
    | some (.lst ds) => step ds ys fun ds' d => Q d (M2.set n (.lst ds'))
    | _ => False
  | _ => False
theorem dMt_mono {step : List D → List D → (List D → D → Prop) → Prop} (hst : ∀ ds ys (k k' : List D → D → Prop), (∀ a b, k a b → k' a b) → step ds ys k → step ds ys k') {o : Expr} {fo : DTE} (ho : DE X o fo) (hr : DA X es fr) :
    ∀ ρ M (Q Q' : DK), (∀ d M, Q d M → Q' d M) → dMt step fo fr ρ M Q → dMt step fo fr ρ M Q' := fun ρ M Q Q' w q => ho.mono _ _ _ _ (fun d M1 q1 => by
  cases d <;> first | exact q1.elim | skip
  refine ⟨q1.1, hr.mono _ _ _ _ (fun ys M2 q2 => ?_) q1.2⟩
  try dsimp only at q2 ⊢
  split at q2
  · exact hst _ _ _ _ (fun a b k => w _ _ k) q2
  · exact q2.elim) q
/-- the method's reading, from its data -/
theorem mt_ok {step : List D → List D → (List D → D → Prop) → Prop} {r : V → List V → Hp → VK → Prop} {o : Expr} {fo : DTE} (ho : DE X o fo) (hr : DA X es fr)
    (hk : ∀ (K : PySem.W.Frag) al F (H : Hp) p xs ds us ys Q, H p = some (.lst xs) → Rps K F al xs ds → Rps K F al us ys → step ds ys (fun ds' d => ∀ xs' v, Rps K F al xs' ds' → Rp K F al v d → Q v (upd H p (.lst xs'))) → r (.ref p) us H Q)
    (hst : ∀ ds ys (k k' : List D → D → Prop), (∀ a b, k a b → k' a b) → step ds ys k → step ds ys k') {σ : L2.St} {H : Hp} {Q : VK} (h : Lift X (dMt step fo fr) σ H Q) :
    tBM X.K "list" r (Lift X fo) (LiftA X fr) σ H Q := by
  obtain ⟨ρ, M, al, F, G, W, s, q⟩ := h
  refine ho.seq W s q fun d M1 al1 F1 H1 v q1 e1 W1 r1 s1 => ?_
  cases d <;> first | exact q1.elim | skip
  obtain ⟨ds, e⟩ := q1.1.ex
  obtain ⟨p, xs, rfl, hp, hx, rs⟩ := cell_ok W1 r1 e
  refine ⟨.inl ⟨rfl, xs, SqL.of hx⟩, hr.seq W1 s1 q1.2 fun ys M2 al2 F2 H2 us q2 e2 W2 r2 s2 => ?_⟩
  try dsimp only at q2
  split at q2
  · next ds2 c2 =>
    obtain ⟨p2, xs2, z, hp2, hx2, rs2⟩ := cell_ok W2 (r1.ext e2) c2
    cases z
    refine hk X.K al2 F2 H2 p xs2 ds2 us ys Q hx2 rs2 r2 (hst _ _ _ _ (fun ds' d k xs' v h1 h2 => ?_) q2)
    exact k al2 F2 _ _ (e1.trans e2) (W2.write hp2 ⟨xs', upd_same, h1⟩) h2
  · exact q2.elim
@[reducible] def stApp : List D → List D → (List D → D → Prop) → Prop := fun ds ys k => match ys with
  | [y] => ds.length < 100000 ∧ k (ds ++ [y]) .non
  | _ => False
theorem stApp_mono : ∀ ds ys (k k' : List D → D → Prop), (∀ a b, k a b → k' a b) → stApp ds ys k → stApp ds ys k' := fun ds ys k k' w q => by
  unfold stApp at q ⊢
  split at q
  · exact ⟨q.1, w _ _ q.2⟩
  · exact q.elim
theorem d_append {o e : Expr} {fo : DTE} {apos cpos : Pos} (ho : DE X o fo) (hr : DA X [e] fr) (hb : attributeBase o "append" X.env (eval o X.env) = eval o X.env := by rfl)
    (h2 : ((backTo cpos (starEach [e] X.env)).all (fun x => !x.1) && (backToKw cpos (keywordEach [] X.env)).all (fun x => x.1.isSome) && decide ([e].length + ([] : List Keyword).length + (if ([] : List Keyword).isEmpty = true then 0 else 1) < 30)) = true := by rfl)
    (h3 : (apos.endLine == cpos.line) = true := by rfl) (h4 : starEach [e] X.env = (false, eval e X.env) :: starEach [] X.env := by rfl) (h5 : (backTo cpos (starEach [] X.env)).any (·.1) = false := by rfl) :
    DE X (.Call (.Attribute o "append" apos) [e] [] cpos) (dMt stApp fo fr) :=
  ⟨PE.of (pe_bm PySem.F.plainAttrs_list PySem.F.slot_list_append PySem.F.type_list_append mt_append ho.pe hr.pa hb h2 h3 h4 h5) fun σ H Q h => mt_ok ho hr (fun K al F H p xs ds us ys Q hp rs r2 q => by
    unfold stApp at q
    split at q
    · cases r2 with
      | cons a b =>
        cases b
        exact ⟨_, _, _, rfl, rfl, hp, lt_line (by rw [rs.length]; exact q.1), q.2 _ _ (rs.append (.cons a .nil)) .non⟩
    · exact q.elim) stApp_mono h, dMt_mono stApp_mono ho hr⟩
@[reducible] def stExt : List D → List D → (List D → D → Prop) → Prop := fun ds ys k => match ys with
  | [.lst zs] => ds.length + zs.length ≤ 100000 ∧ k (ds ++ zs) .non
  | _ => False
@[reducible] def dMt0 (step : List D → (List D → D → Prop) → Prop) (fo : DTE) : DTE := fun ρ M Q => fo ρ M fun o M1 => match o with
  | .ref n => match M1[n]? with
    | some (.lst ds) => step ds fun ds' d => Q d (M1.set n (.lst ds'))
    | _ => False
  | _ => False
@[reducible] def stPop : List D → (List D → D → Prop) → Prop := fun ds k => match ds.getLast? with
  | some y => k ds.dropLast y
  | none => False
theorem Rps.dropLast {K : PySem.W.Frag} {F : Hp} {al : List Addr} {xs : List V} {ds : List D} (h : Rps K F al xs ds) : Rps K F al xs.dropLast ds.dropLast := by
  rw [List.dropLast_eq_take, List.dropLast_eq_take, h.length]
  exact h.take _
theorem d_pop {o : Expr} {fo : DTE} {apos cpos : Pos} (ho : DE X o fo) (hb : attributeBase o "pop" X.env (eval o X.env) = eval o X.env := by rfl) (h3 : (apos.endLine == cpos.line) = true := by rfl) :
    DE X (.Call (.Attribute o "pop" apos) [] [] cpos) (dMt0 stPop fo) := by
  refine ⟨PE.of (pe_bm0 PySem.F.plainAttrs_list PySem.F.slot_list_pop PySem.F.type_list_pop mt_pop ho.pe hb h3) fun σ H Q ⟨ρ, M, al, F, G, W, s, q⟩ => ?_, fun ρ M Q Q' w q => ho.mono _ _ _ _ (fun d M1 q1 => ?_) q⟩
  · refine ho.seq W s q fun d M1 al1 F1 H1 v q1 e1 W1 r1 s1 => ?_
    cases d <;> first | exact q1.elim | skip
    try dsimp only at q1
    split at q1
    · next ds e =>
      obtain ⟨p, xs, rfl, hp, hx, rs⟩ := cell_ok W1 r1 e
      unfold stPop at q1
      split at q1
      · next y ey =>
        rw [List.getLast?_eq_getElem?] at ey
        obtain ⟨v, hv, rv⟩ := rs.get ey
        rw [← rs.length] at hv
        refine ⟨.inl ⟨rfl, xs, SqL.of hx⟩, _, _, _, rfl, rfl, hx, hv, q1 al1 F1 _ _ e1 (W1.write hp ⟨_, upd_same, rs.dropLast⟩) rv⟩
      · exact q1.elim
    · exact q1.elim
  · cases d <;> first | exact q1.elim | skip
    try dsimp only at q1 ⊢
    split at q1
    · unfold stPop at q1 ⊢
      split at q1
      · exact w _ _ q1
      · exact q1.elim
    · exact q1.elim
/-- o[i] = e -/
@[reducible] def dgSub (fo fi : DTE) : DTG := fun d ρ M Q => fo ρ M fun o M1 => fi ρ M1 fun i M2 => match o, i with
  | .ref n, .int k => match M2[n]? with
    | some (.lst ds) => match ixN ds.length k with
      | some j => Q ρ (M2.set n (.lst (ds.set j d)))
      | none => False
    | _ => False
  | _, _ => False
theorem dg_sub {o i : Expr} {fo fi : DTE} (ho : DE X o fo) (hi : DE X i fi) (h1 : ∀ (v : Value), assign (.Subscript o i pos) X.env v = (do
                let ov ← holding [v] (eval o X.env)
                let iv ← holding [v, ov] (eval i X.env)
                standAt pos
                holding [v, ov, iv] (setItem ov iv v)
                release [v, ov, iv] []) := by intro _; rfl) : DG X (.Subscript o i pos) (dgSub fo fi) [] := by
  refine ⟨PG.of (pg_sub ho.pe hi.pe set_list h1) fun v σ H Q ⟨d, ρ, M, al, F, G, W, s, r, q⟩ => ?_, fun d ρ M Q Q' w q => ho.mono _ _ _ _ (fun o M1 q1 => hi.mono _ _ _ _ (fun i M2 q2 => ?_) q1) q⟩
  · refine ho.seq W s q fun od M1 al1 F1 H1 ov q1 e1 W1 r1 s1 => ?_
    refine hi.seq W1 s1 q1 fun idx M2 al2 F2 H2 iv q2 e2 W2 r2 s2 => ?_
    split at q2
    · next n k =>
      split at q2
      · next ds e =>
        split at q2
        · next j ej =>
          obtain ⟨p, xs, rfl, hp, hx, rs⟩ := cell_ok W2 (r1.ext e2) e
          cases r2
          rw [← rs.length] at ej
          refine ⟨_, _, _, _, rfl, rfl, hx, ej, ?_⟩
          exact q2 al2 F2 _ σ (e1.trans e2) (W2.write hp ⟨_, upd_same, Rps.set (r.ext (e1.trans e2)) j rs⟩) s2.sl rfl (Off.refl _ _)
        · exact q2.elim
      · exact q2.elim
    · exact q2.elim
  · try dsimp only at q2 ⊢
    split at q2
    · split at q2
      · split at q2
        · exact w _ _ q2
        · exact q2.elim
      · exact q2.elim
    · exact q2.elim
end
end DL

/-! DL6: repr, isinstance, what loops walk, while, slices with a step, defs and their calls. -/
namespace DL
open PySem PySem.Spec PyProof.Rows L2
section
variable {X : Cx} {a b c : Expr} {fa fb fc : DTE} {pos : Pos} {ta tb : DTT} {es : List Expr} {fr : DTA}
/-! ### repr -/
def showOk (d : D) (M : Sto) : Prop := pu (vw d M) = true ∧ (toPy (vw d M)).showable = true ∧ (toPy (vw d M)).depth ≤ 60 ∧ (toPy (vw d M)).shown.length ≤ sizeLine
@[reducible] def gRepr : G1 := fun d M Q => showOk d M ∧ Q (.str (toPy (vw d M)).shown) M
theorem gRepr_mono : Mono1 gRepr := fun d M Q Q' w q => ⟨q.1, w _ _ q.2⟩
theorem Dp.noDict {K : PySem.W.Frag} {H : Hp} : ∀ {d : D}, pu d = true → (toPy d).hasDict = false := by
  intro d h
  have key : (∀ d : D, pu d = true → (toPy d).hasDict = false) ∧ (∀ ds : List D, pus ds = true → PyData.hasDictAll (toPys ds) = false) := by
    refine ⟨fun d => ?_, fun ds => ?_⟩
    · exact D.rec (motive_1 := fun d => pu d = true → (toPy d).hasDict = false) (motive_2 := fun ds => pus ds = true → PyData.hasDictAll (toPys ds) = false)
        (fun _ => rfl) (fun _ _ => rfl) (fun _ _ => rfl) (fun _ _ => rfl) (fun ds ih h => by
          show PyData.hasDict (.tuple (toPys ds)) = false
          unfold PyData.hasDict
          exact ih h) (fun ds ih h => by
          show PyData.hasDict (.list (toPys ds)) = false
          unfold PyData.hasDict
          exact ih h) (fun _ _ _ h => by cases h) (fun _ h => by cases h) (fun _ h => by cases h) (fun _ _ _ _ _ _ h => by cases h) (fun _ => by unfold toPys PyData.hasDictAll; rfl) (fun d ds i1 i2 h => by
          have h' : pu d = true ∧ pus ds = true := by simpa [pus] using h
          unfold toPys PyData.hasDictAll
          rw [i1 h'.1, i2 h'.2]
          rfl) d
    · exact D.rec_1 (motive_1 := fun d => pu d = true → (toPy d).hasDict = false) (motive_2 := fun ds => pus ds = true → PyData.hasDictAll (toPys ds) = false)
        (fun _ => rfl) (fun _ _ => rfl) (fun _ _ => rfl) (fun _ _ => rfl) (fun ds ih h => by
          show PyData.hasDict (.tuple (toPys ds)) = false
          unfold PyData.hasDict
          exact ih h) (fun ds ih h => by
          show PyData.hasDict (.list (toPys ds)) = false
          unfold PyData.hasDict
          exact ih h) (fun _ _ _ h => by cases h) (fun _ h => by cases h) (fun _ h => by cases h) (fun _ _ _ _ _ _ h => by cases h) (fun _ => by unfold toPys PyData.hasDictAll; rfl) (fun d ds i1 i2 h => by
          have h' : pu d = true ∧ pus ds = true := by simpa [pus] using h
          unfold toPys PyData.hasDictAll
          rw [i1 h'.1, i2 h'.2]
          rfl) ds
  exact key.1 d h
theorem o_repr (hgd : X.A.guards = some []) (hu : X.A.units + 64 < cLine) : ON X (.builtin "repr") (g1 gRepr) := by
  refine ⟨fun pins s σ al F G H M xs us ds Q I rv W rs q => ?_, g1_mono gRepr_mono⟩
  match ds, rs, q with
  | [], _, q => exact q.elim
  | _ :: _ :: _, _, q => exact q.elim
  | [d], .cons r .nil, q =>
    cases rv with
    | cons r1 r2 =>
      cases r2
      obtain ⟨⟨h1, h2, h3, h4⟩, k⟩ := q
      have dp := dp_vw W r h1
      obtain ⟨as, rd⟩ := Dp.reads I _ _ _ dp r1
      have fin : ∀ (h' : Heap) (u : Tok) (tk : Nat), (∀ b o, s.heap.get? b = some o → h'.get? b = some o) → EP X pins σ Q (.str (toPy (vw d M)).shown u) { s with heap := h', toks := tk } :=
        fun h' u tk hk => ⟨.str _, H, I.kept hk, ⟨u, rfl⟩, kont.here k W (.str _)⟩
      generalize hv : vw d M = e at *
      match e, rd, h1, h2, h3, h4, fin with
      | .tup ds, .tuple x1 x2 x3 x4, h1, h2, h3, h4, fin => exact repr_of_reads' (.tuple x1 x2 x3 x4) h2 (PyData.noDict_hsm (Dp.noDict (K := X.K) (H := H) h1)) hgd (by have h3' : (PyData.tuple (toPys ds)).depth ≤ 60 := h3; omega) (fun _ _ z => z) fin h4
      | .lst ds, .list x1 x2 x3 x4, h1, h2, h3, h4, fin => exact repr_of_reads' (.list x1 x2 x3 x4) h2 (PyData.noDict_hsm (Dp.noDict (K := X.K) (H := H) h1)) hgd (by have h3' : (PyData.list (toPys ds)).depth ≤ 60 := h3; omega) (fun _ _ z => z) fin h4
      | .int i, .int _ t, h1, h2, h3, h4, fin =>
        have hz : i.natAbs.log2 < 1920 := by simpa [toPy, PyData.showable] using h2
        exact PySem.P.repr_of_int hz (fin s.heap s.toks (s.toks + 1) fun _ _ z => z)
      | .non, .none, h1, h2, h3, h4, fin => exact PySem.P.repr_of_none (fin s.heap s.toks (s.toks + 1) fun _ _ z => z)
      | .bl i, .bool _, h1, h2, h3, h4, fin => exact PySem.P.repr_of_bool (fin s.heap s.toks (s.toks + 1) fun _ _ z => z)
      | .str i, .str _ _, h1, h2, h3, h4, fin => exact PySem.P.repr_of_str (fin s.heap s.toks (s.toks + 1) fun _ _ z => z) h4
/-! ### isinstance of a built-in class -/
def tyNm : D → Sto → Option String
  | .non, _ => some "NoneType"
  | .bl _, _ => some "bool"
  | .int _, _ => some "int"
  | .str _, _ => some "str"
  | .tup _, _ => some "tuple"
  | .lst _, _ => some "list"
  | .dct _ _, _ => some "dict"
  | .ref n, M => match M[n]? with
    | some (.lst _) => some "list"
    | _ => none
  | .scr _, _ => none
  | .exo _ _ _ _ _, _ => none
theorem tyNm_ok {K : PySem.W.Frag} {al : List Addr} {F G H : Hp} {M : Sto} {v : V} {d : D} {T : String} (W : Wd K al F G H M) (r : Rp K F al v d) (h : tyNm d M = some T) : TyX K H v (.type T) := by
  cases r with
  | non => cases h; exact .base .non
  | bl b => cases h; exact .base (.bl b)
  | int i => cases h; exact .base (.int i)
  | str x => cases h; exact .base (.str x)
  | tup a b => cases h; exact .base (.tup (W.sm _ _ a))
  | lst a b => cases h; exact .base (.lst (W.sm _ _ a))
  | dct a l b => cases h; exact .base (.dK (W.sm _ _ a))
  | scr a => cases h
  | exo0 => cases h
  | exo a l b => cases h
  | ref a =>
    unfold tyNm at h
    dsimp only at h
    split at h
    · next ds e =>
      cases h
      obtain ⟨xs, q, rs⟩ := W.cel _ _ _ e a
      exact .base (.lst q)
    · cases h
/-- T's name of the class; tab: which of our classes are it -/
@[reducible] def dIsi (tab : String → Bool) (fa : DTE) : DTE := fun ρ M Q => fa ρ M fun d M1 => match tyNm d M1 with
  | some t => Q (.bl (tab t)) M1
  | none => False
def tabOk (T : String) (tab : String → Bool) : Prop := ∀ t ∈ ["NoneType", "bool", "int", "str", "tuple", "list", "dict"], kitB t T = some (tab t)
theorem tyNm_in {d : D} {M : Sto} {T : String} (h : tyNm d M = some T) : T ∈ ["NoneType", "bool", "int", "str", "tuple", "list", "dict"] := by
  cases d with
  | ref n =>
    unfold tyNm at h
    dsimp only at h
    split at h
    · cases h; simp
    · cases h
  | scr ns => cases h
  | exo a c o ks ds => cases h
  | _ => cases h; simp
theorem d_isi {x : Str} {T : String} {tab : String → Bool} {p p2 : Pos} (ht : tabOk T tab) (hg : Gl X "isinstance") (hm : X.mg "isinstance" = none) (hg2 : Gl X x) (hm2 : X.mg x = none) (hv2 : bootBuiltins x = some (.type T)) (h : DE X a fa) (hn2 : x ≠ "__name__" := by decide) (hd2 : (x == ("__debug__" : Str)) = false := by decide)
    (hs : starEach [a, .Name x p2] X.env = (false, eval a X.env) :: starEach [.Name x p2] X.env := by rfl) (hs2 : starEach [.Name x p2] X.env = (false, eval (.Name x p2) X.env) :: starEach [] X.env := by rfl) (hpl : (backTo pos (starEach [.Name x p2] X.env)).any (·.1) = false := by rfl) :
    DE X (.Call (.Name "isinstance" p) [a, .Name x p2] [] pos) (dIsi tab fa) := by
  refine ⟨PE.of (pe_callB call_isi hg hm (by decide +kernel) (pa_cons h.pe (pa_cons (pe_bltn (v := .ty T) hg2 hm2 hv2 rfl hn2 hd2) pa_nil hs2) hs) (by decide) (by decide) hs hpl) fun σ H Q ⟨ρ, M, al, F, G, W, s, q⟩ => ?_, fun ρ M Q Q' w q => h.mono _ _ _ _ (fun d M1 q1 => ?_) q⟩
  · refine h.seq W s q fun d M1 al1 F1 H1 v q1 e1 W1 r1 s1 => ?_
    split at q1
    · next t e => exact ⟨v, .ty T, .type t, .type T, tab t, rfl, .ty T, tyNm_ok W1 r1 e, kit_ty (ht t (tyNm_in e)), q1 al1 F1 H1 _ e1 W1 (.bl _)⟩
    · exact q1.elim
  · try dsimp only at q1 ⊢
    split at q1
    · exact w _ _ q1
    · exact q1.elim
def tabInt : String → Bool := fun t => t == "int" || t == "bool"
def tabBool : String → Bool := fun t => t == "bool"
def tabTuple : String → Bool := fun t => t == "tuple"
def tabStr : String → Bool := fun t => t == "str"
def tabList : String → Bool := fun t => t == "list"
theorem tab_int : tabOk "int" tabInt := by unfold tabOk; decide +kernel
theorem tab_bool : tabOk "bool" tabBool := by unfold tabOk; decide +kernel
theorem tab_tuple : tabOk "tuple" tabTuple := by unfold tabOk; decide +kernel
theorem tab_str : tabOk "str" tabStr := by unfold tabOk; decide +kernel
theorem tab_list : tabOk "list" tabList := by unfold tabOk; decide +kernel
/-! ### what loops walk -/
@[reducible] def stYes : Sto → Prop := fun _ => True
/-- a list or tuple: a list of the store must stand while it is walked -/
@[reducible] def diSeq (fa : DTE) : DTI := fun ρ M R => fa ρ M fun d M1 => match d with
  | .tup ds => R ds stYes M1
  | .lst ds => R ds stYes M1
  | .ref n => match M1[n]? with
    | some (.lst ds) => R ds (fun M' => M'[n]? = some (.lst ds)) M1
    | _ => False
  | _ => False
theorem it_of {K : PySem.W.Frag} {al : List Addr} {F : Hp} {xs : List V} {ds : List D} {x : V} {d : D} {i : Nat} (rs : Rps K F al xs ds) (hd : ds[i]? = some d) (hx : xs[i]? = some x) : Rp K F al x d := by
  obtain ⟨v, h1, h2⟩ := rs.get hd
  rw [hx] at h1
  cases h1
  exact h2
theorem itl_ok {K : PySem.W.Frag} {al : List Addr} {F G : Hp} {p : Addr} {ds : List D} {st : Sto → Prop} (h : ∀ al' F' G' H' M', Ext al F al' F' → Sm G G' → Wd K al' F' G' H' M' → st M' → ∃ xs, H' p = some (.lst xs) ∧ Rps K F' al' xs ds) : ItOk K (Itl K p) ds st al F G := by
  intro al' F' G' H' M' e sg W hst i
  obtain ⟨xs, hx, rs⟩ := h al' F' G' H' M' e sg W hst
  refine ⟨fun d hd => ?_, fun hl => ⟨xs, SqL.of hx, by rw [rs.length]; exact hl⟩⟩
  obtain ⟨v, h1, h2⟩ := rs.get hd
  refine ⟨⟨xs, v, SqL.of hx, h1⟩, fun x H'' hy => ?_⟩
  obtain ⟨rfl, hy⟩ := hy
  exact ⟨F', Sm.refl _, W, it_of rs hd (hy xs (SqL.of hx))⟩
theorem itt_ok {K : PySem.W.Frag} {al : List Addr} {F G : Hp} {p : Addr} {ds : List D} {xs : List V} {st : Sto → Prop} (h : F p = some (.tup xs)) (rs : Rps K F al xs ds) : ItOk K (Itt K p) ds st al F G := by
  intro al' F' G' H' M' e sg W hst i
  have hx := W.sm _ _ (e.sm _ _ h)
  have rs := rs.ext e
  refine ⟨fun d hd => ?_, fun hl => ⟨xs, SqT.of hx, by rw [rs.length]; exact hl⟩⟩
  obtain ⟨v, h1, h2⟩ := rs.get hd
  refine ⟨⟨xs, v, SqT.of hx, h1⟩, fun x H'' hy => ?_⟩
  obtain ⟨rfl, hy⟩ := hy
  exact ⟨F', Sm.refl _, W, it_of rs hd (hy xs (SqT.of hx))⟩
theorem di_seq {tg : Expr} (h : DE X a fa) : DI X tg a (diSeq fa) := by
  refine ⟨⟨fun pins s σ H R I q => ?_⟩, fun ρ M Q Q' w q => h.mono _ _ _ _ (fun d M1 q1 => ?_) q⟩
  · obtain ⟨ρ, M, al, F, G, W, es, q⟩ := q
    have hl : Lift X fa σ H (fun v H1 => (∃ p xs, v = .ref p ∧ SqL X.K H1 p xs ∧ R (Itl X.K p) H1) ∨ (∃ p xs, v = .ref p ∧ SqT X.K H1 p xs ∧ R (Itt X.K p) H1)) := h.seq W es q fun d M1 al1 F1 H1 v q1 e1 W1 r1 s1 => by
      cases r1 with
      | tup a1 b1 => exact .inr ⟨_, _, rfl, SqT.of (W1.sm _ _ a1), q1 al1 F1 H1 _ e1 W1 (itt_ok a1 b1)⟩
      | lst a1 b1 => exact .inl ⟨_, _, rfl, SqL.of (W1.sm _ _ a1), q1 al1 F1 H1 _ e1 W1 (itl_ok fun al' F' G' H' M' e sg W' _ => ⟨_, W'.sm _ _ (e.sm _ _ a1), b1.ext e⟩)⟩
      | ref a1 =>
        dsimp only at q1
        split at q1
        · next ds e =>
          obtain ⟨xs, hx, rs⟩ := W1.cel _ _ _ e a1
          exact .inl ⟨_, _, rfl, SqL.of hx, q1 al1 F1 H1 _ e1 W1 (itl_ok fun al' F' G' H' M' e' sg W' st => by
            obtain ⟨xs', hx', rs'⟩ := W'.cel _ _ _ st (e'.get a1)
            exact ⟨xs', hx', rs'⟩)⟩
        · exact q1.elim
      | _ => exact q1.elim
    refine thn (h.pe.run pins s σ H _ I hl) fun v s1 ⟨x, H1, I1, r1, q1⟩ => ?_
    rcases q1 with ⟨p, xs, rfl, hq, q⟩ | ⟨p, xs, rfl, hq, q⟩
    · cases r1
      obtain ⟨its, rv, pl, hz⟩ := I1.list hq
      refine wpAny_pyIter_list pl.isList ⟨s1.heap.objs.size, [s1.heap.objs.size], _, _, H1, rfl, I1.kept (t' := s1.toks) fun b o e => Heap.get?_push_of_some _ e, turn_list p _, ⟨_, Heap.get?_push_size _ rfl, rfl, rfl⟩, fun b hb => ?_, q⟩
      rw [List.mem_singleton.mp hb]
      exact I1.fpOk (Nat.le_refl _) (I1.hok.fresh (Nat.le_refl _))
    · cases r1
      obtain ⟨its, rv, pl, hz⟩ := I1.tuple hq
      refine wpAny_pyIter_tuple (show s1.heap.IsTuple p its.toArray from pl) ⟨s1.heap.objs.size, [s1.heap.objs.size], _, _, H1, rfl, I1.kept (t' := s1.toks) fun b o e => Heap.get?_push_of_some _ e, turn_tuple p _, ⟨_, Heap.get?_push_size _ rfl, rfl, rfl⟩, fun b hb => ?_, q⟩
      rw [List.mem_singleton.mp hb]
      exact I1.fpOk (Nat.le_refl _) (I1.hok.fresh (Nat.le_refl _))
  · cases d <;> first | exact q1.elim | exact w _ _ _ q1 | skip
    try dsimp only at q1 ⊢
    split at q1
    · exact w _ _ _ q1
    · exact q1.elim
def rng (lo : Int) (n : Nat) : List D := (List.range n).map fun (i : Nat) => D.int (lo + i)
theorem rng_get {lo : Int} {n i : Nat} : (rng lo n)[i]? = if i < n then some (D.int (lo + i)) else none := by
  unfold rng
  rw [List.getElem?_map]
  by_cases h : i < n
  · rw [List.getElem?_range h, if_pos h]; rfl
  · rw [if_neg h, List.getElem?_eq_none (by simpa using h)]; rfl
theorem itr_ok {K : PySem.W.Frag} {al : List Addr} {F G : Hp} {st : Sto → Prop} (lo : Int) (n : Nat) : ItOk K (Itr lo n) (rng lo n) st al F G := by
  intro al' F' G' H' M' e sg W hst i
  refine ⟨fun d hd => ?_, fun hl => ?_⟩
  rotate_left
  · unfold rng at hl
    rw [List.length_map, List.length_range] at hl
    exact hl
  rw [rng_get] at hd
  split at hd
  · next h =>
    cases hd
    refine ⟨h, fun x H'' hy => ?_⟩
    obtain ⟨rfl, rfl⟩ := hy
    exact ⟨F', Sm.refl _, W, .int _⟩
  · cases hd
@[reducible] def diR1 (fr : DTA) : DTI := fun ρ M R => fr ρ M fun ds M1 => match ds with
  | [.int j] => (-(2 ^ 62) ≤ j ∧ j < 2 ^ 62) ∧ R (rng 0 j.toNat) stYes M1
  | _ => False
theorem di_range1 {tg : Expr} {p : Pos} (hg : Gl X "range") (hm : X.mg "range" = none) (h : DA X [a] fr) (hs : starEach [a] X.env = [(false, eval a X.env)] := by rfl) : DI X tg (.Call (.Name "range" p) [a] [] pos) (diR1 fr) := by
  refine ⟨PI.of (pi_range1 hg hm h.pa hs) fun σ H R ⟨ρ, M, al, F, G, W, es, q⟩ => ?_, fun ρ M Q Q' w q => h.mono _ _ _ _ (fun ds M1 q1 => ?_) q⟩
  · refine h.seq W es q fun ds M1 al1 F1 H1 vs q1 e1 W1 r1 s1 => ?_
    split at q1
    · cases r1 with
      | cons a1 b1 =>
        cases a1; cases b1
        exact ⟨_, rfl, q1.1.1, q1.1.2, q1.2 al1 F1 H1 _ e1 W1 (itr_ok 0 _)⟩
    · exact q1.elim
  · try dsimp only at q1 ⊢
    split at q1
    · exact ⟨q1.1, w _ _ _ q1.2⟩
    · exact q1.elim
@[reducible] def diR2 (fr : DTA) : DTI := fun ρ M R => fr ρ M fun ds M1 => match ds with
  | [.int i, .int j] => (-(2 ^ 62) ≤ i ∧ i < 2 ^ 62 ∧ -(2 ^ 62) ≤ j ∧ j < 2 ^ 62) ∧ R (rng i (j - i).toNat) stYes M1
  | _ => False
theorem di_range2 {tg : Expr} {p : Pos} (hg : Gl X "range") (hm : X.mg "range" = none) (h : DA X [a, b] fr) (hs : starEach [a, b] X.env = [(false, eval a X.env), (false, eval b X.env)] := by rfl) (hs2 : starEach [b] X.env = [(false, eval b X.env)] := by rfl) : DI X tg (.Call (.Name "range" p) [a, b] [] pos) (diR2 fr) := by
  refine ⟨PI.of (pi_range2 hg hm h.pa hs hs2) fun σ H R ⟨ρ, M, al, F, G, W, es, q⟩ => ?_, fun ρ M Q Q' w q => h.mono _ _ _ _ (fun ds M1 q1 => ?_) q⟩
  · refine h.seq W es q fun ds M1 al1 F1 H1 vs q1 e1 W1 r1 s1 => ?_
    split at q1
    · cases r1 with
      | cons a1 b1 =>
        cases b1 with
        | cons a2 b2 =>
          cases a1; cases a2; cases b2
          exact ⟨_, _, rfl, q1.1, q1.2 al1 F1 H1 _ e1 W1 (itr_ok _ _)⟩
    · exact q1.elim
  · try dsimp only at q1 ⊢
    split at q1
    · exact ⟨q1.1, w _ _ _ q1.2⟩
    · exact q1.elim
/-- zip of two lists, or of two tuples -/
def zipD (xs ys : List D) : List D := List.zipWith (fun x y => D.tup [x, y]) xs ys
@[reducible] def diZip (fr : DTA) : DTI := fun ρ M R => fr ρ M fun ds M1 => match ds with
  | [.tup xs, .tup ys] => R (zipD xs ys) stYes M1
  | [.lst xs, .lst ys] => R (zipD xs ys) stYes M1
  | _ => False
theorem zipD_get {xs ys : List D} {i : Nat} {d : D} (h : (zipD xs ys)[i]? = some d) : ∃ x y, xs[i]? = some x ∧ ys[i]? = some y ∧ d = .tup [x, y] := by
  unfold zipD at h
  rw [List.getElem?_zipWith] at h
  cases e1 : xs[i]? with
  | none => rw [e1] at h; cases h
  | some x =>
    cases e2 : ys[i]? with
    | none => rw [e1, e2] at h; cases h
    | some y => rw [e1, e2] at h; cases h; exact ⟨x, y, rfl, rfl, rfl⟩
theorem itz_ok {K : PySem.W.Frag} {al : List Addr} {F G : Hp} {st : Sto → Prop} {p q : Addr} {xs ys : List V} {ds es : List D} (hp : F p = some (.lst xs)) (hq : F q = some (.lst ys)) (r1 : Rps K F al xs ds) (r2 : Rps K F al ys es) : ItOk K (Itz K p q) (zipD ds es) st al F G := by
  intro al' F' G' H' M' e sg W hst i
  have h1 := W.sm _ _ (e.sm _ _ hp)
  have h2 := W.sm _ _ (e.sm _ _ hq)
  have r1 := r1.ext e
  have r2 := r2.ext e
  refine ⟨fun d hd => ?_, fun hl => ⟨xs, ys, SqL.of h1, SqL.of h2, ?_⟩⟩
  · obtain ⟨x, y, g1, g2, rfl⟩ := zipD_get hd
    obtain ⟨v1, k1, l1⟩ := r1.get g1
    obtain ⟨v2, k2, l2⟩ := r2.get g2
    refine ⟨⟨xs, ys, v1, v2, SqL.of h1, SqL.of h2, k1, k2⟩, fun z H'' hy => ?_⟩
    obtain ⟨T, u1, u2, rfl, nT, rfl, f1, f2⟩ := hy
    have q1 := it_of r1 g1 (f1 _ (SqL.of h1))
    have q2 := it_of r2 g2 (f2 _ (SqL.of h2))
    obtain ⟨W1, e1⟩ := W.newF (o := .tup [u1, u2]) nT
    exact ⟨_, e1.sm, W1, .tup upd_same (.cons (q1.ext e1) (.cons (q2.ext e1) .nil))⟩
  · unfold zipD at hl
    rw [List.length_zipWith] at hl
    rw [r1.length, r2.length]
    omega
theorem itzT_ok {K : PySem.W.Frag} {al : List Addr} {F G : Hp} {st : Sto → Prop} {p q : Addr} {xs ys : List V} {ds es : List D} (hp : F p = some (.tup xs)) (hq : F q = some (.tup ys)) (r1 : Rps K F al xs ds) (r2 : Rps K F al ys es) : ItOk K (RZ.ItzT K p q) (zipD ds es) st al F G := by
  intro al' F' G' H' M' e sg W hst i
  have h1 := W.sm _ _ (e.sm _ _ hp)
  have h2 := W.sm _ _ (e.sm _ _ hq)
  have r1 := r1.ext e
  have r2 := r2.ext e
  refine ⟨fun d hd => ?_, fun hl => ⟨xs, ys, SqT.of h1, SqT.of h2, ?_⟩⟩
  · obtain ⟨x, y, g1, g2, rfl⟩ := zipD_get hd
    obtain ⟨v1, k1, l1⟩ := r1.get g1
    obtain ⟨v2, k2, l2⟩ := r2.get g2
    refine ⟨⟨xs, ys, v1, v2, SqT.of h1, SqT.of h2, k1, k2⟩, fun z H'' hy => ?_⟩
    obtain ⟨T, u1, u2, rfl, nT, rfl, f1, f2⟩ := hy
    have q1 := it_of r1 g1 (f1 _ (SqT.of h1))
    have q2 := it_of r2 g2 (f2 _ (SqT.of h2))
    obtain ⟨W1, e1⟩ := W.newF (o := .tup [u1, u2]) nT
    exact ⟨_, e1.sm, W1, .tup upd_same (.cons (q1.ext e1) (.cons (q2.ext e1) .nil))⟩
  · unfold zipD at hl
    rw [List.length_zipWith] at hl
    rw [r1.length, r2.length]
    omega
theorem di_zip {p tpos : Pos} {elts : List Expr} {kk : Nat} (hg : Gl X "zip") (hm : X.mg "zip" = none) (h : DA X [a, b] fr) (hs : starEach [a, b] X.env = (false, eval a X.env) :: starEach [b] X.env := by rfl) (hpl : (backTo pos (starEach [b] X.env)).any (·.1) = false := by rfl) :
    DI X (.Tuple elts kk tpos) (.Call (.Name "zip" p) [a, b] [] pos) (diZip fr) := by
  refine ⟨PI.of (RZ.pi_zipA hg hm h.pa hs hpl) fun σ H R ⟨ρ, M, al, F, G, W, es, q⟩ => ?_, fun ρ M Q Q' w q => h.mono _ _ _ _ (fun ds M1 q1 => ?_) q⟩
  · refine h.seq W es q fun ds M1 al1 F1 H1 vs q1 e1 W1 r1 s1 => ?_
    split at q1
    · cases r1 with
      | cons a1 b1 =>
        cases b1 with
        | cons a2 b2 =>
          cases b2
          cases a1 with
          | tup c1 d1 =>
            cases a2 with
            | tup c2 d2 => exact ⟨_, _, _, _, rfl, .inr ⟨SqT.of (W1.sm _ _ c1), SqT.of (W1.sm _ _ c2), q1 al1 F1 H1 _ e1 W1 (itzT_ok c1 c2 d1 d2)⟩⟩
    · cases r1 with
      | cons a1 b1 =>
        cases b1 with
        | cons a2 b2 =>
          cases b2
          cases a1 with
          | lst c1 d1 =>
            cases a2 with
            | lst c2 d2 => exact ⟨_, _, _, _, rfl, .inl ⟨SqL.of (W1.sm _ _ c1), SqL.of (W1.sm _ _ c2), q1 al1 F1 H1 _ e1 W1 (itz_ok c1 c2 d1 d2)⟩⟩
    · exact q1.elim
  · try dsimp only at q1 ⊢
    split at q1
    · exact w _ _ _ q1
    · exact w _ _ _ q1
    · exact q1.elim
/-! ### while -/
@[reducible] def dWhile (t : DTT) (f : DTS) : DTS := fun E ρ M => ∃ W : Nat → Dn → Sto → Prop, (∃ m, W m ρ M) ∧ ∀ m ρ M, W m ρ M → t ρ M fun b M1 => if b = true then f { nx := fun ρ' M' => ∃ m', m' < m ∧ W m' ρ' M', rt := E.rt, bk := E.nx, ct := fun ρ' M' => ∃ m', m' < m ∧ W m' ρ' M' } ρ M1 else E.nx ρ M1
theorem ds_while {body : List Stmt} {f : DTS} (hp : PassesOwn (model X.prog X.w) X.A X.env X.xe) (hc : DT X c ta) (hb : DSs X body f) : DS X (.While c body [] pos) (dWhile ta f) := by
  refine ⟨PS.of (ps_while hp hc.pt hb.ps) fun E σ H ⟨ρ, M, al, F, G, W, es, Wh, ⟨m, h0⟩, step⟩ => ?_, fun D D' ρ M w ⟨Wh, h0, step⟩ => ⟨Wh, h0, fun m ρ M h => hc.mono _ _ _ _ (fun b M1 q1 => ?_) (step m ρ M h)⟩⟩
  · refine ⟨fun m σ' H' => ∃ ρ' M' al' F', Wh m ρ' M' ∧ Ext al F al' F' ∧ Wd X.K al' F' G H' M' ∧ Es X F' G al' σ' ρ' ∧ ρ'.x = ρ.x, ⟨m, ρ, M, al, F, h0, Ext.refl _ _, W, es, rfl⟩, ?_⟩
    rintro m σ' H' ⟨ρ', M', al', F', hw, e', W', s', x'⟩
    refine hc.seq W' s' (step m ρ' M' hw) fun b M1 al1 F1 H1 q1 e1 W1 s1 => ?_
    cases b with
    | true =>
      refine ⟨fun σ2 H2 => ∃ m', m' < m ∧ ∃ ρ2 M2 al2 F2, Wh m' ρ2 M2 ∧ Ext al F al2 F2 ∧ Wd X.K al2 F2 G H2 M2 ∧ Es X F2 G al2 σ2 ρ2 ∧ ρ2.x = ρ.x, fun σ2 H2 ⟨m', hm, z⟩ => ⟨m', hm, z⟩, ?_⟩
      refine ⟨ρ', M1, al1, F1, G, W1, s1, ?_⟩
      rw [x']
      refine MonoS.up hb.mono (D := { nx := fun ρ' M' => ∃ m', m' < m ∧ Wh m' ρ' M', rt := (kontS X.K al F G ρ.x E).rt, bk := (kontS X.K al F G ρ.x E).nx, ct := fun ρ' M' => ∃ m', m' < m ∧ Wh m' ρ' M' }) q1 ⟨?_, fun d M2 k => kont.ext k (e'.trans e1), fun ρ2 M2 k => kN.ext k (e'.trans e1), ?_⟩
      · rintro ρ2 M2 ⟨m', hm, z⟩ al2 F2 H2 σ2 e2 W2 s2 x2
        exact ⟨m', hm, ρ2, M2, al2, F2, z, e'.trans (e1.trans e2), W2, s1.of e2 s2 (x2.trans x'.symm), x2⟩
      · rintro ρ2 M2 ⟨m', hm, z⟩ al2 F2 H2 σ2 e2 W2 s2 x2
        exact ⟨m', hm, ρ2, M2, al2, F2, z, e'.trans (e1.trans e2), W2, s1.of e2 s2 (x2.trans x'.symm), x2⟩
    | false => exact q1 al1 F1 H1 σ' (e'.trans e1) W1 s1.sl x'
  · cases b with
    | true => exact MonoS.up hb.mono (D := { nx := fun ρ' M' => ∃ m', m' < m ∧ Wh m' ρ' M', rt := D.rt, bk := D.nx, ct := fun ρ' M' => ∃ m', m' < m ∧ Wh m' ρ' M' }) q1 ⟨fun _ _ z => z, w.rt, w.nx, fun _ _ z => z⟩
    | false => exact w.nx _ _ q1
/-! ### slices with a step, of lists -/
def pick {α : Type} (xs : List α) (lo hi st : Option Int) : List α := (sliceRange (sliceBounds lo hi st xs.length).1 (sliceBounds lo hi st xs.length).2.1 (sliceBounds lo hi st xs.length).2.2).filterMap (xs[·]?)
theorem Rps.picks {K : PySem.W.Frag} {F : Hp} {al : List Addr} {xs : List V} {ds : List D} (h : Rps K F al xs ds) : ∀ l : List Nat, Rps K F al (l.filterMap (xs[·]?)) (l.filterMap (ds[·]?))
  | [] => .nil
  | i :: l => by
    rw [List.filterMap_cons, List.filterMap_cons]
    cases e : ds[i]? with
    | none =>
      have e2 : xs[i]? = none := List.getElem?_eq_none (by rw [h.length]; exact List.getElem?_eq_none_iff.mp e)
      rw [e2]
      exact h.picks l
    | some d =>
      obtain ⟨v, h1, h2⟩ := h.get e
      rw [h1]
      exact .cons h2 (h.picks l)
theorem Rps.pick {K : PySem.W.Frag} {F : Hp} {al : List Addr} {xs : List V} {ds : List D} (h : Rps K F al xs ds) (lo hi st : Option Int) : Rps K F al (DL.pick xs lo hi st) (DL.pick ds lo hi st) := by
  unfold DL.pick
  rw [h.length]
  exact h.picks _
theorem vals_picks {xs : List V} {us : List Value} (h : Vals xs us) : ∀ l : List Nat, Vals (l.filterMap (xs[·]?)) (l.filterMap (us[·]?))
  | [] => .nil
  | i :: l => by
    rw [List.filterMap_cons, List.filterMap_cons]
    cases e : xs[i]? with
    | none =>
      rw [h.none_of e]
      exact vals_picks h l
    | some d =>
      obtain ⟨v, h1, h2⟩ := h.get e
      rw [h1]
      exact .cons h2 (vals_picks h l)
theorem pick_vals {xs : List V} {us : List Value} (h : Vals xs us) (lo hi st : Option Int) : Vals (DL.pick xs lo hi st) (slicePick us.toArray lo hi st).toList := by
  unfold DL.pick slicePick
  rw [h.length]
  simpa using vals_picks h _
@[reducible] def dSlS (fa : DTE) (lo hi st : DTO) : DTE := fun ρ M Q => fa ρ M fun x M1 => lo ρ M1 fun l M2 => hi ρ M2 fun h M3 => st ρ M3 fun k M4 => match seqOf x M4 with
  | some ds => k ≠ some 0 ∧ (pick ds l h k).length ≤ 100000 ∧ Q (.lst (pick ds l h k)) M4
  | none => False
theorem d_sliceS {lo hi : Option Expr} {st : Expr} {fl fh fs : DTO} {p2 : Pos} (ha : DE X a fa) (hl : DO X lo fl) (hh : DO X hi fh) (hs : DO X (some st) fs) (ht : ∀ o r, letTemporaryGo a o r = pure () := by intro _ _; rfl) : DE X (.Subscript a (.Slice lo hi (some st) p2) pos) (dSlS fa fl fh fs) := by
  refine ⟨⟨fun pins s σ H Q I q => ?_⟩, fun ρ M Q Q' w q => ha.mono _ _ _ _ (fun d M1 q1 => hl.mono _ _ _ _ (fun l M2 q2 => hh.mono _ _ _ _ (fun h M3 q3 => hs.mono _ _ _ _ (fun k M4 q4 => ?_) q3) q2) q1) q⟩
  · obtain ⟨ρ, M, al, F, G, W, es, q⟩ := q
    have r0 : Lift X fa σ H (fun v H1 => LiftO X fl σ H1 fun l H2 => LiftO X fh σ H2 fun h H3 => LiftO X fs σ H3 fun k H4 => ∃ p xs, v = .ref p ∧ H4 p = some (.lst xs) ∧ k ≠ some 0 ∧ (pick xs l h k).length ≤ sizeLine ∧ ∀ z, H4 z = none → Q (.ref z) (upd H4 z (.lst (pick xs l h k)))) := by
      refine ha.seq W es q fun d M1 al1 F1 H1 v q1 e1 W1 r1 s1 => ?_
      refine hl.seq W1 s1 q1 fun l M2 al2 F2 H2 q2 e2 W2 s2 => ?_
      refine hh.seq W2 s2 q2 fun h M3 al3 F3 H3 q3 e3 W3 s3 => ?_
      refine hs.seq W3 s3 q3 fun k M4 al4 F4 H4 q4 e4 W4 s4 => ?_
      split at q4
      · next ds e =>
        obtain ⟨p1, xs1, rfl, h1, rs⟩ := seqOf_ok W4 (r1.ext (e2.trans (e3.trans e4))) e
        have rp := rs.pick l h k
        exact ⟨p1, xs1, rfl, h1, q4.1, le_line (by rw [rp.length]; exact q4.2.1), fun z hz => kont.lst (kont.ext q4.2.2 (e1.trans (e2.trans (e3.trans e4)))) W4 rp hz⟩
      · exact q4.elim
    refine wpAny_Subscript_Slice_step PySem.slot_list_getitem.lookup (thn (ha.pe.run pins s σ H _ I r0) fun v s1 ⟨x, H1, I1, r1, q1⟩ => ?_) ht
    refine wpAny_Slice (thn (hl.po.run pins s1 σ H1 _ I1 q1) fun vl s2 ⟨l, H2, I2, pl, q2⟩ => ?_)
    refine thn (hh.po.run pins s2 σ H2 _ I2 q2) fun vu s3 ⟨u, H3, I3, pu, q3⟩ => ?_
    refine thn (hs.po.run pins s3 σ H3 _ I3 q3) fun vs s4 ⟨k, H4, I4, pk, p, xs, ex, hx, k0, hz, q4⟩ => ?_
    subst ex
    cases r1
    have I5 : Inv X pins σ H4 { s4 with heap := s4.heap.push { cls := .type "slice", data := .fields #[vl, vu, vs] } } := I4.kept (t' := s4.toks) fun b ob q => Heap.get?_push_of_some _ q
    obtain ⟨its, rv, pl5, hz5⟩ := I5.list (SqL.of hx)
    refine ⟨pl5.isList.typeIs, wpAny_getItem_list_slice pl5.isList (Heap.IsSliceOf.new _ vl vu vs) pl pu pk k0 ?_ (by rw [List.size_toArray, ← rv.length]; exact hz5)⟩
    refine ⟨.ref _, _, I5.laid (t' := s4.toks) (o := .lst (pick xs l u k)) (fun b ob q => Heap.get?_push_of_some _ q) (Nat.le_refl _) ?_, rfl, q4 _ (I5.hok.fresh (Nat.le_refl _))⟩
    exact ⟨hz, _, _, pick_vals rv l u k, Heap.get?_push_size _ rfl⟩
  · try dsimp only at q4 ⊢
    split at q4
    · exact ⟨q4.1, q4.2.1, w _ _ q4.2.2⟩
    · exact q4.elim
end
end DL

/-! DL7: defs, their promises by data, their calls. -/
namespace DL
open PySem PySem.Spec PyProof.Rows L2

mutual
/-- all places that a datum names lie below n -/
def bel (n : Nat) : D → Bool
  | .ref m => decide (m < n)
  | .tup ds => bels n ds
  | .lst ds => bels n ds
  | .dct _ ds => bels n ds
  | .exo _ _ _ _ ds => bels n ds
  | .non | .bl _ | .int _ | .str _ | .scr _ => true
def bels (n : Nat) : List D → Bool
  | [] => true
  | d :: ds => bel n d && bels n ds
end
def Cell.bel (n : Nat) : Cell → Bool
  | .lst ds => bels n ds
  | .ins _ fs => bels n (fs.map (·.2))
  | .gone => true
section
variable {K : PySem.W.Frag} {F G H : Hp} {al : List Addr} {M : Sto}
mutual
theorem Rp.bel : ∀ {d : D} {v : V}, Rp K F al v d → DL.bel al.length d = true
  | .non, _, _ => rfl
  | .bl _, _, _ => rfl
  | .int _, _, _ => rfl
  | .str _, _, _ => rfl
  | .scr _, _, _ => rfl
  | .tup _, _, h => by
    cases h with
    | tup a b => exact Rps.bels b
  | .lst _, _, h => by
    cases h with
    | lst a b => exact Rps.bels b
  | .dct _ _, _, h => by
    cases h with
    | dct a l b => exact Rps.bels b
  | .exo _ _ _ _ _, _, h => by
    cases h with
    | exo0 => rfl
    | exo a l b => exact Rps.bels b
  | .ref _, _, h => by
    cases h with
    | ref a => exact decide_eq_true (List.getElem?_eq_some_iff.mp a).1
theorem Rps.bels : ∀ {ds : List D} {vs : List V}, Rps K F al vs ds → DL.bels al.length ds = true
  | [], _, _ => rfl
  | d :: ds, _, h => by
    cases h with
    | cons a b =>
      show (DL.bel al.length d && DL.bels al.length ds) = true
      rw [Rp.bel a, Rps.bels b]
      rfl
end
mutual
theorem Rp.cutA {n : Nat} : ∀ {d : D} {v : V}, Rp K F al v d → DL.bel n d = true → Rp K F (al.take n) v d
  | .non, _, h, _ => by cases h; exact .non
  | .bl _, _, h, _ => by cases h; exact .bl _
  | .int _, _, h, _ => by cases h; exact .int _
  | .str _, _, h, _ => by cases h; exact .str _
  | .scr _, _, h, _ => by
    cases h with
    | scr a => exact .scr a
  | .tup _, _, h, q => by
    cases h with
    | tup a b => exact .tup a (Rps.cutA b q)
  | .lst _, _, h, q => by
    cases h with
    | lst a b => exact .lst a (Rps.cutA b q)
  | .dct _ _, _, h, q => by
    cases h with
    | dct a l b => exact .dct a l (Rps.cutA b q)
  | .exo _ _ _ _ _, _, h, q => by
    cases h with
    | exo0 => exact .exo0 _ _
    | exo a l b => exact .exo a l (Rps.cutA b q)
  | .ref _, _, h, q => by
    cases h with
    | ref a => exact .ref (by rw [List.getElem?_take_of_lt (of_decide_eq_true q)]; exact a)
theorem Rps.cutA {n : Nat} : ∀ {ds : List D} {vs : List V}, Rps K F al vs ds → DL.bels n ds = true → Rps K F (al.take n) vs ds
  | [], _, h, _ => by cases h; exact .nil
  | d :: ds, _, h, q => by
    cases h with
    | cons a b =>
      have q' : DL.bel n d = true ∧ DL.bels n ds = true := by simpa [DL.bels] using q
      exact .cons (Rp.cutA a q'.1) (Rps.cutA b q'.2)
end
theorem CellOk.bel {a : Addr} {c : Cell} (h : CellOk K F al H a c) : c.bel al.length = true := by
  cases c with
  | lst ds => obtain ⟨xs, _, r⟩ := h; exact r.bels
  | ins C fs => obtain ⟨dx, vs, _, _, r⟩ := h; exact r.bels
  | gone => rfl
theorem CellOk.cutA {a : Addr} {c : Cell} {n : Nat} (h : CellOk K F al H a c) (q : c.bel n = true) : CellOk K F (al.take n) H a c := by
  cases c with
  | lst ds => obtain ⟨xs, e, r⟩ := h; exact ⟨xs, e, r.cutA q⟩
  | ins C fs => obtain ⟨dx, vs, e, z, r⟩ := h; exact ⟨dx, vs, e, z, r.cutA q⟩
  | gone => exact h
def stoBel (n : Nat) (M : Sto) : Prop := ∀ c ∈ M, Cell.bel n c = true
theorem Wd.bels (W : Wd K al F G H M) : stoBel M.length M := by
  intro c hc
  obtain ⟨n, hn, e⟩ := List.getElem_of_mem hc
  have hl : n < al.length := by rw [W.len]; exact hn
  rw [← W.len]
  exact (W.cel n c al[n] (by rw [List.getElem?_eq_getElem hn, e]) (List.getElem?_eq_getElem hl)).bel
theorem Wd.cutA (W : Wd K al F G H M) {n : Nat} (h : stoBel n (M.take n)) : Wd K (al.take n) F G H (M.take n) :=
  W.take n fun m c a hm q r => (W.cel m c a q r).cutA (h c (by
    have : (M.take n)[m]? = some c := by rw [List.getElem?_take_of_lt hm]; exact q
    exact List.mem_of_getElem? this))
/-- what a def hands back, as its caller sees it: as it is; without the places that the def has made; a list of these as a tree -/
def See (n : Nat) (Q : DK) (d : D) (M : Sto) : Prop :=
  Q d M ∨ (bel n d = true ∧ stoBel n (M.take n) ∧ Q d (M.take n)) ∨ ∃ m ds, d = .ref m ∧ n ≤ m ∧ M[m]? = some (.lst ds) ∧ bels n ds = true ∧ stoBel n (M.take n) ∧ Q (.lst ds) (M.take n)
theorem See.ok {al0 : List Addr} {F0 : Hp} {Q : VK} {d : D} {v : V} (e : Ext al0 F0 al F) (W : Wd K al F G H M) (r : Rp K F al v d) (h : See al0.length (kont K al0 F0 G Q) d M) : Q v H := by
  obtain ⟨be, rfl⟩ := e.al
  have tk : (al0 ++ be).take al0.length = al0 := List.take_left
  rcases h with h | ⟨h1, h2, h3⟩ | ⟨m, ds, rfl, hm, hc, hb, h2, h3⟩
  · exact h _ F H v e W r
  · have W' := W.cutA h2
    have r' := r.cutA h1
    rw [tk] at W' r'
    exact h3 al0 F H v ⟨⟨[], by simp⟩, e.sm⟩ W' r'
  · cases r with
    | @ref _ pa ha =>
      obtain ⟨xs, hx, rs⟩ := W.cel _ _ _ hc ha
      have W' := W.cutA h2
      have rs' := rs.cutA hb
      rw [tk] at W' rs'
      have ham := List.mem_of_getElem? ha
      have hF := W.out _ ham
      have hn : ∀ a ∈ al0, a ≠ pa := fun a ha0 z => by
        obtain ⟨i, hi, ei⟩ := List.getElem_of_mem ha0
        have h1 : (al0 ++ be)[i]? = some a := by rw [List.getElem?_append_left hi, List.getElem?_eq_getElem hi, ei]
        rw [z] at h1
        obtain ⟨hi1, e1⟩ := List.getElem?_eq_some_iff.mp h1
        obtain ⟨hi2, e2⟩ := List.getElem?_eq_some_iff.mp ha
        have := (List.getElem_inj W.nd).mp (e1.trans e2.symm)
        omega
      have eF : Ext al0 F al0 (upd F pa (.lst xs)) := ⟨⟨[], by simp⟩, Sm.new hF⟩
      refine h3 al0 (upd F pa (.lst xs)) H _ ⟨⟨[], by simp⟩, e.sm.trans eF.sm⟩ ⟨fun b o q => ?_, W.sg, fun a o q => ⟨?_, (W'.fg a o q).2⟩, W'.len, W'.nd, fun a q => ?_, fun n c a q1 q2 => (W'.cel n c a q1 q2).ext eF rfl⟩ (.lst upd_same (rs'.ext eF))
      · by_cases hb : b = pa
        · subst hb; rw [upd_same] at q; cases q; exact hx
        · rw [upd_ne hb] at q; exact W.sm b o q
      · rw [upd_ne (show a ≠ pa from fun z => (W.fg a o q).2 (z ▸ ham))]
        exact (W.fg a o q).1
      · rw [upd_ne (hn a q)]
        exact W'.out a q
theorem See.keep {n : Nat} {Q : DK} {d : D} (h : Q d M) : See n Q d M := .inl h
theorem See.drop {Q : DK} {d : D} {M M' : Sto} (hd : bel M.length d = true) (hb : stoBel M.length M) (h : Q d M) : See M.length Q d (M ++ M') := .inr (.inl ⟨hd, by rw [List.take_left]; exact hb, by rw [List.take_left]; exact h⟩)
theorem See.frz {Q : DK} {M M' : Sto} {m : Nat} {ds : List D} (hm : M.length ≤ m) (hc : (M ++ M')[m]? = some (.lst ds)) (hd : bels M.length ds = true) (hb : stoBel M.length M) (h : Q (.lst ds) M) : See M.length Q (.ref m) (M ++ M') :=
  .inr (.inr ⟨m, ds, rfl, hm, hc, hd, by rw [List.take_left]; exact hb, by rw [List.take_left]; exact h⟩)
end

/-! ### promises -/
abbrev DSp := List D → Sto → DK → DXK → Prop
def kontX (K : PySem.W.Frag) (al : List Addr) (F G : Hp) (E : XK) : DXK := fun c fs M' => ∀ al' F' H' o, Ext al F al' F' → Wd K al' F' G H' M' → FldOk K F' al' o fs → E c o H'
def spOf (K : PySem.W.Frag) (ds : DSp) : Sp := fun vs H Q E => ∃ args M al F G, Wd K al F G H M ∧ Rps K F al vs args ∧ ds args M (kont K al F G Q) (kontX K al F G E)
def MonoSp (ds : DSp) : Prop := ∀ args M (Q Q' : DK) (E E' : DXK), (∀ d M, Q d M → Q' d M) → (∀ c f M, E c f M → E' c f M) → ds args M Q E → ds args M Q' E'
def startD (N : List Str) (args : List D) : List (Option D) := args.map some ++ List.replicate (N.length - args.length) none
theorem start_es {K : PySem.W.Frag} {F : Hp} {al : List Addr} {N : List Str} {vs : List V} {args : List D} (r : Rps K F al vs args) : Sl K F al (L2.start N vs) (startD N args) := by
  have hl := r.length
  unfold L2.start startD
  refine ⟨by simp [hl], fun i d q => ?_⟩
  by_cases hi : i < args.length
  · rw [List.getElem?_append_left (by simpa using hi), List.getElem?_map] at q
    cases e : args[i]? with
    | none => rw [e] at q; cases q
    | some z =>
      rw [e] at q
      have : z = d := by simpa using q
      subst this
      obtain ⟨v, h1, h2⟩ := r.get e
      exact ⟨v, by rw [List.getElem?_append_left (by rw [List.length_map, hl]; exact hi), List.getElem?_map, h1]; rfl, h2⟩
  · rw [List.getElem?_append_right (by simpa using hi)] at q
    have := List.mem_of_getElem? q
    rw [List.mem_replicate] at this
    exact absurd this.2 (by simp)
section
variable {P : Program} {w : World} {K : PySem.W.Frag} {mg : Str → Option Value} {base : Heap}
/-- an exception, as the caller sees it -/
def SeeX (n : Nat) (E : DXK) : DXK := fun c fs M => E c fs M ∨ (bels n (fs.map (·.2)) = true ∧ stoBel n (M.take n) ∧ E c fs (M.take n))
theorem SeeX.ok {F G H : Hp} {al : List Addr} {M : Sto} {al0 : List Addr} {F0 : Hp} {E : XK} {c : Value} {o : Option Addr} {fs : List (Str × D)} (e : Ext al0 F0 al F) (W : Wd K al F G H M) (r : FldOk K F al o fs) (h : SeeX al0.length (kontX K al0 F0 G E) c fs M) : E c o H := by
  obtain ⟨be, rfl⟩ := e.al
  have tk : (al0 ++ be).take al0.length = al0 := List.take_left
  rcases h with h | ⟨h1, h2, h3⟩
  · exact h _ F H o e W r
  · have W' := W.cutA h2
    rw [tk] at W'
    refine h3 al0 F H o ⟨⟨[], by simp⟩, e.sm⟩ W' ?_
    rcases r with r | ⟨a, vs, r1, r2, r3, r4⟩
    · exact .inl r
    · have r' := r4.cutA h1
      rw [tk] at r'
      exact .inr ⟨a, vs, r1, r2, r3, r'⟩
theorem SeeX.keep {n : Nat} {E : DXK} {c : Value} {fs : List (Str × D)} {M : Sto} (h : E c fs M) : SeeX n E c fs M := .inl h
theorem SeeX.drop {E : DXK} {c : Value} {fs : List (Str × D)} {M M' : Sto} (hd : bels M.length (fs.map (·.2)) = true) (hb : stoBel M.length M) (h : E c fs M) : SeeX M.length E c fs (M ++ M') := .inr ⟨hd, by rw [List.take_left]; exact hb, by rw [List.take_left]; exact h⟩
/-- where a def's body runs -/
abbrev cx0 (P : Program) (w : World) (K : PySem.W.Frag) (mg : Str → Option Value) (base : Heap) (N : List Str) (qual : Str) (st : Stmt) (f : Addr) (cdv : Value) (A : Around) (outer : List Env) (s : Shared) (H : Hp) (E : XK) : Cx :=
  cxOf (L2N.CX P w) P w K mg base N qual (defScope st) f cdv A outer s H E
/-- a def that lets an exception out only as it promises -/
theorem fnX {k : Nat} {f : Addr} {x qual : Str} {st : Stmt} {fd : FuncData} {N ps : List Str} {ds : DSp} (F : Fun K x qual st f fd) (S : FnScope N ps (defScope st)) (len : ∀ args M Q E, ds args M Q E → args.length = ps.length)
    (body : ∀ (cdv : Value) (A : Around) (outer : List Env) (s : Shared) (H : Hp) (E : XK), (cx0 P w K mg base N qual st f cdv A outer s H E).A.guards = some [] → Room k (cx0 P w K mg base N qual st f cdv A outer s H E).A →
      ∃ fb, DSs (cx0 P w K mg base N qual st f cdv A outer s H E) (defBody st) fb ∧ ∀ args M Q E', stoBel M.length M → bels M.length args = true → ds args M Q E' → fb { nx := fun _ M' => See M.length Q .non M', rt := See M.length Q } ⟨startD N args, fun c fs _ M' => SeeX M.length E' c fs M'⟩ M) :
    FnG P w K mg base (L2N.CX P w) (k + 1) f fd ps (spOf K ds) := by
  refine fnG_of F S (fun vs H Q E ⟨args, M, al, F, G, W, r, q⟩ => r.length.trans (len _ _ _ _ q)) fun cdv A outer s H vs Q E hgd hr ⟨args, M, al, F, G, W, r, q⟩ => ?_
  obtain ⟨fb, pb, h⟩ := body cdv A outer s H E hgd hr
  have W0' : al.length = M.length := W.len
  have hb := r.bels
  rw [W0'] at hb
  have tk : L2N.Takes (cx0 P w K mg base N qual st f cdv A outer s H E) (fun cls d _ H => E cls d H) := L2N.takes_of rfl rfl rfl rfl
  refine ⟨_, pb.ps, ⟨startD N args, fun c fs _ M' => SeeX M.length (kontX K al F G E) c fs M'⟩, M, al, F, G, W, ⟨start_es r, fun c fs vs M' al' F' H' o σ' e' W' s' f' z => W0.of tk (SeeX.ok e' W' f' (by rw [W0']; exact z))⟩, MonoS.up pb.mono (h args M _ _ W.bels hb q) ⟨fun ρ' M' k al' F' H' σ' e' W' s' _ => ?_, fun d M' k al' F' H' v e' W' r' => ?_, fun _ _ z => z.elim, fun _ _ z => z.elim⟩⟩
  · exact See.ok e' W' .non (by rw [W0']; exact k)
  · exact See.ok e' W' r' (by rw [W0']; exact k)
/-- a def that lets no exception out -/
theorem fnD {k : Nat} {f : Addr} {x qual : Str} {st : Stmt} {fd : FuncData} {N ps : List Str} {ds : DSp} (F : Fun K x qual st f fd) (S : FnScope N ps (defScope st)) (len : ∀ args M Q E, ds args M Q E → args.length = ps.length)
    (body : ∀ (cdv : Value) (A : Around) (outer : List Env) (s : Shared) (H : Hp) (E : XK), (cx0 P w K mg base N qual st f cdv A outer s H E).A.guards = some [] → Room k (cx0 P w K mg base N qual st f cdv A outer s H E).A →
      ∃ fb, DSs (cx0 P w K mg base N qual st f cdv A outer s H E) (defBody st) fb ∧ ∀ args M Q E', stoBel M.length M → bels M.length args = true → ds args M Q E' → fb { nx := fun _ M' => See M.length Q .non M', rt := See M.length Q } ⟨startD N args, noX⟩ M) :
    FnG P w K mg base (L2N.CX P w) (k + 1) f fd ps (spOf K ds) := by
  refine fnG_of F S (fun vs H Q E ⟨args, M, al, F, G, W, r, q⟩ => r.length.trans (len _ _ _ _ q)) fun cdv A outer s H vs Q E hgd hr ⟨args, M, al, F, G, W, r, q⟩ => ?_
  obtain ⟨fb, pb, h⟩ := body cdv A outer s H E hgd hr
  have W0' : al.length = M.length := W.len
  have hb := r.bels
  rw [W0'] at hb
  refine ⟨_, pb.ps, ⟨startD N args, noX⟩, M, al, F, G, W, Es.none (start_es r) rfl, MonoS.up pb.mono (h args M _ _ W.bels hb q) ⟨fun ρ' M' k al' F' H' σ' e' W' s' _ => ?_, fun d M' k al' F' H' v e' W' r' => ?_, fun _ _ z => z.elim, fun _ _ z => z.elim⟩⟩
  · exact See.ok e' W' .non (by rw [W0']; exact k)
  · exact See.ok e' W' r' (by rw [W0']; exact k)
end
section
variable {X : Cx} {a b c : Expr} {fa fb fc : DTE} {pos : Pos} {es : List Expr} {fr : DTA}
@[reducible] def dCall (ds : DSp) (fr : DTA) : DTE := fun ρ M Q => fr ρ M fun args M1 => ds args M1 Q fun c fs M2 => ρ.x c fs ρ.v M2
theorem d_call {ds : DSp} {k : Nat} {f : Addr} {fd : FuncData} {ps : List Str} {x : Str} {p : Pos} (G : FnG X.prog X.w X.K X.mg X.base (L2N.CX X.prog X.w) k f fd ps (spOf X.K ds)) (hgd : X.A.guards = some []) (hr : Room k X.A) (hg : Gl X x) (hm : X.mg x = some (.ref f)) (hk : PySem.W.keepIn X.K (.ref f) = true) (hb : Binds X.K fd ps [])
    (hmono : MonoSp ds) (ha : DA X (a :: es) fr) (hdb : (x == ("__debug__" : Str)) = false := by decide) (he : starEach (a :: es) X.env = (false, eval a X.env) :: starEach es X.env := by rfl) (hpl : (backTo pos (starEach es X.env)).any (·.1) = false := by rfl) :
    DE X (.Call (.Name x p) (a :: es) [] pos) (dCall ds fr) := by
  refine ⟨PE.of (peG_callS G hgd hr hg hm hk hb .nil (L2N.passAt (takesW X)) ha.pa hdb he hpl) fun σ H Q ⟨ρ, M, al, F, Gg, W, s, q⟩ => ?_, fun ρ M Q Q' w q => ha.mono _ _ _ _ (fun args M1 q1 => hmono _ _ _ _ _ _ w (fun _ _ _ z => z) q1) q⟩
  refine ha.seq W s q fun args M1 al1 F1 H1 vs q1 e1 W1 r1 s1 => ?_
  exact ⟨args, M1, al1, F1, Gg, W1, by rw [List.append_nil]; exact r1, hmono _ _ _ _ _ _ (fun d M2 k => kont.ext k e1) (fun c fs M2 z al2 F2 H2 o e2 W2 f2 => s1.xo c fs ρ.v M2 al2 F2 H2 o σ e2 W2 (s1.sl.ext e2) f2 z) q1⟩
/-- a def whose answer is a function of its arguments, and which changes nothing -/
@[reducible] def spF (f : List D → Option D) : DSp := fun args M Q _ => match f args with
  | some d => Q d M
  | none => False
theorem spF_mono (f : List D → Option D) : MonoSp (spF f) := fun args M Q Q' E E' w _ q => by
  unfold spF at q ⊢
  split at q
  · exact w _ _ q
  · exact q.elim
/-- three names at once -/
@[reducible] def dPar3 (i j l : Nat) (fa : DTA) : DTS := fun D ρ M => fa ρ M fun ds M1 => match ds with
  | [d, e, f] => D.nx ⟨((ρ.v.set i (some d)).set j (some e)).set l (some f), ρ.x⟩ M1
  | _ => False
theorem ds_par3 {i j l : Nat} {tgs : List Expr} {v : Expr} (ha : DA X [a, b, c] fr) (ps : ∀ {ta : TA}, PA X [a, b, c] ta → PS X (.Assign tgs v pos) (tPar3 i j l ta)) : DS X (.Assign tgs v pos) (dPar3 i j l fr) := by
  refine ⟨PS.of (ps ha.pa) fun E σ H ⟨ρ, M, al, F, G, W, es, q⟩ => ?_, fun D D' ρ M w q => ha.mono _ _ _ _ (fun ds M1 q1 => ?_) q⟩
  · refine ha.seq W es q fun ds M1 al1 F1 H1 vs q1 e1 W1 r1 s1 => ?_
    match ds, r1, q1 with
    | [d, e, f], .cons r2 (.cons r3 (.cons r4 .nil)), q1 => exact ⟨_, _, _, rfl, q1 al1 F1 H1 _ e1 W1 (((s1.sl.set r2 i).set r3 j).set r4 l) rfl⟩
  · match ds, q1 with
    | [d, e, f], q1 => exact w.nx _ _ q1
end
end DL

/-! DL8: short words for the printed terms. -/
namespace DL
open PySem PySem.Spec PyProof.Rows L2
section
variable {X : Cx} {a b c : Expr} {fa fb fc : DTE} {pos : Pos} {es : List Expr} {fr : DTA}
theorem dv (i : Nat) {x : Str} {pos : Pos} (hN : X.N[i]? = some x := by rfl) (hv : Vis X.env.scope x := by first | exact Or.inl rfl | exact Or.inr (Or.inl rfl) | exact Or.inr (Or.inr rfl)) (hd : (x == ("__debug__" : Str)) = false := by decide)
    (hcd : (x == ("__classdict__" : Str)) = false := by decide) : DE X (.Name x pos) (dVar i) := d_var i hN hv hd hcd
theorem dgn (i : Nat) {x : Str} {pos : Pos} (hN : X.N.Nodup) (hi : X.N[i]? = some x := by rfl) (hx : Loc X.env.scope x := by first | exact Or.inl rfl | exact Or.inr rfl) (hf : X.fn x = true ∨ X.env.scope.names.lookup x = some .local := by first | exact .inl rfl | exact .inr rfl) : DG X (.Name x pos) (dgName i) [i] := dg_name hN hi hx hf
theorem dss (i : Nat) {x : Str} {pos' : Pos} (hN : X.N.Nodup) (h : DE X a fa) (hi : X.N[i]? = some x := by rfl) (hx : Loc X.env.scope x := by first | exact Or.inl rfl | exact Or.inr rfl) (hs : swapsWith a (some (.Name x pos')) pos.line X.env = pure false := by rfl) (hf : X.fn x = true ∨ X.env.scope.names.lookup x = some .local := by first | exact .inl rfl | exact .inr rfl) :
    DS X (.Assign [.Name x pos'] a pos) (dAsg fa (dgName i)) := ds_set hN hi hx h hs hf
theorem dsp2 (i j : Nat) {x y : Str} {px py pt : Pos} {kt k2 : Nat} {pt2 : Pos} (hN : X.N.Nodup) (ha : DA X [a, b] fr) (hc : X.calm = true := by rfl) (hi : X.N[i]? = some x := by rfl) (hj : X.N[j]? = some y := by rfl) (hij : i ≠ j := by decide) (hx : X.env.scope.names.lookup x = some .local := by rfl) (hy : X.env.scope.names.lookup y = some .local := by rfl)
    (hw : swappedStores [.Tuple [.Name x px, .Name y py] kt pt] (.Tuple [a, b] k2 pt2) X.env = pure (some [x, y]) := by rfl) (hs : swapsWithSole [.Tuple [.Name x px, .Name y py] kt pt] (.Tuple [a, b] k2 pt2) pos.line X.env = pure false := by rfl) :
    DS X (.Assign [.Tuple [.Name x px, .Name y py] kt pt] (.Tuple [a, b] k2 pt2) pos) (dPar i j fr) :=
  ds_par hc hN hi hj hij hx hy ha fun h => ps_par hc hN hi hj hij hx hy h hw hs
theorem dsp3 (i j l : Nat) {x y z : Str} {px py pz pt : Pos} {kt k2 : Nat} {pt2 : Pos} (hN : X.N.Nodup) (ha : DA X [a, b, c] fr) (hc : X.calm = true := by rfl) (hi : X.N[i]? = some x := by rfl) (hj : X.N[j]? = some y := by rfl) (hl : X.N[l]? = some z := by rfl) (hij : i ≠ j := by decide) (hil : i ≠ l := by decide) (hjl : j ≠ l := by decide)
    (hx : X.env.scope.names.lookup x = some .local := by rfl) (hy : X.env.scope.names.lookup y = some .local := by rfl) (hz : X.env.scope.names.lookup z = some .local := by rfl)
    (hw : swappedStores [.Tuple [.Name x px, .Name y py, .Name z pz] kt pt] (.Tuple [a, b, c] k2 pt2) X.env = pure (some [x, y, z]) := by rfl) (hs : swapsWithSole [.Tuple [.Name x px, .Name y py, .Name z pz] kt pt] (.Tuple [a, b, c] k2 pt2) pos.line X.env = pure false := by rfl) :
    DS X (.Assign [.Tuple [.Name x px, .Name y py, .Name z pz] kt pt] (.Tuple [a, b, c] k2 pt2) pos) (dPar3 i j l fr) :=
  ds_par3 ha fun h => ps_par3 hc hN hi hj hl hij hil hjl hx hy hz h hw hs
/-! ### a < b < c -/
def r2 (K : PySem.W.Frag) (g : G2) : R2 := fun x y H Q => ∃ dx dy al F G M, Wd K al F G H M ∧ Rp K F al x dx ∧ Rp K F al y dy ∧ g dx dy M (kont K al F G Q)
theorem O2.opR {f : Value → Value → Sem Value} {g : G2} (h : O2 X f g) : OpR X f (r2 X.K g) := fun pins s σ H x y v u Q I rx ry ⟨dx, dy, al, F, G, M, W, r1, r2, q⟩ => h.run pins s σ al F G H M x y v u dx dy Q I rx ry W r1 r2 q
@[reducible] def dChain (g g' : G2) (fa fb fc : DTE) : DTE := fun ρ M Q => fa ρ M fun x M1 => fb ρ M1 fun y M2 => g x y M2 fun z M3 => match z with
  | .bl true => fc ρ M3 fun w M4 => g' y w M4 Q
  | .bl false => Q (.bl false) M3
  | _ => False
theorem d_chain {op op' : CmpOp} {g g' : G2} (ho : O2 X (compareOp op) g) (ho' : O2 X (compareOp op') g') (ha : DE X a fa) (hb : DE X b fb) (hc : DE X c fc)
    (pe : ∀ {r r' : R2} {ta tb tc : TE}, OpR X (compareOp op) r → OpR X (compareOp op') r' → PE X a ta → PE X b tb → PE X c tc → PE X (.Compare a [op, op'] [b, c] pos) (tChain r r' ta tb tc)) : DE X (.Compare a [op, op'] [b, c] pos) (dChain g g' fa fb fc) := by
  refine ⟨PE.of (pe ho.opR ho'.opR ha.pe hb.pe hc.pe) fun σ H Q ⟨ρ, M, al, F, G, W, s, q⟩ => ?_, fun ρ M Q Q' w q => ha.mono _ _ _ _ (fun x M1 q1 => hb.mono _ _ _ _ (fun y M2 q2 => ho.mono _ _ _ _ _ (fun z M3 q3 => ?_) q2) q1) q⟩
  · refine ha.seq W s q fun dx M1 al1 F1 H1 v q1 e1 W1 r1 s1 => ?_
    refine hb.seq W1 s1 q1 fun dy M2 al2 F2 H2 u q2 e2 W2 r2 s2 => ?_
    refine ⟨dx, dy, al2, F2, G, M2, W2, r1.ext e2, r2, ho.mono _ _ _ _ _ (fun z M3 q3 al3 F3 H3 zv e3 W3 r3 => ?_) q2⟩
    cases r3 with
    | bl k =>
      refine ⟨k, rfl, ?_⟩
      cases k with
      | true =>
        refine hc.seq W3 (s2.ext e3) q3 fun dw M4 al4 F4 H4 wv q4 e4 W4 r4 s4 => ?_
        exact ⟨dy, dw, al4, F4, G, M4, W4, r2.ext (e3.trans e4), r4, ho'.mono _ _ _ _ _ (fun d M5 k => kont.ext k (e1.trans (e2.trans (e3.trans e4)))) q4⟩
      | false => exact q3 al3 F3 H3 _ (e1.trans (e2.trans e3)) W3 (.bl false)
    | _ => exact q3.elim
  · try dsimp only at q3 ⊢
    split at q3
    · exact hc.mono _ _ _ _ (fun w' M4 q4 => ho'.mono _ _ _ _ _ w q4) q3
    · exact w _ _ q3
    · exact q3.elim
/-! ### what may be called by a name -/
structure Cl (P : Program) (w : World) (K : PySem.W.Frag) (mg : Str → Option Value) (base : Heap) (x : Str) (k : Nat) (ps : List Str) (ds : DSp) : Prop where
  ex : ∃ (f : Addr) (fd : FuncData), FnG P w K mg base (L2N.CX P w) k f fd ps (spOf K ds) ∧ mg x = some (.ref f) ∧ PySem.W.keepIn K (.ref f) = true ∧ Binds K fd ps []
  mono : MonoSp ds
theorem d_cl {ds : DSp} {k : Nat} {ps : List Str} {x : Str} {p : Pos} (C : Cl X.prog X.w X.K X.mg X.base x k ps ds) (hgd : X.A.guards = some []) (hr : Room k X.A) (ha : DA X (a :: es) fr) (hg : Gl X x := by rfl) (hdb : (x == ("__debug__" : Str)) = false := by decide)
    (he : starEach (a :: es) X.env = (false, eval a X.env) :: starEach es X.env := by rfl) (hpl : (backTo pos (starEach es X.env)).any (·.1) = false := by rfl) : DE X (.Call (.Name x p) (a :: es) [] pos) (dCall ds fr) := by
  obtain ⟨f, fd, G, hm, hk, hb⟩ := C.ex
  exact d_call G hgd hr hg hm hk hb C.mono ha hdb he hpl
theorem Cl.up {P : Program} {w : World} {K : PySem.W.Frag} {mg : Str → Option Value} {base : Heap} {x : Str} {j k : Nat} {ps : List Str} {ds : DSp} (C : Cl P w K mg base x j ps ds) (h : j ≤ k) : Cl P w K mg base x k ps ds := by
  obtain ⟨f, fd, G, r⟩ := C.ex
  exact ⟨⟨f, fd, G.mono h, r⟩, C.mono⟩
/-- a def of the top -/
structure Df (K : PySem.W.Frag) (mg : Str → Option Value) (x : Str) (st : Stmt) : Prop where
  ex : ∃ (f : Addr) (fd : FuncData), Fun K x x st f fd ∧ mg x = some (.ref f)
/-- the built-in names that no text here takes -/
structure Bn (mg : Str → Option Value) : Prop where
  abs : mg "abs" = none
  all : mg "all" = none
  any : mg "any" = none
  bool : mg "bool" = none
  dict : mg "dict" = none
  enumerate : mg "enumerate" = none
  int : mg "int" = none
  isinstance : mg "isinstance" = none
  len : mg "len" = none
  list : mg "list" = none
  max : mg "max" = none
  min : mg "min" = none
  range : mg "range" = none
  repr : mg "repr" = none
  set : mg "set" = none
  sorted : mg "sorted" = none
  str : mg "str" = none
  sum : mg "sum" = none
  tuple : mg "tuple" = none
  zip : mg "zip" = none
  LookupError : mg "LookupError" = none
  ValueError : mg "ValueError" = none
theorem b_ValueError : bootBuiltins "ValueError" = some (.type "ValueError") := by decide +kernel
theorem b_LookupError : bootBuiltins "LookupError" = some (.type "LookupError") := by decide +kernel
theorem b_abs : bootBuiltins "abs" = some (.builtin "abs") := by decide +kernel
theorem b_all : bootBuiltins "all" = some (.builtin "all") := by decide +kernel
theorem b_any : bootBuiltins "any" = some (.builtin "any") := by decide +kernel
theorem b_bool : bootBuiltins "bool" = some (.type "bool") := by decide +kernel
theorem b_int : bootBuiltins "int" = some (.type "int") := by decide +kernel
theorem b_len : bootBuiltins "len" = some (.builtin "len") := by decide +kernel
theorem b_list : bootBuiltins "list" = some (.type "list") := by decide +kernel
theorem b_max : bootBuiltins "max" = some (.builtin "max") := by decide +kernel
theorem b_min : bootBuiltins "min" = some (.builtin "min") := by decide +kernel
theorem b_repr : bootBuiltins "repr" = some (.builtin "repr") := by decide +kernel
theorem b_str : bootBuiltins "str" = some (.type "str") := by decide +kernel
theorem b_sum : bootBuiltins "sum" = some (.builtin "sum") := by decide +kernel
theorem b_tuple : bootBuiltins "tuple" = some (.type "tuple") := by decide +kernel
theorem b_sorted : bootBuiltins "sorted" = some (.builtin "sorted") := by decide +kernel
/-- a comprehension's list that will be changed -/
@[reducible] def dLcM (fi : DTI) (g : DTG) (t : DTT) (fe : DTE) (vs : List Nat) : DTE := fun ρ M Q => fi ρ M fun ds st M1 => lcGo st (lcStep ρ vs g t fe) ds [] M1 fun acc M2 => Q (.ref M2.length) (M2 ++ [Cell.lst acc])
theorem Wd.thawM {K : PySem.W.Frag} {al : List Addr} {F G H : Hp} {M : Sto} {p : Addr} {xs : List V} {ds : List D} (W : Wd K al F (upd G p (.lst xs)) H M) (hg : G p = none) (rs : Rps K F al xs ds) : Wd K (al ++ [p]) F G H (M ++ [.lst ds]) ∧ Ext al F (al ++ [p]) F := by
  have hp := W.fg p _ upd_same
  have e : Ext al F (al ++ [p]) F := ⟨⟨[p], rfl⟩, Sm.refl F⟩
  refine ⟨⟨W.sm, fun b u q => W.sg b u (Sm.new hg b u q), fun a u q => ?_, by simp [W.len], ?_, fun a q => ?_, fun n c a q r => ?_⟩, e⟩
  · have hn : a ≠ p := fun z => by subst z; rw [hg] at q; cases q
    obtain ⟨h1, h2⟩ := W.fg a u (Sm.new hg a u q)
    refine ⟨h1, fun z => ?_⟩
    rcases List.mem_append.mp z with z | z
    · exact h2 z
    · exact hn (by simpa using z)
  · rw [List.nodup_append]
    refine ⟨W.nd, by simp, fun a ha b hb => ?_⟩
    have hb' : b = p := by simpa using hb
    subst hb'
    exact fun z => hp.2 (z ▸ ha)
  · rcases List.mem_append.mp q with q | q
    · exact W.out a q
    · have q' : a = p := by simpa using q
      subst q'
      exact hp.1
  · by_cases hn : n < M.length
    · rw [List.getElem?_append_left hn] at q
      rw [List.getElem?_append_left (by rw [W.len]; exact hn)] at r
      exact (W.cel n c a q r).ext e rfl
    · have hn' : n = M.length := by
        have := (List.getElem?_eq_some_iff.mp q).1
        rw [List.length_append, List.length_singleton] at this
        omega
      subst hn'
      rw [List.getElem?_append_right (Nat.le_refl _)] at q
      rw [← W.len, List.getElem?_append_right (Nat.le_refl _)] at r
      simp at q r
      subst q
      subst r
      exact ⟨xs, W.sg _ _ upd_same, rs.ext e⟩
theorem lcM_ok {Y : Cx} {wi : DTI} {g : DTG} {t : DTT} {fe : DTE} {vs js : List Nat} {σ : L2.St} {H : Hp} {Q : VK} (hi : ∀ ρ M (Q Q' : List D → (Sto → Prop) → Sto → Prop), (∀ ds st M, Q ds st M → Q' ds st M) → wi ρ M Q → wi ρ M Q')
    (hg : MonoG g) (ht : ∀ ρ M (Q Q' : Bool → Sto → Prop), (∀ d M, Q d M → Q' d M) → t ρ M Q → t ρ M Q') (he : ∀ ρ M (Q Q' : DK), (∀ d M, Q d M → Q' d M) → fe ρ M Q → fe ρ M Q') (hj : ∀ j ∈ js, j ∈ vs)
    (h : Lift Y (dLcM wi g t fe vs) σ H Q) : tLc (LiftI Y wi) (LiftGN Y.K g js) (LiftTN Y.K t) (LiftN Y.K fe) vs σ H Q := by
  obtain ⟨ρ, M, al, F, G, W, es, q⟩ := h
  refine ⟨ρ, M, al, F, G, W, es, hi _ _ _ _ (fun ds st M1 q1 al1 F1 H1 J e1 W1 ok => ?_) q⟩
  intro Dd hD
  have hGD : G Dd = none := W1.sg.free hD
  refine ⟨fun i m H' => ∃ M' al' F' acc xs, i + m = ds.length ∧ Ext al1 F1 al' F' ∧ Wd Y.K al' F' (upd G Dd (.lst xs)) H' M' ∧ Rps Y.K F' al' xs acc ∧ lcGo st (lcStep ρ vs g t fe) (ds.drop i) acc M' (fun acc M2 => kont Y.K al F G Q (.ref M2.length) (M2 ++ [Cell.lst acc])),
    ⟨ds.length, M1, al1, F1, [], [], by omega, Ext.refl _ _, W1.hide hD, .nil, q1⟩, ?_⟩
  rintro i m H' ⟨M', al', F', acc, xs, em, e', W', rs, q'⟩
  have smG : Sm G (upd G Dd (.lst xs)) := Sm.new hGD
  by_cases hil : i < ds.length
  · rw [List.drop_eq_getElem_cons hil] at q'
    obtain ⟨hst, q'⟩ := q'
    obtain ⟨go, yl⟩ := (ok al' F' _ H' M' e' smG W' hst i).1 ds[i] (List.getElem?_eq_getElem hil)
    refine .inr ⟨go, fun H2 => ∃ M2 al2 F2 acc2 xs2, Ext al1 F1 al2 F2 ∧ Wd Y.K al2 F2 (upd G Dd (.lst xs2)) H2 M2 ∧ Rps Y.K F2 al2 xs2 acc2 ∧ lcGo st (lcStep ρ vs g t fe) (ds.drop (i + 1)) acc2 M2 (fun acc M2 => kont Y.K al F G Q (.ref M2.length) (M2 ++ [Cell.lst acc])), ?_, fun x H2 hy => ?_⟩
    · rintro H2 ⟨M2, al2, F2, acc2, xs2, e2, W2, r2, q2⟩
      exact ⟨m - 1, by omega, M2, al2, F2, acc2, xs2, by omega, e2, W2, r2, q2⟩
    · obtain ⟨F2, sm2, W2, r2⟩ := yl x H2 hy
      have e2 : Ext al' F' al' F2 := ⟨⟨[], by simp⟩, sm2⟩
      have esw : Sl Y.K F2 al' (wipe σ vs) (wipeD ρ.v vs) := (es.sl.ext (e1.trans (e'.trans e2))).wipe vs
      refine ⟨ds[i], ⟨wipeD ρ.v vs, noX⟩, M', al', F2, _, W2, esw, rfl, r2, hg _ _ _ _ _ (fun ρ3 M3 q3 al3 F3 H3 σ3 e3 W3 s3 x3 o3 => ?_) q'⟩
      refine ⟨(wipe_eq o3 hj).trans wipe_wipe, ρ3, M3, al3, F3, _, W3, s3, x3, ht _ _ _ _ (fun b M4 q4 al4 F4 H4 e4 W4 => ?_) q3⟩
      cases b with
      | false =>
        exact ⟨M4, al4, F4, acc, xs, e'.trans (e2.trans (e3.trans e4)), W4, rs.ext (e2.trans (e3.trans e4)), q4⟩
      | true =>
        refine ⟨ρ3, M4, al4, F4, _, W4, s3.ext e4, x3, he _ _ _ _ (fun y M5 q5 al5 F5 H5 v5 e5 W5 r5 => ?_) q4⟩
        have eA : Ext al' F' al5 F5 := e2.trans (e3.trans (e4.trans e5))
        have rl := rs.length
        refine ⟨xs, W5.sg _ _ upd_same, Nat.lt_of_lt_of_le (by have := q5.1; omega : xs.length < 100000) (by decide), M5, al5, F5, acc ++ [y], xs ++ [v5], e'.trans eA, W5.rehide, (rs.ext eA).append (.cons r5 .nil), q5.2⟩
  · rw [List.drop_eq_nil_of_le (by omega)] at q'
    refine .inl ⟨(ok al' F' _ H' M' e' smG W' q'.1 i).2 (by omega), ?_⟩
    obtain ⟨W2, e2⟩ := W'.thawM hGD rs
    exact q'.2 _ _ H' _ (e1.trans (e'.trans e2)) W2 (.ref (by rw [← W'.len, List.getElem?_append_right (Nat.le_refl _)]; simp))
theorem d_lcM {elt tg iter : Expr} {ifs : List Expr} {scope : Scope} {own : List (Str × Nat)} {fi : DTI} {g : DTG} {t : DTT} {fe : DTE} {js : List Nat} (hc : X.calm = true) (hN : X.N.Nodup) (hi : DI X tg iter fi) (ok : BlkOk X.N X.env.scope scope own) (hj : ∀ j ∈ js, j ∈ own.map (·.2))
    (hg : ∀ (s : Shared) (H : Hp) (C : Addr) (cl : List (Str × Addr)) (fp : List Addr), DG (X.blk s H scope (compEnvC scope cl C X.env) fp) tg g js)
    (ht : ∀ (s : Shared) (H : Hp) (C : Addr) (cl : List (Str × Addr)) (fp : List Addr), DTTs (X.blk s H scope (compEnvC scope cl C X.env) fp) ifs t)
    (he : ∀ (s : Shared) (H : Hp) (C : Addr) (cl : List (Str × Addr)) (fp : List Addr), DE (X.blk s H scope (compEnvC scope cl C X.env) fp) elt fe)
    (hfs : ∀ x : Value, foldedSetIterable iter X.env x = pure x := by intro _; rfl) : DE X (.ListComp elt [⟨tg, iter, ifs, 0⟩] scope pos) (dLcM fi g t fe (own.map (·.2))) := by
  have g0 := (hg X.s_0 (fun _ => none) 0 [] []).mono
  have t0 := (ht X.s_0 (fun _ => none) 0 [] []).2
  have e0 := (he X.s_0 (fun _ => none) 0 [] []).mono
  refine ⟨PE.of (pe_lc hc hN hi.pi ok (fun s H C cl fp => PG.of (hg s H C cl fp).pg fun _ _ _ _ z => LiftGN.of (hg s H C cl fp).mono z) (fun s H C cl fp => PTs.of (ht s H C cl fp).1 fun _ _ _ z => LiftTN.of z) (fun s H C cl fp => PE.of (he s H C cl fp).pe fun _ _ _ z => LiftN.of z) hfs) fun σ H Q h => lcM_ok (Y := X) hi.mono g0 t0 e0 hj h, fun ρ M Q Q' w q => ?_⟩
  exact hi.mono _ _ _ _ (fun ds st M1 q1 => lcGo_mono (lcStep_mono g0 t0 e0) _ _ (fun a M2 q2 => w _ _ q2) ds [] M1 q1) q
end
end DL

/-! DL9: lemmas for the readings: lookups, ifs, loops, shown data. -/
namespace DL
open PySem PySem.Spec PyProof.Rows L2
theorem itemsOf_tup (ds : List D) (M : Sto) : itemsOf (.tup ds) M = some ds := rfl
theorem itemsOf_lst (ds : List D) (M : Sto) : itemsOf (.lst ds) M = some ds := rfl
theorem itemsOf_ref (n : Nat) (M : Sto) : itemsOf (.ref n) M = match M[n]? with
    | some (.lst ds) => some ds
    | _ => none := rfl
theorem seqOf_lst (ds : List D) (M : Sto) : seqOf (.lst ds) M = some ds := rfl
theorem seqOf_ref (n : Nat) (M : Sto) : seqOf (.ref n) M = match M[n]? with
    | some (.lst ds) => some ds
    | _ => none := rfl
theorem lenOf_tup (ds : List D) (M : Sto) : lenOf (.tup ds) M = some ds.length := rfl
theorem lenOf_lst (ds : List D) (M : Sto) : lenOf (.lst ds) M = some ds.length := rfl
theorem lenOf_ref (n : Nat) (M : Sto) : lenOf (.ref n) M = match M[n]? with
    | some (.lst ds) => some ds.length
    | _ => none := by
  show (match (match M[n]? with | some (.lst ds) => some ds | _ => none) with | some ds => some ds.length | none => none) = _
  cases M[n]? with
  | none => rfl
  | some c => cases c <;> rfl
theorem atI_0 {α : Type} (x : α) (xs : List α) : atI (x :: xs) 0 = some x := atI_nat (xs := x :: xs) (j := 0) rfl
theorem atI_1 {α : Type} (x y : α) (xs : List α) : atI (x :: y :: xs) 1 = some y := atI_nat (xs := x :: y :: xs) (j := 1) rfl
theorem atI_2 {α : Type} (x y z : α) (xs : List α) : atI (x :: y :: z :: xs) 2 = some z := atI_nat (xs := x :: y :: z :: xs) (j := 2) rfl
theorem atI_3 {α : Type} (x y z u : α) (xs : List α) : atI (x :: y :: z :: u :: xs) 3 = some u := atI_nat (xs := x :: y :: z :: u :: xs) (j := 3) rfl
theorem ixN_0 (n : Nat) : ixN (n + 1) 0 = some 0 := by unfold ixN; rw [if_pos (by decide), if_pos (by omega)]; rfl
theorem ixN_1 (n : Nat) : ixN (n + 1 + 1) 1 = some 1 := by unfold ixN; rw [if_pos (by decide), if_pos (by omega)]; rfl
/-- an item at an index that is known to lie within -/
theorem atI_of {α : Type} {xs : List α} {i : Int} {j : Nat} {x : α} (e : i = (j : Int)) (h : xs[j]? = some x) : atI xs i = some x := by rw [e]; exact atI_nat h
theorem ixN_of {n : Nat} {i : Int} (h0 : 0 ≤ i) (h1 : i < n) : ixN n i = some i.toNat := by unfold ixN; rw [if_pos h0, if_pos h1]
theorem atI_ints {ns : List Int} {i : Int} (h0 : 0 ≤ i) (h1 : i < ns.length) : ∃ x, x ∈ ns ∧ ns[i.toNat]? = some x ∧ atI (ns.map D.int) i = some (.int x) := by
  have hl : i.toNat < ns.length := by omega
  refine ⟨ns[i.toNat], List.getElem_mem hl, List.getElem?_eq_getElem hl, ?_⟩
  refine atI_of (j := i.toNat) (by omega) ?_
  rw [List.getElem?_map, List.getElem?_eq_getElem hl]
  rfl
theorem ite_dec {p : Prop} [Decidable p] {A B : Prop} (h1 : p → A) (h2 : ¬ p → B) : if decide p = true then A else B := by
  by_cases h : p
  · rw [if_pos (decide_eq_true h)]; exact h1 h
  · rw [if_neg (by rw [decide_eq_false h]; decide)]; exact h2 h
theorem ite_yes {p : Prop} [Decidable p] {A B : Prop} (h : p) (a : A) : if decide p = true then A else B := by rw [if_pos (decide_eq_true h)]; exact a
theorem ite_no {p : Prop} [Decidable p] {A B : Prop} (h : ¬ p) (b : B) : if decide p = true then A else B := by rw [if_neg (by rw [decide_eq_false h]; decide)]; exact b
theorem ite_bl {b : Bool} {A B : Prop} (h1 : b = true → A) (h2 : b = false → B) : if b = true then A else B := by
  cases b
  · rw [if_neg (by decide)]; exact h2 rfl
  · rw [if_pos rfl]; exact h1 rfl
/-! ### loops, by what holds between two turns -/
def forI (st : Sto → Prop) (g : DTG) (body : DTS) (ds : List D) (E : DEnds) (ρ : Dn) (M : Sto) : Prop := ∃ I : List D → List D → Dn → Sto → Prop, I [] ds ρ M ∧ (∀ done todo ρ M, I done todo ρ M → st M) ∧
  (∀ done d todo ρ M, I done (d :: todo) ρ M → g d ρ M fun ρ1 M1 => body { nx := fun ρ2 M2 => I (done ++ [d]) todo ρ2 M2, rt := E.rt, bk := E.nx, ct := fun ρ2 M2 => I (done ++ [d]) todo ρ2 M2 } ρ1 M1) ∧ ∀ done ρ M, I done [] ρ M → E.nx ρ M
theorem for_go {st : Sto → Prop} {g : DTG} {body : DTS} {E : DEnds} {I : List D → List D → Dn → Sto → Prop} (hst : ∀ done todo ρ M, I done todo ρ M → st M)
      (step : ∀ done d todo ρ M, I done (d :: todo) ρ M → g d ρ M fun ρ1 M1 => body { nx := fun ρ2 M2 => I (done ++ [d]) todo ρ2 M2, rt := E.rt, bk := E.nx, ct := fun ρ2 M2 => I (done ++ [d]) todo ρ2 M2 } ρ1 M1)
      (hend : ∀ done ρ M, I done [] ρ M → E.nx ρ M) (mg : MonoG g) (mb : MonoS body) : ∀ (done todo : List D) (ρ : Dn) (M : Sto), I done todo ρ M → forGo st g body todo E ρ M
  | done, [], ρ, M, h => ⟨hst _ _ _ _ h, hend _ _ _ h⟩
  | done, d :: todo, ρ, M, h => by
    refine ⟨hst _ _ _ _ h, mg _ _ _ _ _ (fun ρ1 M1 q1 => ?_) (step done d todo ρ M h)⟩
    exact MonoS.up mb (D := { nx := fun ρ2 M2 => I (done ++ [d]) todo ρ2 M2, rt := E.rt, bk := E.nx, ct := fun ρ2 M2 => I (done ++ [d]) todo ρ2 M2 }) q1
      ⟨fun ρ2 M2 q2 => for_go hst step hend mg mb (done ++ [d]) todo ρ2 M2 q2, fun _ _ z => z, fun _ _ z => z, fun ρ2 M2 q2 => for_go hst step hend mg mb (done ++ [d]) todo ρ2 M2 q2⟩
@[reducible] def dForI (fi : DTI) (g : DTG) (body : DTS) : DTS := fun E ρ M => fi ρ M fun ds st M1 => forI st g body ds E ρ M1
theorem forI_mono {st : Sto → Prop} {g : DTG} {body : DTS} (hg : MonoG g) (hb : MonoS body) (ds : List D) : MonoS (forI st g body ds) := by
  rintro D D' ρ M w ⟨I, h0, h1, h2, h3⟩
  refine ⟨I, h0, h1, fun done d todo ρ M h => hg _ _ _ _ _ (fun ρ1 M1 q1 => ?_) (h2 done d todo ρ M h), fun done ρ M h => w.nx _ _ (h3 done ρ M h)⟩
  exact MonoS.up hb (D := { nx := fun ρ2 M2 => I (done ++ [d]) todo ρ2 M2, rt := D.rt, bk := D.nx, ct := fun ρ2 M2 => I (done ++ [d]) todo ρ2 M2 }) q1 ⟨fun _ _ z => z, w.rt, w.nx, fun _ _ z => z⟩
def lcI (st : Sto → Prop) (step : D → Sto → (Option D → Sto → Prop) → Prop) (ds : List D) (M : Sto) (Q : List D → Sto → Prop) : Prop := ∃ I : List D → List D → List D → Sto → Prop, I [] ds [] M ∧ (∀ done todo acc M, I done todo acc M → st M) ∧
  (∀ done d todo acc M, I done (d :: todo) acc M → step d M fun o M1 => match o with
      | some y => acc.length < 100000 ∧ I (done ++ [d]) todo (acc ++ [y]) M1
      | none => I (done ++ [d]) todo acc M1) ∧ ∀ done acc M, I done [] acc M → Q acc M
theorem lc_go {st : Sto → Prop} {step : D → Sto → (Option D → Sto → Prop) → Prop} {Q : List D → Sto → Prop} {I : List D → List D → List D → Sto → Prop} (hst : ∀ done todo acc M, I done todo acc M → st M)
    (hs : ∀ done d todo acc M, I done (d :: todo) acc M → step d M fun o M1 => match o with
      | some y => acc.length < 100000 ∧ I (done ++ [d]) todo (acc ++ [y]) M1
      | none => I (done ++ [d]) todo acc M1)
    (hm : ∀ d M (k k' : Option D → Sto → Prop), (∀ o M, k o M → k' o M) → step d M k → step d M k') (hend : ∀ done acc M, I done [] acc M → Q acc M) :
    ∀ (done todo acc : List D) (M : Sto), I done todo acc M → lcGo st step todo acc M Q
  | done, [], acc, M, h => ⟨hst _ _ _ _ h, hend _ _ _ h⟩
  | done, d :: todo, acc, M, h => ⟨hst _ _ _ _ h, hm _ _ _ _ (fun o M1 q => by
    cases o with
    | none => exact lc_go hst hs hm hend (done ++ [d]) todo acc M1 q
    | some y => exact ⟨q.1, lc_go hst hs hm hend (done ++ [d]) todo (acc ++ [y]) M1 q.2⟩) (hs done d todo acc M h)⟩
theorem lcI_go {st : Sto → Prop} {step : D → Sto → (Option D → Sto → Prop) → Prop} {ds : List D} {M : Sto} {Q : List D → Sto → Prop} (hm : ∀ d M (k k' : Option D → Sto → Prop), (∀ o M, k o M → k' o M) → step d M k → step d M k') (h : lcI st step ds M Q) : lcGo st step ds [] M Q :=
  let ⟨I, h0, h1, h2, h3⟩ := h
  lc_go (I := I) h1 h2 hm h3 [] ds [] M h0
@[reducible] def dLcI (fi : DTI) (g : DTG) (t : DTT) (fe : DTE) (vs : List Nat) : DTE := fun ρ M Q => fi ρ M fun ds st M1 => lcI st (lcStep ρ vs g t fe) ds M1 fun acc M2 => Q (.lst acc) M2
@[reducible] def dLcMI (fi : DTI) (g : DTG) (t : DTT) (fe : DTE) (vs : List Nat) : DTE := fun ρ M Q => fi ρ M fun ds st M1 => lcI st (lcStep ρ vs g t fe) ds M1 fun acc M2 => Q (.ref M2.length) (M2 ++ [Cell.lst acc])
section
variable {X : Cx} {pos : Pos}
theorem DE.weak {e : Expr} {f f' : DTE} (h : DE X e f) (w : ∀ ρ M Q, f' ρ M Q → f ρ M Q) (m : ∀ ρ M (Q Q' : DK), (∀ d M, Q d M → Q' d M) → f' ρ M Q → f' ρ M Q') : DE X e f' :=
  ⟨PE.of h.pe fun σ H Q ⟨ρ, M, al, F, G, W, s, q⟩ => ⟨ρ, M, al, F, G, W, s, w _ _ _ q⟩, m⟩
theorem DS.weak {e : Stmt} {f f' : DTS} (h : DS X e f) (w : ∀ E ρ M, f' E ρ M → f E ρ M) (m : MonoS f') : DS X e f' :=
  ⟨PS.of h.ps fun E σ H ⟨ρ, M, al, F, G, W, s, q⟩ => ⟨ρ, M, al, F, G, W, s, w _ _ _ q⟩, m⟩
theorem ds_forI {tg iter : Expr} {body : List Stmt} {fi : DTI} {g : DTG} {js : List Nat} {f : DTS} (hp : PassesOwn (model X.prog X.w) X.A X.env X.xe) (hc : X.calm = true) (hi : DI X tg iter fi) (hg : DG X tg g js) (hb : DSs X body f)
    (hfs : ∀ x : Value, foldedSetIterable iter X.env x = pure x := by intro _; rfl) : DS X (.For tg iter body [] pos) (dForI fi g f) :=
  (ds_for hp hc hi hg hb hfs).weak (fun E ρ M q => hi.mono _ _ _ _ (fun ds st M1 ⟨I, h0, h1, h2, h3⟩ => for_go (I := I) h1 h2 h3 hg.mono hb.mono [] ds ρ M1 h0) q)
    fun D D' ρ M w q => hi.mono _ _ _ _ (fun ds st M1 q1 => forI_mono hg.mono hb.mono ds D D' ρ M1 w q1) q
theorem d_lcI {elt tg iter : Expr} {ifs : List Expr} {scope : Scope} {own : List (Str × Nat)} {fi : DTI} {g : DTG} {t : DTT} {fe : DTE} {js : List Nat} (hc : X.calm = true) (hN : X.N.Nodup) (hi : DI X tg iter fi) (ok : BlkOk X.N X.env.scope scope own) (hj : ∀ j ∈ js, j ∈ own.map (·.2))
    (hg : ∀ (s : Shared) (H : Hp) (C : Addr) (cl : List (Str × Addr)) (fp : List Addr), DG (X.blk s H scope (compEnvC scope cl C X.env) fp) tg g js)
    (ht : ∀ (s : Shared) (H : Hp) (C : Addr) (cl : List (Str × Addr)) (fp : List Addr), DTTs (X.blk s H scope (compEnvC scope cl C X.env) fp) ifs t)
    (he : ∀ (s : Shared) (H : Hp) (C : Addr) (cl : List (Str × Addr)) (fp : List Addr), DE (X.blk s H scope (compEnvC scope cl C X.env) fp) elt fe)
    (hfs : ∀ x : Value, foldedSetIterable iter X.env x = pure x := by intro _; rfl) : DE X (.ListComp elt [⟨tg, iter, ifs, 0⟩] scope pos) (dLcI fi g t fe (own.map (·.2))) := by
  have g0 := (hg X.s_0 (fun _ => none) 0 [] []).mono
  have t0 := (ht X.s_0 (fun _ => none) 0 [] []).2
  have e0 := (he X.s_0 (fun _ => none) 0 [] []).mono
  exact (d_lc hc hN hi ok hj hg ht he hfs).weak (fun ρ M Q q => hi.mono _ _ _ _ (fun ds st M1 q1 => lcI_go (lcStep_mono g0 t0 e0) q1) q)
    fun ρ M Q Q' w q => hi.mono _ _ _ _ (fun ds st M1 ⟨I, h0, h1, h2, h3⟩ => ⟨I, h0, h1, h2, fun done acc M h => w _ _ (h3 done acc M h)⟩) q
theorem d_lcMI {elt tg iter : Expr} {ifs : List Expr} {scope : Scope} {own : List (Str × Nat)} {fi : DTI} {g : DTG} {t : DTT} {fe : DTE} {js : List Nat} (hc : X.calm = true) (hN : X.N.Nodup) (hi : DI X tg iter fi) (ok : BlkOk X.N X.env.scope scope own) (hj : ∀ j ∈ js, j ∈ own.map (·.2))
    (hg : ∀ (s : Shared) (H : Hp) (C : Addr) (cl : List (Str × Addr)) (fp : List Addr), DG (X.blk s H scope (compEnvC scope cl C X.env) fp) tg g js)
    (ht : ∀ (s : Shared) (H : Hp) (C : Addr) (cl : List (Str × Addr)) (fp : List Addr), DTTs (X.blk s H scope (compEnvC scope cl C X.env) fp) ifs t)
    (he : ∀ (s : Shared) (H : Hp) (C : Addr) (cl : List (Str × Addr)) (fp : List Addr), DE (X.blk s H scope (compEnvC scope cl C X.env) fp) elt fe)
    (hfs : ∀ x : Value, foldedSetIterable iter X.env x = pure x := by intro _; rfl) : DE X (.ListComp elt [⟨tg, iter, ifs, 0⟩] scope pos) (dLcMI fi g t fe (own.map (·.2))) := by
  have g0 := (hg X.s_0 (fun _ => none) 0 [] []).mono
  have t0 := (ht X.s_0 (fun _ => none) 0 [] []).2
  have e0 := (he X.s_0 (fun _ => none) 0 [] []).mono
  exact (d_lcM hc hN hi ok hj hg ht he hfs).weak (fun ρ M Q q => hi.mono _ _ _ _ (fun ds st M1 q1 => lcI_go (lcStep_mono g0 t0 e0) q1) q)
    fun ρ M Q Q' w q => hi.mono _ _ _ _ (fun ds st M1 ⟨I, h0, h1, h2, h3⟩ => ⟨I, h0, h1, h2, fun done acc M h => w _ _ (h3 done acc M h)⟩) q
theorem ds_setLcI {i : Nat} {y : Str} {py spos : Pos} {elt tg iter : Expr} {ifs : List Expr} {scope : Scope} {own : List (Str × Nat)} {fi : DTI} {g : DTG} {t : DTT} {fe : DTE} {js : List Nat} (hc : X.calm = true) (hN : X.N.Nodup) (hy : X.N[i]? = some y) (hl : X.env.scope.names.lookup y = some .local)
    (hsw : swapsWith (.ListComp elt [⟨tg, iter, ifs, 0⟩] scope pos) (some (.Name y py)) spos.line X.env = pure true) (hi : DI X tg iter fi) (ok : BlkOk X.N X.env.scope scope own) (hj : ∀ j ∈ js, j ∈ own.map (·.2))
    (hg : ∀ (s : Shared) (H : Hp) (C : Addr) (cl : List (Str × Addr)) (fp : List Addr), DG (X.blk s H scope (compEnvC scope cl C X.env) fp) tg g js)
    (ht : ∀ (s : Shared) (H : Hp) (C : Addr) (cl : List (Str × Addr)) (fp : List Addr), DTTs (X.blk s H scope (compEnvC scope cl C X.env) fp) ifs t)
    (he : ∀ (s : Shared) (H : Hp) (C : Addr) (cl : List (Str × Addr)) (fp : List Addr), DE (X.blk s H scope (compEnvC scope cl C X.env) fp) elt fe)
    (hfs : ∀ x : Value, foldedSetIterable iter X.env x = pure x := by intro _; rfl) : DS X (.Assign [.Name y py] (.ListComp elt [⟨tg, iter, ifs, 0⟩] scope pos) spos) (dAsg (dLcI fi g t fe (own.map (·.2))) (dgName i)) := by
  have g0 := (hg X.s_0 (fun _ => none) 0 [] []).mono
  have t0 := (ht X.s_0 (fun _ => none) 0 [] []).2
  have e0 := (he X.s_0 (fun _ => none) 0 [] []).mono
  have hd := d_lcI (pos := pos) hc hN hi ok hj hg ht he hfs
  exact (ds_setLc hc hN hy hl hsw hi ok hj hg ht he hfs).weak (fun E ρ M q => hi.mono _ _ _ _ (fun ds st M1 q1 => lcI_go (lcStep_mono g0 t0 e0) q1) q)
    fun D D' ρ M w q => hd.mono _ _ _ _ (fun d M1 q1 => w.nx _ _ q1) q
end
/-- a comprehension whose turns change nothing: element by element a function -/
theorem lc_map {st : Sto → Prop} {step : D → Sto → (Option D → Sto → Prop) → Prop} (f : D → D) {ds : List D} {M : Sto} {Q : List D → Sto → Prop} (hst : st M) (hl : ds.length ≤ 100000) (hs : ∀ d ∈ ds, ∀ k : Option D → Sto → Prop, k (some (f d)) M → step d M k) (q : Q (ds.map f) M) : lcI st step ds M Q := by
  refine ⟨fun done todo acc M' => M' = M ∧ acc = done.map f ∧ done ++ todo = ds, ⟨rfl, rfl, rfl⟩, ?_, ?_, ?_⟩
  · rintro done todo acc M' ⟨rfl, _⟩
    exact hst
  · rintro done d todo acc M' ⟨rfl, rfl, e⟩
    refine hs d (by rw [← e]; simp) _ ⟨?_, rfl, by rw [List.map_append]; rfl, by rw [← e]; simp⟩
    rw [← e, List.length_append, List.length_cons] at hl
    rw [List.length_map]
    omega
  · rintro done acc M' ⟨rfl, rfl, e⟩
    rw [List.append_nil] at e
    rw [e]
    exact q
/-- .. with a test -/
theorem lc_filter {st : Sto → Prop} {step : D → Sto → (Option D → Sto → Prop) → Prop} (f : D → Option D) {ds : List D} {M : Sto} {Q : List D → Sto → Prop} (hst : st M) (hl : ds.length ≤ 100000) (hs : ∀ d ∈ ds, ∀ k : Option D → Sto → Prop, k (f d) M → step d M k) (q : Q (ds.filterMap f) M) : lcI st step ds M Q := by
  refine ⟨fun done todo acc M' => M' = M ∧ acc = done.filterMap f ∧ done ++ todo = ds, ⟨rfl, rfl, rfl⟩, ?_, ?_, ?_⟩
  · rintro done todo acc M' ⟨rfl, _⟩
    exact hst
  · rintro done d todo acc M' ⟨rfl, rfl, e⟩
    refine hs d (by rw [← e]; simp) _ ?_
    have hl2 := List.length_filterMap_le f done
    rw [← e, List.length_append, List.length_cons] at hl
    cases ef : f d with
    | none => exact ⟨rfl, by rw [List.filterMap_append, List.filterMap_cons, ef]; simp, by rw [← e]; simp⟩
    | some y => exact ⟨by omega, rfl, by rw [List.filterMap_append, List.filterMap_cons, ef]; simp, by rw [← e]; simp⟩
  · rintro done acc M' ⟨rfl, rfl, e⟩
    rw [List.append_nil] at e
    rw [e]
    exact q
theorem rng_mid {lo : Int} {n : Nat} {done todo : List D} {d : D} (e : done ++ d :: todo = rng lo n) : d = .int (lo + done.length) ∧ done.length < n := by
  have h : (rng lo n)[done.length]? = some d := by rw [← e, List.getElem?_append_right (Nat.le_refl _)]; simp
  rw [rng_get] at h
  split at h
  · next hl => exact ⟨(Option.some.inj h).symm, hl⟩
  · cases h
theorem rng_length (lo : Int) (n : Nat) : (rng lo n).length = n := by unfold rng; rw [List.length_map, List.length_range]
theorem rng_mem {lo : Int} {n : Nat} {d : D} (h : d ∈ rng lo n) : ∃ i, i < n ∧ d = .int (lo + i) := by
  unfold rng at h
  obtain ⟨i, hi, rfl⟩ := List.mem_map.mp h
  exact ⟨i, List.mem_range.mp hi, rfl⟩
theorem cut_map {α β : Type} (f : α → β) (xs : List α) (lo hi : Option Int) : cut (xs.map f) lo hi = (cut xs lo hi).map f := by
  unfold cut
  rw [List.length_map, List.map_take, List.map_drop]
theorem cut_len {α : Type} (xs : List α) (lo hi : Option Int) : (cut xs lo hi).length ≤ xs.length := by
  unfold cut
  rw [List.length_take, List.length_drop]
  omega
/-! ### data that can be shown -/
/-- data without places: n bounds the signs of its text, h its depth -/
inductive Sh : Nat → Nat → D → Prop
  | non : Sh 4 0 .non
  | bl (b : Bool) : Sh 5 0 (.bl b)
  | int {i : Int} (h : i.natAbs < 10 ^ 12) : Sh 13 0 (.int i)
  | intB {i : Int} {n : Nat} (h : i.natAbs.log2 < 1920) (hn : (PyData.shown (.int i)).length ≤ n) : Sh n 0 (.int i)
  | str {x : Str} {n : Nat} (h : (reprText x).length ≤ n) : Sh n 0 (.str x)
  | tup {n h m : Nat} {ds : List D} (hd : ∀ d ∈ ds, Sh n h d) (hl : ds.length ≤ m) : Sh (m * (n + 2) + 3) (h + 1) (.tup ds)
  | lst {n h m : Nat} {ds : List D} (hd : ∀ d ∈ ds, Sh n h d) (hl : ds.length ≤ m) : Sh (m * (n + 2) + 3) (h + 1) (.lst ds)
  | up {n h n' h' : Nat} {d : D} (s : Sh n h d) (hn : n ≤ n') (hh : h ≤ h') : Sh n' h' d
structure ShOk (n h : Nat) (d : D) : Prop where
  pu : DL.pu d = true
  showable : (toPy d).showable = true
  depth : (toPy d).depth ≤ h
  len : (toPy d).shown.length ≤ n
theorem shAll {n h : Nat} : ∀ {ds : List D}, (∀ d ∈ ds, ShOk n h d) → DL.pus ds = true ∧ PyData.showableAll (toPys ds) = true ∧ PyData.depthAll (toPys ds) ≤ h ∧ ((PyData.shownAll (toPys ds)).map (·.length)).sum ≤ ds.length * n ∧ (PyData.shownAll (toPys ds)).length = ds.length
  | [], _ => ⟨rfl, rfl, Nat.zero_le _, Nat.zero_le _, rfl⟩
  | d :: ds, hd => by
    obtain ⟨a1, a2, a3, a4⟩ := hd d List.mem_cons_self
    obtain ⟨b1, b2, b3, b4, b5⟩ := shAll (ds := ds) fun x hx => hd x (List.mem_cons_of_mem _ hx)
    refine ⟨?_, ?_, ?_, ?_, ?_⟩
    · show (DL.pu d && DL.pus ds) = true
      rw [a1, b1]; rfl
    · show (PyData.showable (toPy d) && PyData.showableAll (toPys ds)) = true
      rw [a2, b2]; rfl
    · show max (PyData.depth (toPy d)) (PyData.depthAll (toPys ds)) ≤ h
      exact Nat.max_le.mpr ⟨a3, b3⟩
    · show (PyData.shown (toPy d)).length + ((PyData.shownAll (toPys ds)).map (·.length)).sum ≤ (ds.length + 1) * n
      rw [Nat.add_mul]
      omega
    · show (PyData.shownAll (toPys ds)).length + 1 = ds.length + 1
      rw [b5]
theorem Sh.ok' {n h : Nat} {d : D} (s : Sh n h d) : ShOk n h d := by
  induction s with
  | non => exact ⟨rfl, rfl, Nat.le_refl _, by decide +kernel⟩
  | bl b => exact ⟨rfl, rfl, Nat.zero_le _, by cases b <;> decide +kernel⟩
  | @int i h =>
    refine ⟨rfl, ?_, Nat.zero_le _, PyData.shown_int_le h⟩
    show decide _ = true
    refine decide_eq_true ?_
    by_cases h0 : i.natAbs = 0
    · rw [h0]; decide
    · exact Nat.lt_of_lt_of_le ((Nat.log2_lt h0).mpr (Nat.lt_of_lt_of_le h (by decide : 10 ^ 12 ≤ 2 ^ 40))) (by decide)
  | intB h hn => exact ⟨rfl, decide_eq_true h, Nat.zero_le _, hn⟩
  | str h => exact ⟨rfl, rfl, Nat.zero_le _, h⟩
  | @tup n h m ds hd hl ih =>
    obtain ⟨b1, b2, b3, b4, b5⟩ := shAll ih
    refine ⟨b1, b2, Nat.succ_le_succ b3, ?_⟩
    show (tupleText (PyData.shownAll (toPys ds))).length ≤ _
    refine Nat.le_trans (tupleText_len_le _) ?_
    rw [b5, Nat.mul_add]
    have := Nat.mul_le_mul_right n hl
    omega
  | @lst n h m ds hd hl ih =>
    obtain ⟨b1, b2, b3, b4, b5⟩ := shAll ih
    refine ⟨b1, b2, Nat.succ_le_succ b3, ?_⟩
    show (listText (PyData.shownAll (toPys ds))).length ≤ _
    refine Nat.le_trans (listText_len_le _) ?_
    rw [b5, Nat.mul_add]
    have := Nat.mul_le_mul_right n hl
    omega
  | up s hn hh ih => exact ⟨ih.pu, ih.showable, Nat.le_trans ih.depth hh, Nat.le_trans ih.len hn⟩
theorem Sh.vw {n h : Nat} {d : D} (s : Sh n h d) (M : Sto) : DL.vw d M = d := by
  have := s.ok'.pu
  cases d <;> first | rfl | (cases this)
theorem Sh.ok {n h : Nat} {d : D} (s : Sh n h d) (hn : n ≤ 16000000) (hh : h ≤ 60) (M : Sto) : showOk d M := by
  unfold showOk
  rw [s.vw M]
  exact ⟨s.ok'.pu, s.ok'.showable, Nat.le_trans s.ok'.depth hh, Nat.le_trans s.ok'.len (Nat.le_trans hn (by decide))⟩
/-! ### places at the store's end -/
theorem get_new (M : Sto) (c : Cell) : (M ++ [c])[M.length]? = some c := by rw [List.getElem?_append_right (Nat.le_refl _)]; simp
theorem get_new1 (M : Sto) (a b : Cell) : (M ++ [a] ++ [b])[M.length]? = some a := by rw [List.getElem?_append_left (by simp), get_new]
theorem set_new (M : Sto) (c d : Cell) : (M ++ [c]).set M.length d = M ++ [d] := by rw [List.set_append_right _ _ (Nat.le_refl _)]; simp
theorem set_new1 (M : Sto) (a b d : Cell) : (M ++ [a] ++ [b]).set M.length d = M ++ [d] ++ [b] := by rw [List.set_append_left _ _ (by simp), set_new]
theorem atI_in {α : Type} {xs : List α} {i : Int} (h0 : 0 ≤ i) (h1 : i < xs.length) : ∃ x, x ∈ xs ∧ atI xs i = some x := by
  have hl : i.toNat < xs.length := by omega
  exact ⟨xs[i.toNat], List.getElem_mem hl, atI_of (j := i.toNat) (by omega) (List.getElem?_eq_getElem hl)⟩
theorem atI_back {α : Type} (xs : List α) (x : α) : atI (xs ++ [x]) (-1) = some x := atI_last xs x
theorem atI_back2 {α : Type} (xs : List α) (x y : α) : atI (xs ++ [x] ++ [y]) (-2) = some x := by
  unfold atI ixN
  rw [if_neg (by omega), if_pos (by simp; omega)]
  have e : (-2 + ((xs ++ [x] ++ [y]).length : Int)).toNat = xs.length := by simp; omega
  show (xs ++ [x] ++ [y])[(-2 + ((xs ++ [x] ++ [y]).length : Int)).toNat]? = some x
  rw [e, List.getElem?_append_left (by simp), List.getElem?_append_right (Nat.le_refl _)]
  simp
theorem fm_range {α : Type} (xs : List α) : ∀ m : Nat, (List.range m).filterMap (xs[·]?) = xs.take m
  | 0 => by simp
  | m + 1 => by
    rw [List.range_succ, List.filterMap_append, fm_range xs m, List.take_add_one]
    congr 1
/-- [-2::-1] of a list that isn't empty: all but the last, backwards -/
theorem pick_back2 {α : Type} (xs : List α) (h : xs ≠ []) : pick xs (some (-2)) none (some (-1)) = xs.dropLast.reverse := by
  have hn : 0 < xs.length := List.length_pos_iff.mpr h
  unfold pick
  have hb : sliceBounds (some (-2)) none (some (-1)) xs.length = ((xs.length : Int) - 2, -1, -1) := by
    unfold sliceBounds
    simp only [Option.getD_some]
    rw [if_neg (by decide), if_pos (by decide), if_neg (by decide)]
    refine Prod.ext ?_ rfl
    show max (-1) (min (-2 + (xs.length : Int)) ((xs.length : Int) - 1)) = (xs.length : Int) - 2
    omega
  rw [hb]
  have hr : sliceRange ((xs.length : Int) - 2) (-1) (-1) = (List.range (xs.length - 1)).map fun k => xs.length - 1 - 1 - k := by
    have := PySem.W.krv_sliceRange (xs.length - 1)
    rw [← this]
    congr 1
    omega
  show (sliceRange ((xs.length : Int) - 2) (-1) (-1)).filterMap (xs[·]?) = _
  rw [hr, PySem.W.krv_range, List.filterMap_reverse]
  rw [List.dropLast_eq_take, fm_range]
theorem len_snoc (M : Sto) (c : Cell) : (M ++ [c]).length = M.length + 1 := by simp
theorem get_newS (M : Sto) (a b : Cell) : (M ++ [a] ++ [b])[M.length + 1]? = some b := by rw [← len_snoc M a, get_new]
theorem set_newS (M : Sto) (a b d : Cell) : (M ++ [a] ++ [b]).set (M.length + 1) d = M ++ [a] ++ [d] := by rw [← len_snoc M a, set_new]
theorem pop_last {α : Type} (xs : List α) (x : α) : (xs ++ [x])[(xs ++ [x]).length - 1]? = some x := by simp
theorem See.drop2 {Q : DK} {d : D} {M : Sto} {a b : Cell} (hd : bel M.length d = true) (hb : stoBel M.length M) (h : Q d M) : See M.length Q d (M ++ [a] ++ [b]) := by
  rw [List.append_assoc]
  exact See.drop hd hb h
theorem bels_of {n : Nat} : ∀ {ds : List D}, (∀ d ∈ ds, bel n d = true) → bels n ds = true
  | [], _ => rfl
  | d :: ds, h => by
    show (bel n d && bels n ds) = true
    rw [h d List.mem_cons_self, bels_of fun x hx => h x (List.mem_cons_of_mem _ hx)]
    rfl
theorem two_back {α : Type} {xs : List α} (h : 1 < xs.length) : ∃ r x y, xs = r ++ [x] ++ [y] := by
  have h0 : xs ≠ [] := by intro e; rw [e] at h; simp at h
  have h1 : xs.dropLast ≠ [] := by
    intro e
    have := congrArg List.length e
    rw [List.length_dropLast] at this
    simp at this
    omega
  exact ⟨xs.dropLast.dropLast, xs.dropLast.getLast h1, xs.getLast h0, by rw [List.dropLast_concat_getLast, List.dropLast_concat_getLast]⟩
theorem rng_two : rng 0 2 = [.int 0, .int 1] := rfl
/-- a def that may never be called -/
theorem Cl.never {P : Program} {w : World} {K : PySem.W.Frag} {mg : Str → Option Value} {base : Heap} {x : Str} {st : Stmt} {ps : List Str} {ds : DSp} (F : Df K mg x st) (hb : ∀ {f : Addr} {fd : FuncData}, Fun K x x st f fd → Binds K fd ps []) (h : ∀ args M Q E, ¬ ds args M Q E) (k : Nat) : Cl P w K mg base x k ps ds := by
  obtain ⟨f, fd, F, hm⟩ := F.ex
  exact ⟨⟨f, fd, ⟨fun vs H Q E ⟨_, _, _, _, _, _, _, q⟩ => (h _ _ _ _ q).elim, fun A outer s H args us vs Q E _ _ _ _ _ ⟨_, _, _, _, _, _, _, q⟩ => (h _ _ _ _ q).elim⟩, hm, F.kp, hb F⟩, fun args M Q Q' E E' _ _ q => (h _ _ _ _ q).elim⟩
/-- the script, ahead of the law's own call -/
theorem scr_start {K : PySem.W.Frag} {H : Hp} {a : Addr} {ns : List Int} {ds : DSp} {E : XK} (hS : SqL K H a (ns.map V.int)) (h : ∀ Q : DK, (∀ M, Q (.bl true) M) → ∀ E', ds [.scr ns] [] Q E') : spOf K ds [.ref a] H (fun v _ => v = .bl true) E := by
  refine ⟨[.scr ns], [], [], H, fun _ => none, ⟨Sm.refl H, (fun _ _ e => by cases e), (fun _ _ e => by cases e), rfl, List.nodup_nil, (fun _ h => (List.not_mem_nil h).elim), (fun n c a e _ => by simp at e)⟩, .cons (.scr hS) .nil, h _ (fun M al' F' H' v _ _ r => by cases r; rfl) _⟩
theorem lc_rng {st : Sto → Prop} {step : D → Sto → (Option D → Sto → Prop) → Prop} (f : Nat → D) {n : Nat} {M : Sto} {Q : List D → Sto → Prop} (hst : st M) (hn : n ≤ 100000) (hs : ∀ j : Nat, j < n → ∀ k : Option D → Sto → Prop, k (some (f j)) M → step (.int (j : Int)) M k) (q : Q ((List.range n).map f) M) : lcI st step (rng 0 n) M Q := by
  refine lc_map (fun d => match d with | .int z => f z.toNat | d => d) hst (by rw [rng_length]; exact hn) (fun d hd kk hk => ?_) ?_
  · obtain ⟨j, hj, rfl⟩ := rng_mem hd
    have e : (0 + (j : Int)).toNat = j := by omega
    rw [Int.zero_add]
    have hk' : kk (some (f (0 + (j : Int)).toNat)) M := hk
    rw [e] at hk'
    exact hs j hj kk hk'
  · have e : (rng 0 n).map (fun d => match d with | .int z => f z.toNat | d => d) = (List.range n).map f := by
      unfold rng
      rw [List.map_map]
      apply List.map_congr_left
      intro j _
      show f (0 + (j : Int)).toNat = f j
      rw [show (0 + (j : Int)).toNat = j by omega]
    rw [e]
    exact q
end DL

/-! DLB: enumerate of a tuple or a list, from a count. -/
namespace DL
open PySem PySem.Spec PyProof.Rows L2

/-- the tuple at a, each item in a new pair with its count -/
def IteT (K : PySem.W.Frag) (a : Addr) (k : Int) : It :=
  ⟨fun i H => ∃ (xs : List V) (x : V), SqT K H a xs ∧ xs[i]? = some x,
    fun i H v H' => ∃ T x, v = .ref T ∧ H T = none ∧ H' = upd H T (.tup [.int (k + (i : Int)), x]) ∧ ∀ xs, SqT K H a xs → xs[i]? = some x,
    fun i H => ∃ xs : List V, SqT K H a xs ∧ xs.length ≤ i⟩

theorem turn_enumT {P : Program} {w : World} {K : PySem.W.Frag} {elts : List Expr} {kk : Nat} {tpos : Pos} (a e it : Addr) (k : Int) :
    Turn P w K (.Tuple elts kk tpos) (IteT K a k) [e, it] e (fun i h => (∃ old, IsEnum h e it (k + (i : Int)) old) ∧ h.IsTupleIter it a i ∧ e ≠ it ∧ a ≠ it ∧ a ≠ e) where
  mem := by simp
  obj := fun i h ⟨⟨old, he⟩, ⟨o, ho, hc, hd⟩, _⟩ b hb => by
    rcases List.mem_cons.mp hb with z | z
    · exact z ▸ ⟨_, he, fun v q => nomatch q⟩
    · rw [List.mem_singleton.mp z]; exact ⟨o, ho, fun v q => by rw [hd] at q; cases q⟩
  keep := fun i h h' ⟨⟨old, he⟩, hi, hne⟩ kp => ⟨⟨old, kp e (by simp) _ he⟩, hi.at fun o q => kp it (by simp) o q, hne⟩
  item := by
    intro X hP hw hK hc i pins s σ H E I hf ⟨⟨old, he⟩, hit, hne, hai, hae⟩ ⟨xs, x, hq, hx⟩
    subst hP hw hK
    obtain ⟨its, rv, p, hz⟩ := I.tuple hq
    obtain ⟨u, hu, ru⟩ := rv.get hx
    have p' : s.heap.IsTuple a its.toArray := p
    have hel : e < s.heap.objs.size := Heap.lt_size he
    have hil : it < s.heap.objs.size := by
      obtain ⟨_, q, _⟩ := hit
      exact Heap.lt_size q
    have hlt : i < its.toArray.size := by
      obtain ⟨h1, _⟩ := List.getElem?_eq_some_iff.mp hu
      simpa using h1
    refine wpAny_pyNext_enum_itemC (Draws.tuple (A := X.A.in1) (I.ok.hd hc) it a hai its.toArray) he ⟨hit, p'⟩ hlt hne (by simp [hne, Ne.symm hae]) fun y h' tk hy ho ⟨hit', _⟩ hT hsz hk => ?_
    have hyu : y = u := by
      have h1 : its.toArray[i]? = some u := by simpa using hu
      rw [h1] at hy
      exact (Option.some.inj hy).symm
    subst hyu
    refine ⟨_, rfl, wpAny_letOwnedTupleGo_enum (s := { s with heap := h', toks := tk + 1 }) ho fun h'' he' sb => ?_⟩
    have hT2 : h''.get? s.heap.objs.size = some { cls := .type "tuple", data := .seq #[.int (k + (i : Int)) tk, y] } := (sb.2 _ (Nat.ne_of_gt hel)).trans hT
    have I1 : Inv X pins σ (upd H s.heap.objs.size (.tup [.int (k + (i : Int)), x])) { s with heap := h'', toks := tk + 1 } :=
      I.turnedNew (ch := [e, it]) (fun b ob hb q => by
        have hb1 : b ≠ e := fun z => hb (by simp [z])
        have hb2 : b ≠ it := fun z => hb (by simp [z])
        exact (sb.2 b hb1).trans (hk b ob hb1 hb2 q)) hf (Nat.le_refl _) ⟨by show 2 ≤ sizeLine; decide, [.int (k + (i : Int)) tk, y], .cons ⟨_, rfl⟩ (.cons ru .nil), ⟨_, hT2, rfl, _, rfl⟩⟩
    refine ⟨.ref s.heap.objs.size, _, I1, rfl, ⟨_, x, rfl, I.hok.fresh (Nat.le_refl _), rfl, fun ys hy => by rw [I.tuple_inj hy hq]; exact hx⟩, ⟨⟨y, ?_⟩, hit'.at fun o q => (sb.2 it (Ne.symm hne)).trans q, hne, hai, hae⟩, fun b hb => ?_⟩
    · rw [show k + ((i + 1 : Nat) : Int) = k + (i : Int) + 1 by omega]
      exact he'
    · have hb' : b < s.heap.objs.size := by
        rcases List.mem_cons.mp hb with z | z
        · exact z ▸ hel
        · rw [List.mem_singleton.mp z]; exact hil
      rw [upd_ne (Nat.ne_of_lt hb')]
      exact (hf b hb).1
  done := by
    intro X hP hw hK hc i pins s σ H E I hf ⟨⟨old, he⟩, hit, hne, hai, hae⟩ ⟨xs, hq, hx⟩
    subst hP hw hK
    obtain ⟨its, rv, p, hz⟩ := I.tuple hq
    obtain ⟨f0, f1, f2, f3, f4, f5⟩ := hf it (by simp)
    have hl := rv.length
    have hT : s.TypeIs (.ref e) "enumerate" := ⟨_, he, rfl⟩
    unfold pyNext
    refine wpAny_bind (wpAny_attempt (wpAny_callSpecial?_slot (name := Str.ofString "__next__") hT F.slot_enumerate_next (wpAny_call_entry F.slot_enumerate_next hT F.entry_enumerate_next ?_ (F.args_enumerate_next_1 _))))
    show wpAny _ _ (field (.ref e) 2 >>= _) _ _ _
    refine wpAny_bind (wpAny_field he rfl (x := .ref it) rfl (wpAny_bind (wpAny_nextOf_tuple_end (I.ok.hd hc) hit (show s.heap.IsTuple a its.toArray from p) (by simp; omega) fun h' x he' hx' => ?_)))
    obtain ⟨o, ho, hcc⟩ := hx'
    refine wpAny_bind (wpAny_isInstance (T := "StopIteration") (b := true) ⟨o, ho, hcc⟩ isSubtype_stop (wpAny_pure ⟨rfl, ?_⟩))
    exact I.turned (t' := s.toks) (fun b o hb q => he' b o hb q) f0 f1 f3 f4 f5
  self := fun A i s Q E ⟨⟨_, he⟩, _⟩ h => wpAny_pyIter_enum he h

set_option maxHeartbeats 1000000 in
theorem meets_enum1 {v : Value} {o : Obj} {H : Heap → Prop} (B : Begins v o H) :
    Meets (Builtin.«enumerate.__new__» ⟨[.type "enumerate", v], []⟩) (fun _ R s => H s.heap ∧
      R (.ok (.ret (.ref (s.heap.push o).objs.size))) { s with heap := (s.heap.push o).push { cls := .type "enumerate", data := .fields #[.none, .bool false, .ref s.heap.objs.size, rawInt 0, .none, .none] } }) :=
  .of_wp fun prog w A R s h => by
    obtain ⟨hp, g, d, tk, os⟩ := s
    obtain ⟨h1, h⟩ := h
    have hsub := sub_enumerate
    have q1 : ∀ {A' : Around} {E : Value → Shared → Prop} {Q : Value → Shared → Prop}, Q (.ref hp.objs.size) ⟨hp.push o, g, d, tk, os⟩ → wpAny (model prog w) A' (pyIter v) Q E ⟨hp, g, d, tk, os⟩ := fun q => B.iter prog w _ _ ⟨hp, g, d, tk, os⟩ _ h1 q
    wp_walk using q1
    refine wpAny_stack_any fun st => wpAny_pure ?_
    split
    · rename_i c _ _ _ _ _
      cases (c == Value.type "enumerate") <;> (wp_walk using q1; exact ⟨_, rfl, h⟩)
    · wp_walk using q1
      exact ⟨_, rfl, h⟩
theorem enum1_begins {prog : Program} {w : World} {A : Around} {E : Value → Shared → Prop} {s : Shared} {v : Value} {o : Obj} {H : Heap → Prop} {Q : Value → Shared → Prop} (B : Begins v o H) (h1 : H s.heap)
    (h : ∀ h', IsEnum h' (s.heap.objs.size + 1) s.heap.objs.size 0 .none → h'.get? s.heap.objs.size = some o → (∀ b o, s.heap.get? b = some o → h'.get? b = some o) → Q (.ref (s.heap.objs.size + 1)) { s with heap := h' }) :
    wpAny (model prog w) A (call (.type "enumerate") [v]) Q E s := by
  refine callType_new F.called_enumerate (by decide) (F.typeCall_enumerate_1 _) (F.newCall_enumerate_1 _) (fun obj => F.args_object_init_2 obj _) F.entry_enumerate_new (meets_enum1 B) ⟨h1, ?_⟩
  have hz : (s.heap.push o).objs.size = s.heap.objs.size + 1 := Heap.size_push ..
  show _ ∧ _
  rw [hz]
  have he := Heap.get?_push_size (s.heap.push o) (o := { cls := .type "enumerate", data := .fields #[.none, .bool false, .ref s.heap.objs.size, rawInt 0, .none, .none] }) rfl
  rw [hz] at he
  exact ⟨⟨_, he, rfl⟩, h _ he (Heap.get?_push_of_some _ (Heap.get?_push_size _ B.free)) fun b o x => Heap.get?_push_of_some _ (Heap.get?_push_of_some _ x)⟩

def enumD (k : Int) (xs : List D) : List D := xs.mapIdx fun i x => D.tup [.int (k + (i : Int)), x]
theorem enumD_length {k : Int} {xs : List D} : (enumD k xs).length = xs.length := by unfold enumD; simp
theorem enumD_get {k : Int} {xs : List D} {i : Nat} {d : D} (h : (enumD k xs)[i]? = some d) : ∃ x, xs[i]? = some x ∧ d = .tup [.int (k + (i : Int)), x] := by
  unfold enumD at h
  rw [List.getElem?_mapIdx] at h
  cases e : xs[i]? with
  | none => rw [e] at h; cases h
  | some x => rw [e] at h; cases h; exact ⟨x, rfl, rfl⟩
section
variable {X : Cx} {a b : Expr} {fr : DTA} {pos : Pos}
theorem iteT_ok {K : PySem.W.Frag} {al : List Addr} {F G : Hp} {p : Addr} {ds : List D} {xs : List V} {st : Sto → Prop} {k : Int} (h : F p = some (.tup xs)) (rs : Rps K F al xs ds) : ItOk K (IteT K p k) (enumD k ds) st al F G := by
  intro al' F' G' H' M' e sg W hst i
  have hx := W.sm _ _ (e.sm _ _ h)
  have rs := rs.ext e
  refine ⟨fun d hd => ?_, fun hl => ⟨xs, SqT.of hx, by rw [rs.length]; rw [enumD_length] at hl; exact hl⟩⟩
  obtain ⟨x, hx1, rfl⟩ := enumD_get hd
  obtain ⟨v, h1, h2⟩ := rs.get hx1
  refine ⟨⟨xs, v, SqT.of hx, h1⟩, fun z H'' hy => ?_⟩
  obtain ⟨T, u, rfl, nT, rfl, f⟩ := hy
  have q2 := it_of rs hx1 (f _ (SqT.of hx))
  obtain ⟨W1, e1⟩ := W.newF (o := .tup [.int (k + (i : Int)), u]) nT
  exact ⟨_, e1.sm, W1, .tup upd_same (.cons (.int _) (.cons (q2.ext e1) .nil))⟩
theorem ite_ok {K : PySem.W.Frag} {al : List Addr} {F G : Hp} {p : Addr} {ds : List D} {st : Sto → Prop} (h : ∀ al' F' G' H' M', Ext al F al' F' → Sm G G' → Wd K al' F' G' H' M' → st M' → ∃ xs, H' p = some (.lst xs) ∧ Rps K F' al' xs ds) : ItOk K (Ite K p) (enumD 0 ds) st al F G := by
  intro al' F' G' H' M' e sg W hst i
  obtain ⟨xs, hx, rs⟩ := h al' F' G' H' M' e sg W hst
  refine ⟨fun d hd => ?_, fun hl => ⟨xs, SqL.of hx, by rw [rs.length]; rw [enumD_length] at hl; exact hl⟩⟩
  obtain ⟨x, hx1, rfl⟩ := enumD_get hd
  obtain ⟨v, h1, h2⟩ := rs.get hx1
  refine ⟨⟨xs, v, SqL.of hx, h1⟩, fun z H'' hy => ?_⟩
  obtain ⟨T, u, rfl, nT, rfl, f⟩ := hy
  have q2 := it_of rs hx1 (f _ (SqL.of hx))
  obtain ⟨W1, e1⟩ := W.newF (o := .tup [.int ((i : Nat) : Int), u]) nT
  refine ⟨_, e1.sm, W1, .tup upd_same (.cons ?_ (.cons (q2.ext e1) .nil))⟩
  rw [Int.zero_add]
  exact .int _
@[reducible] def diEnum (fr : DTA) : DTI := fun ρ M R => fr ρ M fun ds M1 => match ds with
  | [.tup xs] => R (enumD 0 xs) stYes M1
  | [.lst xs] => R (enumD 0 xs) stYes M1
  | _ => False
theorem di_enum {p tpos : Pos} {elts : List Expr} {kk : Nat} (hg : Gl X "enumerate") (hm : X.mg "enumerate" = none) (h : DA X [a] fr) (hs : starEach [a] X.env = [(false, eval a X.env)] := by rfl) :
    DI X (.Tuple elts kk tpos) (.Call (.Name "enumerate" p) [a] [] pos) (diEnum fr) := by
  refine ⟨⟨fun pins s σ H R I q => ?_⟩, fun ρ M Q Q' w q => h.mono _ _ _ _ (fun ds M1 q1 => ?_) q⟩
  · obtain ⟨ρ, M, al, F, G, W, es, q⟩ := q
    have hl : LiftA X fr σ H (fun vs H1 => ∃ p, vs = [.ref p] ∧ ((∃ xs, SqL X.K H1 p xs ∧ R (Ite X.K p) H1) ∨ (∃ xs, SqT X.K H1 p xs ∧ R (IteT X.K p 0) H1))) := h.seq W es q fun ds M1 al1 F1 H1 vs q1 e1 W1 r1 s1 => by
      split at q1
      · cases r1 with
        | cons a1 b1 =>
          cases b1
          cases a1 with
          | tup c1 d1 => exact ⟨_, rfl, .inr ⟨_, SqT.of (W1.sm _ _ c1), q1 al1 F1 H1 _ e1 W1 (iteT_ok c1 d1)⟩⟩
      · cases r1 with
        | cons a1 b1 =>
          cases b1
          cases a1 with
          | lst c1 d1 => exact ⟨_, rfl, .inl ⟨_, SqL.of (W1.sm _ _ c1), q1 al1 F1 H1 _ e1 W1 (ite_ok fun al' F' G' H' M' e sg W' _ => ⟨_, W'.sm _ _ (e.sm _ _ c1), d1.ext e⟩)⟩⟩
      · exact q1.elim
    refine Call_ (ld_blt I hg hm boot_enumerate (PyProof.Rows.callWith_type1 (thn (h.pa.run pos pins s σ H _ I hl) fun us s1 ⟨vs, H1, I1, r1, q1⟩ => ?_) hs rfl))
    obtain ⟨a, rfl, q1⟩ := q1
    cases r1 with
    | cons r rr =>
      cases rr
      cases r
      have go : ∀ b ∈ [s1.heap.objs.size + 1, s1.heap.objs.size], s1.heap.objs.size ≤ b := fun b hb => by
        have e' : b = s1.heap.objs.size + 1 ∨ b = s1.heap.objs.size := by simpa using hb
        omega
      rcases q1 with ⟨xs, hq, q⟩ | ⟨xs, hq, q⟩
      · obtain ⟨its, rv, p', hz⟩ := I1.list hq
        refine call_enumerate_list p'.isList fun h' he hit hsz hk => wpAny_pyIter_enum he ?_
        exact ⟨_, [s1.heap.objs.size + 1, s1.heap.objs.size], _, _, H1, rfl, I1.kept (t' := s1.toks) hk, turn_enum a _ s1.heap.objs.size, ⟨⟨.none, he⟩, hit, Nat.succ_ne_self _⟩, fun b hb => I1.fpOk (go b hb) (I1.hok.fresh (go b hb)), q⟩
      · obtain ⟨its, rv, p', hz⟩ := I1.tuple hq
        have p2 : s1.heap.IsTuple a its.toArray := p'
        have hal : a < s1.heap.objs.size := by
          obtain ⟨o, ho, _⟩ := p2
          exact Heap.lt_size ho
        refine enum1_begins (begins_tuple a its.toArray) p2 fun h' he hit hk => wpAny_pyIter_enum he ?_
        exact ⟨_, [s1.heap.objs.size + 1, s1.heap.objs.size], _, _, H1, rfl, I1.kept (t' := s1.toks) hk, turn_enumT a _ s1.heap.objs.size 0, ⟨⟨.none, he⟩, ⟨_, hit, rfl, rfl⟩, Nat.succ_ne_self _, Nat.ne_of_lt hal, Nat.ne_of_lt (Nat.lt_succ_of_lt hal)⟩, fun b hb => I1.fpOk (go b hb) (I1.hok.fresh (go b hb)), q⟩
  · try dsimp only at q1 ⊢
    split at q1
    · exact w _ _ _ q1
    · exact w _ _ _ q1
    · exact q1.elim
@[reducible] def diEnum2 (fr : DTA) : DTI := fun ρ M R => fr ρ M fun ds M1 => match ds with
  | [.tup xs, .int k] => (-(2 ^ 62) ≤ k ∧ k < 2 ^ 62) ∧ R (enumD k xs) stYes M1
  | _ => False
theorem di_enum2 {p tpos : Pos} {elts : List Expr} {kk : Nat} (hg : Gl X "enumerate") (hm : X.mg "enumerate" = none) (h : DA X [a, b] fr) (hs : starEach [a, b] X.env = [(false, eval a X.env), (false, eval b X.env)] := by rfl) (hs2 : starEach [b] X.env = [(false, eval b X.env)] := by rfl) :
    DI X (.Tuple elts kk tpos) (.Call (.Name "enumerate" p) [a, b] [] pos) (diEnum2 fr) := by
  refine ⟨⟨fun pins s σ H R I q => ?_⟩, fun ρ M Q Q' w q => h.mono _ _ _ _ (fun ds M1 q1 => ?_) q⟩
  · obtain ⟨ρ, M, al, F, G, W, es, q⟩ := q
    have hl : LiftA X fr σ H (fun vs H1 => ∃ p k xs, vs = [.ref p, .int k] ∧ (-(2 ^ 62) ≤ k ∧ k < 2 ^ 62) ∧ SqT X.K H1 p xs ∧ R (IteT X.K p k) H1) := h.seq W es q fun ds M1 al1 F1 H1 vs q1 e1 W1 r1 s1 => by
      split at q1
      · cases r1 with
        | cons a1 b1 =>
          cases b1 with
          | cons a2 b2 =>
            cases b2
            cases a2
            cases a1 with
            | tup c1 d1 => exact ⟨_, _, _, rfl, q1.1, SqT.of (W1.sm _ _ c1), q1.2 al1 F1 H1 _ e1 W1 (iteT_ok c1 d1)⟩
      · exact q1.elim
    refine Call_ (ld_blt I hg hm boot_enumerate (PyProof.Rows.callWith_type1 (thn (h.pa.run pos pins s σ H _ I hl) fun us s1 ⟨vs, H1, I1, r1, q1⟩ => ?_) (by rw [hs, hs2]) (by rw [hs2]; rfl)))
    obtain ⟨a, k, xs, rfl, hk1, hq, q⟩ := q1
    cases r1 with
    | cons r rr =>
      cases rr with
      | cons r' rr =>
        cases rr
        cases r
        obtain ⟨t, rfl⟩ := r'
        have go : ∀ b ∈ [s1.heap.objs.size + 1, s1.heap.objs.size], s1.heap.objs.size ≤ b := fun b hb => by
          have e' : b = s1.heap.objs.size + 1 ∨ b = s1.heap.objs.size := by simpa using hb
          omega
        obtain ⟨its, rv, p', hz⟩ := I1.tuple hq
        have p2 : s1.heap.IsTuple a its.toArray := p'
        have hal : a < s1.heap.objs.size := by
          obtain ⟨o, ho, _⟩ := p2
          exact Heap.lt_size ho
        refine enum_begins (begins_tuple a its.toArray) p2 (by omega) (by omega) fun h' he hit hsz hk => wpAny_pyIter_enum he ?_
        refine ⟨_, [s1.heap.objs.size + 1, s1.heap.objs.size], _, _, H1, rfl, I1.kept (t' := s1.toks) hk, turn_enumT a _ s1.heap.objs.size k, ⟨⟨.none, ?_⟩, ⟨_, hit, rfl, rfl⟩, Nat.succ_ne_self _, Nat.ne_of_lt hal, Nat.ne_of_lt (Nat.lt_succ_of_lt hal)⟩, fun b hb => I1.fpOk (go b hb) (I1.hok.fresh (go b hb)), q⟩
        rw [show k + ((0 : Nat) : Int) = k by omega]
        exact he
  · try dsimp only at q1 ⊢
    split at q1
    · exact ⟨q1.1, w _ _ _ q1.2⟩
    · exact q1.elim
end
end DL

set_option maxHeartbeats 1000000
/-! DLC: tuple * 1; extend. -/
namespace DL
open PySem PySem.Spec PyProof.Rows L2
open PySem.AutoSeq1 (wpAny_loadPart')
theorem tuple_once (l : Addr) (items : Array Value) (n : Nat) (dd : Option Addr) (sl : Array (Option Value)) (u : Tok) :
    Meets (Builtin.«tuple.__mul__» ⟨[.ref l, .int 1 u], []⟩) (fun _ R s => s.heap.get? l = some { cls := .type "tuple", dict := dd, data := .seq items n, slots := sl } ∧ R (.ok (.ret (Value.ref l))) s) :=
  .of_wp fun prog w A R s ⟨hl, h⟩ => by
    obtain ⟨hp, g, d, tk, os⟩ := s
    have f1 := AutoSeq1.idx_int
    have c1 : (items.isEmpty || (1 : Int) == 1) = true := by simp
    wp_walk using wpAny_loadPart' hl
    exact ⟨_, rfl, h⟩
def rOnce (K : PySem.W.Frag) : R2 := fun x y H Q => ∃ l xs, x = .ref l ∧ y = .int 1 ∧ SqT K H l xs ∧ Q (.ref l) H
section
variable {X : Cx} {a b c : Expr} {fa fb fc : DTE} {pos : Pos} {ta tb : DTT} {es : List Expr} {fr : DTA}
theorem op_once : OpR X (binaryOp .Mult) (rOnce X.K) := by
  intro pins s σ H x y v u Q I rx ry ⟨l, xs, ex, ey, hT, q⟩
  subst ex ey
  cases rx
  obtain ⟨t, rfl⟩ := ry
  obtain ⟨its, r, ⟨⟨cls, dd, data, sl⟩, ho, hc, n, hd⟩, hs⟩ := I.tuple hT
  simp only at hc hd
  subst hc hd
  refine wpAny_binaryOp_repeat_ref (T := "tuple") (U := "int") (by decide) ⟨_, ho, rfl⟩ (fun s' => typeIs_int s' 1 t) noFill_tuple_mul F.fills_int_mul F.slot_int_rmul repeat_tuple F.slot_int_index.lookup (call_meets F.slot_int_rmul (typeIs_int s 1 t) F.entry_int_rmul (F.args_int_rmul_2 _ _) (int_rmul_tuple 1 t l its.toArray n dd sl) ⟨ho, rfl, ⟨_, ho, rfl⟩, ?_⟩)
  exact call_meets F.slot_tuple_mul ⟨_, ho, rfl⟩ F.entry_tuple_mul (F.args_tuple_mul_2 _ _) (tuple_once l its.toArray n dd sl t) ⟨ho, ⟨.ref l, H, I, rfl, q⟩⟩
/-- * : a tuple once, too -/
@[reducible] def gMulA : G2 := fun x y M Q => match x, y with
  | .int i, .int j => CMul i j ∧ Q (.int (i * j)) M
  | .tup ds, .int k => ds ≠ [] ∧ 1 ≤ k ∧ k ≤ 1000 ∧ ds.length ≤ 1000 ∧ Q (.tup (List.replicate k.toNat ds).flatten) M
  | x, .int k => match seqOf x M with
    | some ds => 0 ≤ k ∧ k < 100000 ∧ ds.length * k.toNat ≤ 100000 ∧ Q (.lst (List.replicate k.toNat ds).flatten) M
    | none => False
  | _, _ => False
theorem gMulA_mono : Mono2 gMulA := fun x y M Q Q' w q => by
  unfold gMulA at q ⊢
  split at q
  · exact ⟨q.1, w _ _ q.2⟩
  · exact ⟨q.1, q.2.1, q.2.2.1, q.2.2.2.1, w _ _ q.2.2.2.2⟩
  · split at q
    · exact ⟨q.1, q.2.1, q.2.2.1, w _ _ q.2.2.2⟩
    · exact q.elim
  · exact q.elim
theorem o_mulA : O2 X (binaryOp .Mult) gMulA := O2.of (OpR.or op_once (OpR.or op_mul (OpR.or op_repT op_rep))) gMulA_mono fun al F G H M x y dx dy Q W r1 r2 q => by
  unfold gMulA at q
  split at q
  · cases r1; cases r2
    exact .inr (.inl ⟨_, _, rfl, rfl, q.1, kont.here q.2 W (.int _)⟩)
  · cases r2
    cases r1 with
    | tup a1 b1 =>
      have l1 := b1.length
      rename_i ds1 k xs1 p1
      by_cases hk : k = 1
      · subst hk
        refine .inl ⟨_, _, rfl, rfl, SqT.of (W.sm _ _ a1), kont.here q.2.2.2.2 W ?_⟩
        have e : (List.replicate (1 : Int).toNat ds1).flatten = ds1 := by simp
        rw [e]
        exact .tup a1 b1
      · refine .inr (.inr (.inl ⟨_, _, _, rfl, rfl, SqT.of (W.sm _ _ a1), fun z => ?_, by omega, q.2.2.1, by have := q.2.2.2.1; omega, fun p hp => kont.tup q.2.2.2.2 W (b1.rep _) hp⟩))
        subst z
        cases b1
        exact q.1 rfl
  · cases r2
    split at q
    · next e =>
      obtain ⟨p1, xs1, rfl, h1, s1⟩ := seqOf_ok W r1 e
      have l1 := s1.length
      exact .inr (.inr (.inr ⟨_, _, _, rfl, rfl, h1, by have := q.1; omega, by have := q.2.1; omega, le_line (by rw [l1]; exact q.2.2.1), fun p hp => kont.lst q.2.2.2 W (s1.rep _) hp⟩))
    · exact q.elim
  · exact q.elim

/-- o.extend(e) of a list of the store, by a list that nobody changes -/
@[reducible] def dExt (fo : DTE) (fr : DTA) : DTE := fun ρ M Q => fo ρ M fun o M1 => match o with
  | .ref n => isCell M1 n ∧ fr ρ M1 fun ys M2 => match M2[n]?, ys with
    | some (.lst ds), [.lst zs] => ds.length + zs.length ≤ 100000 ∧ Q .non (M2.set n (.lst (ds ++ zs)))
    | _, _ => False
  | _ => False
theorem d_extend {o e : Expr} {fo : DTE} {apos cpos : Pos} (ho : DE X o fo) (hr : DA X [e] fr) (hb : attributeBase o "extend" X.env (eval o X.env) = eval o X.env := by rfl)
    (h2 : ((backTo cpos (starEach [e] X.env)).all (fun x => !x.1) && (backToKw cpos (keywordEach [] X.env)).all (fun x => x.1.isSome) && decide ([e].length + ([] : List Keyword).length + (if ([] : List Keyword).isEmpty = true then 0 else 1) < 30)) = true := by rfl)
    (h3 : (apos.endLine == cpos.line) = true := by rfl) (h4 : starEach [e] X.env = (false, eval e X.env) :: starEach [] X.env := by rfl) (h5 : (backTo cpos (starEach [] X.env)).any (·.1) = false := by rfl) :
    DE X (.Call (.Attribute o "extend" apos) [e] [] cpos) (dExt fo fr) := by
  refine ⟨PE.of (pe_bm PySem.F.plainAttrs_list PySem.F.slot_list_extend PySem.F.type_list_extend mt_extend ho.pe hr.pa hb h2 h3 h4 h5) fun σ H Q ⟨ρ, M, al, F, G, W, s, q⟩ => ?_, fun ρ M Q Q' w q => ho.mono _ _ _ _ (fun d M1 q1 => ?_) q⟩
  · refine ho.seq W s q fun d M1 al1 F1 H1 v q1 e1 W1 r1 s1 => ?_
    cases d <;> first | exact q1.elim | skip
    obtain ⟨ds, e⟩ := q1.1.ex
    obtain ⟨p, xs, rfl, hp, hx, rs⟩ := cell_ok W1 r1 e
    refine ⟨.inl ⟨rfl, xs, SqL.of hx⟩, hr.seq W1 s1 q1.2 fun ys M2 al2 F2 H2 us q2 e2 W2 r2 s2 => ?_⟩
    try dsimp only at q2
    split at q2
    · next ds2 zs c2 =>
      obtain ⟨p2, xs2, z, hp2, hx2, rs2⟩ := cell_ok W2 (r1.ext e2) c2
      cases z
      cases r2 with
      | cons a1 b1 =>
        cases b1
        cases a1 with
        | lst c1 d1 =>
          have l1 := rs2.length
          have l2 := d1.length
          exact ⟨_, _, _, _, rfl, rfl, hx2, W2.sm _ _ c1, le_line (by rw [l1, l2]; exact q2.1), q2.2 al2 F2 _ _ (e1.trans e2) (W2.write hp2 ⟨_, upd_same, rs2.append d1⟩) .non⟩
    · exact q2.elim
  · cases d <;> first | exact q1.elim | skip
    refine ⟨q1.1, hr.mono _ _ _ _ (fun ys M2 q2 => ?_) q1.2⟩
    try dsimp only at q2 ⊢
    split at q2
    · exact ⟨q2.1, w _ _ q2.2⟩
    · exact q2.elim
end
end DL

set_option maxHeartbeats 1000000
/-! DLD: max, min of a tuple of ints; tests of chains. -/
namespace DL
open PySem PySem.Spec PyProof.Rows L2
section
variable {X : Cx} {a b c : Expr} {fa fb fc : DTE} {pos : Pos} {ta tb : DTT} {es : List Expr} {fr : DTA}
theorem ints_at {us : List Value} {ns : List Int} (h : IntsAre us ns) : ∀ (i : Nat) (v : Value), us.toArray[i]? = some v → ∃ t, v = Value.int (ns.getD i 0) t := by
  induction h with
  | nil => intro i v e; simp at e
  | cons n t h ih =>
    intro i v e
    cases i with
    | zero => exact ⟨t, by simpa using e.symm⟩
    | succ i => exact ih i v (by simpa using e)
theorem getD_at {ns : List Int} {j : Nat} {y : Int} (hj : j < ns.length) (e : ns[j] = y) : ns.getD j 0 = y := by rw [List.getD_eq_getElem?_getD, List.getElem?_eq_getElem hj, e]; rfl
def rMaxT (K : PySem.W.Frag) : List V → Hp → VK → Prop := fun vs H Q => ∃ (a : Addr) (ns : List Int), vs = [V.ref a] ∧ SqT K H a (ns.map V.int) ∧ 0 < ns.length ∧ ∀ m, m ∈ ns → (∀ y, y ∈ ns → y ≤ m) → Q (.int m) H
def rMinT (K : PySem.W.Frag) : List V → Hp → VK → Prop := fun vs H Q => ∃ (a : Addr) (ns : List Int), vs = [V.ref a] ∧ SqT K H a (ns.map V.int) ∧ 0 < ns.length ∧ ∀ m, m ∈ ns → (∀ y, y ∈ ns → m ≤ y) → Q (.int m) H
theorem cr_maxT (hc : X.calm = true) : CallR X (.builtin "max") (rMaxT X.K) := by
  intro pins s σ H vs us Q I r ⟨a, ns, ev, hs, hne, q⟩
  subst ev
  obtain ⟨its, rv, hl, _⟩ := I.tuple hs
  rw [Vals.ref1 r]
  have hl : s.heap.IsTuple a its.toArray := hl
  have hsz : its.toArray.size = ns.length := by
    have := rv.length
    rw [List.length_map] at this
    rw [List.size_toArray, this]
  have ha : a < s.heap.objs.size := by
    obtain ⟨o, ho, _⟩ := hl
    exact Heap.lt_size ho
  refine call_max_walk (wpAny_pyIter_tuple hl ⟨s.heap.objs.size, _, _, _, _, _, _, rfl, Walks.tuple (show X.A.in1.handled = none from I.ok.hd hc) s.heap.objs.size a (Nat.ne_of_lt ha) its.toArray, ⟨⟨_, Heap.get?_push_size _ rfl, rfl, rfl⟩, hl.at fun o e => Heap.get?_push_of_some _ e⟩, fun b hb => ?_, by omega, CmpOf.ints_gt (fun i => ns.getD i 0) (ints_at rv.ints), fun v h' tk hv' hk => ?_⟩)
  · show b < (s.heap.push _).objs.size
    rw [size_push']
    have : b = s.heap.objs.size ∨ b = a := by simpa using hb
    rcases this with z | z
    · rw [z]; exact Nat.lt_succ_self _
    · rw [z]; exact Nat.lt_succ_of_lt ha
  · obtain ⟨t, rfl⟩ := ints_at rv.ints _ _ hv'
    obtain ⟨m1, m2⟩ := argBest_gt (fun i => ns.getD i 0) (its.toArray.size - 1)
    refine ⟨.int _, H, I.kept (t' := tk) (fun b o e => hk b o (fun z => ?_) (Heap.get?_push_of_some _ e)), ⟨t, rfl⟩, q _ (PySem.getD_mem (by omega)) fun y hy => ?_⟩
    · rw [List.mem_singleton.mp z] at e
      exact absurd (Heap.lt_size e) (Nat.lt_irrefl _)
    · obtain ⟨j, hj, e⟩ := List.mem_iff_getElem.mp hy
      have z := m2 j (by omega)
      rw [getD_at hj e] at z
      exact z
theorem cr_minT (hc : X.calm = true) : CallR X (.builtin "min") (rMinT X.K) := by
  intro pins s σ H vs us Q I r ⟨a, ns, ev, hs, hne, q⟩
  subst ev
  obtain ⟨its, rv, hl, _⟩ := I.tuple hs
  rw [Vals.ref1 r]
  have hl : s.heap.IsTuple a its.toArray := hl
  have hsz : its.toArray.size = ns.length := by
    have := rv.length
    rw [List.length_map] at this
    rw [List.size_toArray, this]
  have ha : a < s.heap.objs.size := by
    obtain ⟨o, ho, _⟩ := hl
    exact Heap.lt_size ho
  refine call_min_walk (wpAny_pyIter_tuple hl ⟨s.heap.objs.size, _, _, _, _, _, _, rfl, Walks.tuple (show X.A.in1.handled = none from I.ok.hd hc) s.heap.objs.size a (Nat.ne_of_lt ha) its.toArray, ⟨⟨_, Heap.get?_push_size _ rfl, rfl, rfl⟩, hl.at fun o e => Heap.get?_push_of_some _ e⟩, fun b hb => ?_, by omega, CmpOf.ints_lt (fun i => ns.getD i 0) (ints_at rv.ints), fun v h' tk hv' hk => ?_⟩)
  · show b < (s.heap.push _).objs.size
    rw [size_push']
    have : b = s.heap.objs.size ∨ b = a := by simpa using hb
    rcases this with z | z
    · rw [z]; exact Nat.lt_succ_self _
    · rw [z]; exact Nat.lt_succ_of_lt ha
  · obtain ⟨t, rfl⟩ := ints_at rv.ints _ _ hv'
    obtain ⟨m1, m2⟩ := argBest_lt (fun i => ns.getD i 0) (its.toArray.size - 1)
    refine ⟨.int _, H, I.kept (t' := tk) (fun b o e => hk b o (fun z => ?_) (Heap.get?_push_of_some _ e)), ⟨t, rfl⟩, q _ (PySem.getD_mem (by omega)) fun y hy => ?_⟩
    · rw [List.mem_singleton.mp z] at e
      exact absurd (Heap.lt_size e) (Nat.lt_irrefl _)
    · obtain ⟨j, hj, e⟩ := List.mem_iff_getElem.mp hy
      have z := m2 j (by omega)
      rw [getD_at hj e] at z
      exact z
@[reducible] def gIntsA (f : List Int → Sto → DK → Prop) : G1 := fun d M Q => match itemsOf d M with
  | some ds => match intsOf ds with
    | some ns => f ns M Q
    | none => False
  | none => False
theorem gIntsA_mono {f : List Int → Sto → DK → Prop} (h : ∀ ns M (Q Q' : DK), (∀ d M, Q d M → Q' d M) → f ns M Q → f ns M Q') : Mono1 (gIntsA f) := fun d M Q Q' w q => by
  unfold gIntsA at q ⊢
  split at q
  · split at q
    · exact h _ _ _ _ w q
    · exact q.elim
  · exact q.elim
theorem gIntsA_ok {f : List Int → Sto → DK → Prop} {K : PySem.W.Frag} {al : List Addr} {F G H : Hp} {M : Sto} {v : V} {d : D} {Q : DK} (W : Wd K al F G H M) (r : Rp K F al v d) (h : gIntsA f d M Q) : ∃ a ns, v = .ref a ∧ (SqT K H a (ns.map V.int) ∨ SqL K H a (ns.map V.int)) ∧ f ns M Q := by
  unfold gIntsA at h
  split at h
  · next ds e2 =>
    split at h
    · next ns e =>
      have e3 := intsOf_eq e
      subst e3
      obtain ⟨p1, xs1, rfl, h1, s1⟩ := itemsOf_ok W r e2
      rw [s1.ints] at h1
      rcases h1 with h1 | h1
      · exact ⟨_, ns, rfl, .inl (SqT.of h1), h⟩
      · exact ⟨_, ns, rfl, .inr (SqL.of h1), h⟩
    · exact h.elim
  · exact h.elim
theorem o_maxA (hc : X.calm = true) : ON X (.builtin "max") (g1 (gIntsA fMax)) := ON.of1 (CallR.or (cr_maxT hc) (cr_max hc)) (gIntsA_mono fun _ _ _ _ w q => ⟨q.1, w _ _ q.2⟩) fun al F G H M x d Q W r q => by
  obtain ⟨p, ns, rfl, h, n0, k⟩ := gIntsA_ok W r q
  have fin : ∀ m, m ∈ ns → (∀ y, y ∈ ns → y ≤ m) → _ := fun m hm hl => by rw [maxI_uniq hm hl] at k; exact kont.here k W (.int _)
  rcases h with h | h
  · exact .inl ⟨p, ns, rfl, h, len_pos n0, fin⟩
  · exact .inr ⟨p, ns, rfl, h, len_pos n0, fin⟩
theorem o_minA (hc : X.calm = true) : ON X (.builtin "min") (g1 (gIntsA fMin)) := ON.of1 (CallR.or (cr_minT hc) (cr_min hc)) (gIntsA_mono fun _ _ _ _ w q => ⟨q.1, w _ _ q.2⟩) fun al F G H M x d Q W r q => by
  obtain ⟨p, ns, rfl, h, n0, k⟩ := gIntsA_ok W r q
  have fin : ∀ m, m ∈ ns → (∀ y, y ∈ ns → m ≤ y) → _ := fun m hm hl => by rw [minI_uniq hm hl] at k; exact kont.here k W (.int _)
  rcases h with h | h
  · exact .inl ⟨p, ns, rfl, h, len_pos n0, fin⟩
  · exact .inr ⟨p, ns, rfl, h, len_pos n0, fin⟩
end
/-! ### lists told by what they are made of -/
theorem map_mid {α β : Type} {f : α → β} {L : List α} {done todo : List β} {d : β} (e : done ++ d :: todo = L.map f) : ∃ x, L[done.length]? = some x ∧ d = f x ∧ done.length < L.length := by
  have h : (L.map f)[done.length]? = some d := by rw [← e, List.getElem?_append_right (Nat.le_refl _)]; simp
  rw [List.getElem?_map] at h
  cases q : L[done.length]? with
  | none => rw [q] at h; cases h
  | some x =>
    rw [q] at h
    exact ⟨x, rfl, (Option.some.inj h).symm, (List.getElem?_eq_some_iff.mp q).1⟩
theorem take_more {α : Type} {L : List α} {n : Nat} {x : α} (h : L[n]? = some x) : L.take (n + 1) = L.take n ++ [x] := by
  rw [List.take_succ, h]
  rfl
theorem map_done {α β : Type} {f : α → β} {L : List α} {done : List β} (e : done ++ [] = L.map f) : L.take done.length = L := by
  rw [List.append_nil] at e
  rw [e, List.length_map, List.take_length]
theorem enum_map {α : Type} (k : Int) (f : α → D) (L : List α) : enumD k (L.map f) = L.zipIdx.map fun q => D.tup [.int (k + (q.2 : Int)), f q.1] := by
  unfold enumD
  apply List.ext_getElem?
  intro i
  rw [List.getElem?_mapIdx, List.getElem?_map, List.getElem?_map, List.getElem?_zipIdx]
  cases L[i]? with
  | none => rfl
  | some x => simp
theorem idx_at {α : Type} {L : List α} {n : Nat} {q : α × Nat} (h : L.zipIdx[n]? = some q) : q.2 = n ∧ L[n]? = some q.1 := by
  rw [List.getElem?_zipIdx] at h
  cases e : L[n]? with
  | none => rw [e] at h; cases h
  | some x => rw [e] at h; cases h; exact ⟨by simp, rfl⟩
theorem idx_mem {α : Type} {L : List α} {q : α × Nat} (h : q ∈ L.zipIdx) : L[q.2]? = some q.1 := by
  obtain ⟨n, hn, e⟩ := List.getElem_of_mem h
  have := idx_at (L := L) (n := n) (q := q) (by rw [List.getElem?_eq_getElem hn, e])
  rw [this.1]; exact this.2
theorem idx_len {α : Type} (L : List α) : L.zipIdx.length = L.length := by simp
end DL

set_option maxHeartbeats 1000000
/-! DLE: a list unpacked into names; list(range(n)). -/
namespace DL
open PySem PySem.Spec PyProof.Rows L2
section
variable {prog : Program} {w : World} {A : Around} {E : Value → Shared → Prop}
theorem draw_lst {it l : Addr} {items : Array Value} (hne : l ≠ it) : ∀ (n i : Nat) (s : Shared) (Q : List Value → Shared → Prop), s.heap.IsListIter it l i → s.heap.IsList l items → i + n ≤ items.size →
    (∀ h', h'.IsListIter it l (i + n) → h'.IsList l items → Heap.SameBut it s.heap h' → Q ((items.toList.drop i).take n) { s with heap := h' }) → wpAny (model prog w) A (draw (.ref it) n) Q E s
  | 0, i, s, Q, hit, hl, _, hQ => by
    show wpAny _ _ (pure []) Q E s
    have := hQ s.heap hit hl (Heap.SameBut.refl ..)
    rw [List.take_zero] at this
    exact wpAny_pure this
  | n + 1, i, s, Q, hit, hl, hle, hQ => by
    have hi : i < items.size := by omega
    show wpAny _ _ (pyNext (.ref it) >>= _) Q E s
    refine wpAny_bind (wpAny_pyNext_list_item hit hl (x := items[i]) (by simp [hi]) fun h1 hit1 hs1 => wpAny_bind (wpAny_holding (draw_lst hne n (i + 1) _ _ hit1 (hl.extBut hs1.extBut hne) (by omega) fun h2 hit2 hl2 hs2 => wpAny_pure ?_)))
    have q := hQ h2 (by rw [show i + (n + 1) = i + 1 + n by omega]; exact hit2) hl2 (hs1.trans hs2)
    rw [show items.toList.drop i = items[i] :: items.toList.drop (i + 1) by simp [List.drop_eq_getElem_cons, hi], List.take_succ_cons] at q
    exact q
theorem unpack_lst {s : Shared} {l : Addr} {items : Array Value} {targets : List (Bool × (Value → Sem Unit))} {Q : Unit → Shared → Prop} (hh : A.handled = none) (hl : s.heap.IsList l items) (hn : targets.length = items.size) (hstar : targets.findIdx? (·.1) = none)
    (h : ∀ h', Heap.ExtBut s.heap.objs.size s.heap h' → wpAny (model prog w) A (assignInOrder (targets.map (·.2)) items.toList) Q E { s with heap := h' }) : wpAny (model prog w) A (unpack (.ref l) targets) Q E s := by
  have hlt : l ≠ s.heap.objs.size := by
    obtain ⟨o, ho, _⟩ := hl
    exact Nat.ne_of_lt (Heap.lt_size ho)
  unfold unpack
  rw [hn, hstar]
  refine wpAny_bind (wpAny_holding ?_)
  unfold unpackItems notIterableAtAll
  refine wpAny_bind (wpAny_bind (wpAny_specialOf hl.typeIs F.slot_list_iter.lookup (wpAny_pure ?_)))
  simp only [Bool.false_eq_true, if_false]
  have hl1 : ∀ o, (s.heap.push o).IsList l items := fun o => hl.at fun _ e => Heap.get?_push_of_some _ e
  refine wpAny_bind (wpAny_holding (wpAny_pyIter_list hl (wpAny_bind (wpAny_holding (draw_lst hlt items.size 0 _ _ ⟨_, Heap.get?_push_size _ rfl, rfl, rfl⟩ (hl1 _) (by omega) fun h1 hit1 hl2 hs1 => ?_)))))
  rw [show List.take items.size (List.drop 0 items.toList) = items.toList by rw [List.drop_zero]; exact List.take_of_length_le (by simp), if_neg (by simp)]
  refine wpAny_bind (wpAny_holding (wpAny_pyNext_list_end hh hit1 hl2 (by simp) fun h2 he2 => ?_))
  simp only [Option.isSome_none, Bool.false_eq_true, if_false]
  exact wpAny_pure (h h2 fun b o hb e => he2 b o hb (hs1.extBut b o hb (Heap.get?_push_of_some _ e)))
end
section
variable {X : Cx} {a b c : Expr} {fa fb fc : DTE} {pos : Pos} {es : List Expr} {fr : DTA}
def gTupL (K : PySem.W.Frag) (n : Nat) (t : TGs) : TG := fun v σ H Q => ∃ a xs, v = .ref a ∧ (SqT K H a xs ∨ SqL K H a xs) ∧ xs.length = n ∧ t xs σ H Q
theorem pg_tupL {k : Nat} {t : TGs} {n : Nat} (hc : X.calm = true) (h : PGs X es t) (hn : (assignEach es X.env).length = n := by rfl) (hst : (assignEach es X.env).findIdx? (·.1) = none := by rfl) : PG X (.Tuple es k pos) (gTupL X.K n t) := by
  refine ⟨fun pins s σ H v u Q I r ⟨a, xs, e1, hq, hl, hw⟩ => ?_⟩
  subst e1
  cases r
  rcases hq with hq | hq
  · obtain ⟨its, rv, ht, hz⟩ := I.tuple hq
    refine assign_Tuple_tuple (I.ok.hd hc) ht (by simp [hn, ← hl, rv.length]) hst fun h' hx => ?_
    exact h.run pins _ σ H xs _ Q (I.kept (t' := s.toks) fun b o e => hx b o (Nat.ne_of_lt (Heap.lt_size e)) e) (by simpa using rv) hw
  · obtain ⟨its, rv, ht, hz⟩ := I.list hq
    rw [assign_Tuple]
    refine wpAny_bind (wpAny_standAt (unpack_lst (I.ok.hd hc) ht.isList (by simp [hn, ← hl, rv.length]) hst fun h' hx => ?_))
    exact h.run pins _ σ H xs _ Q (I.kept (t' := s.toks) fun b o e => hx b o (Nat.ne_of_lt (Heap.lt_size e)) e) (by simpa using rv) hw
/-- a tuple or a list, unpacked -/
@[reducible] def dgTupL (n : Nat) (g : DTGs) : DTG := fun d ρ M Q => match itemsOf d M with
  | some ds => ds.length = n ∧ g ds ρ M Q
  | none => False
theorem dg_tupL {k n : Nat} {g : DTGs} {js : List Nat} (hc : X.calm = true) (h : DGs X es g js) (hn : (assignEach es X.env).length = n := by rfl) (hst : (assignEach es X.env).findIdx? (·.1) = none := by rfl) : DG X (.Tuple es k pos) (dgTupL n g) js := by
  refine ⟨PG.of (pg_tupL hc h.pg hn hst) fun v σ H Q ⟨d, ρ, M, al, F, G, W, es, r, q⟩ => ?_, fun d ρ M Q Q' w q => ?_⟩
  · unfold dgTupL at q
    split at q
    · next ds e =>
      obtain ⟨p, xs, rfl, h1, rs⟩ := itemsOf_ok W r e
      rcases h1 with h1 | h1
      · exact ⟨_, _, rfl, .inl (SqT.of h1), rs.length.trans q.1, _, ρ, M, al, F, G, W, es, rs, q.2⟩
      · exact ⟨_, _, rfl, .inr (SqL.of h1), rs.length.trans q.1, _, ρ, M, al, F, G, W, es, rs, q.2⟩
    · exact q.elim
  · unfold dgTupL at q ⊢
    split at q
    · exact ⟨q.1, h.mono _ _ _ _ _ w q.2⟩
    · exact q.elim
/-- list(range(n)) -/
@[reducible] def dLstRg (fa : DTE) : DTE := fun ρ M Q => fa ρ M fun d M1 => match d with
  | .int j => (-1000000 ≤ j ∧ j ≤ 1000000) ∧ Q (.lst (rng 0 j.toNat)) M1
  | _ => False
theorem rg_rps {K : PySem.W.Frag} {F : Hp} {al : List Addr} (j : Int) : Rps K F al (rgV 0 j) (rng 0 j.toNat) := by
  unfold rgV rng
  rw [Int.sub_zero]
  generalize List.range j.toNat = L
  induction L with
  | nil => exact .nil
  | cons x L ih => exact .cons (.int _) ih
theorem d_listRg {p p2 pos2 : Pos} (hg : Gl X "list") (hm : X.mg "list" = none) (hg2 : Gl X "range") (hm2 : X.mg "range" = none) (hc : X.calm = true) (h : DE X a fa) (na : starEach [a] X.env = (false, eval a X.env) :: starEach [] X.env := by rfl)
    (na2 : starEach [.Call (.Name "range" p2) [a] [] pos2] X.env = (false, eval (.Call (.Name "range" p2) [a] [] pos2) X.env) :: starEach [] X.env := by rfl) : DE X (.Call (.Name "list" p) [.Call (.Name "range" p2) [a] [] pos2] [] pos) (dLstRg fa) := by
  refine ⟨PE.of (pe_listRg hc hg hm (prg_1 hg2 hm2 h.pe na) na2) fun σ H Q ⟨ρ, M, al, F, G, W, es, q⟩ => ?_, fun ρ M Q Q' w q => h.mono _ _ _ _ (fun d M1 q1 => ?_) q⟩
  · refine h.seq W es q fun d M1 al1 F1 H1 v q1 e1 W1 r1 s1 => ?_
    cases r1 <;> first | exact q1.elim | skip
    refine ⟨_, rfl, ⟨by omega, by omega, by have := q1.1.1; omega, by have := q1.1.2; omega, by have := q1.1.2; omega⟩, fun p hp => ?_⟩
    exact kont.lst (kont.ext q1.2 e1) W1 (rg_rps _) hp
  · cases d <;> first | exact q1.elim | exact ⟨q1.1, w _ _ q1.2⟩
end
end DL

/-! DLF: data that == takes: no texts, no dicts. -/
namespace DL
open PySem PySem.Spec PyProof.Rows L2
inductive Pl : Nat → D → Prop
  | non : Pl 0 .non
  | bl (b : Bool) : Pl 0 (.bl b)
  | int (i : Int) : Pl 0 (.int i)
  | tup {h : Nat} {ds : List D} (hd : ∀ d ∈ ds, Pl h d) : Pl (h + 1) (.tup ds)
  | lst {h : Nat} {ds : List D} (hd : ∀ d ∈ ds, Pl h d) : Pl (h + 1) (.lst ds)
def PlOk (h : Nat) (d : D) : Prop := pu d = true ∧ (toPy d).canLay0 = true ∧ (toPy d).depth ≤ h
theorem plAll {h : Nat} : ∀ {ds : List D}, (∀ d ∈ ds, PlOk h d) → DL.pus ds = true ∧ PyData.canLayAll0 (toPys ds) = true ∧ PyData.depthAll (toPys ds) ≤ h
  | [], _ => ⟨rfl, rfl, Nat.zero_le _⟩
  | d :: ds, hd => by
    obtain ⟨a1, a2, a3⟩ := hd d (by simp)
    obtain ⟨b1, b2, b3⟩ := plAll fun x hx => hd x (List.mem_cons_of_mem _ hx)
    refine ⟨?_, ?_, ?_⟩
    · show (pu d && DL.pus ds) = true
      rw [a1, b1]; rfl
    · show ((toPy d).canLay0 && PyData.canLayAll0 (toPys ds)) = true
      rw [a2, b2]; rfl
    · show max (toPy d).depth (PyData.depthAll (toPys ds)) ≤ h
      exact Nat.max_le.mpr ⟨a3, b3⟩
theorem Pl.ok' {h : Nat} {d : D} (s : Pl h d) : PlOk h d := by
  induction s with
  | non => exact ⟨rfl, rfl, Nat.zero_le _⟩
  | bl b => exact ⟨rfl, rfl, Nat.zero_le _⟩
  | int i => exact ⟨rfl, rfl, Nat.zero_le _⟩
  | tup hd ih =>
    obtain ⟨b1, b2, b3⟩ := plAll ih
    exact ⟨b1, b2, Nat.succ_le_succ b3⟩
  | lst hd ih =>
    obtain ⟨b1, b2, b3⟩ := plAll ih
    exact ⟨b1, b2, Nat.succ_le_succ b3⟩
theorem Pl.vw {h : Nat} {d : D} (s : Pl h d) (M : Sto) : DL.vw d M = d := by
  have := s.ok'.1
  cases d <;> first | rfl | (cases this)
theorem PlOk.eq {h : Nat} {d : D} (s : PlOk h d) (hh : h ≤ 60) : pu d = true ∧ SeqAt.shaped (toPy d) = true := ⟨s.1, by
  unfold SeqAt.shaped
  rw [s.2.1, Bool.true_and]
  exact decide_eq_true (Nat.le_trans s.2.2 (by omega))⟩
theorem Pl.eqOk {h : Nat} {d : D} (s : Pl h d) (hh : h ≤ 60) (M : Sto) : DL.eqOk d M := by
  unfold DL.eqOk
  rw [s.vw M]
  exact s.ok'.eq hh
theorem vw_ref {n : Nat} {ds : List D} {M : Sto} (e : M[n]? = some (.lst ds)) : DL.vw (.ref n) M = .lst ds := by
  show (match M[n]? with
    | some (.lst ds) => D.lst ds
    | _ => D.ref n) = _
  rw [e]
theorem Pl.eqRef {h n : Nat} {ds : List D} {M : Sto} (s : Pl h (.lst ds)) (hh : h ≤ 60) (e : M[n]? = some (.lst ds)) : DL.eqOk (.ref n) M := by
  have e2 := vw_ref e
  unfold DL.eqOk
  rw [e2]
  exact s.ok'.eq hh
theorem eqv_nil (ds : List D) : PyData.eqv (toPy (.lst ds)) (toPy (.lst [])) = decide (ds = []) := by
  cases ds with
  | nil => rfl
  | cons d ds => rfl
end DL

/-! DLG: lists made by * and + that will be changed. -/
namespace DL
open PySem PySem.Spec PyProof.Rows L2
section
variable {X : Cx} {a b c : Expr} {fa fb fc : DTE} {pos : Pos}
@[reducible] def gMulM : G2 := fun x y M Q => match y with
  | .int k => match seqOf x M with
    | some ds => 0 ≤ k ∧ k < 100000 ∧ ds.length * k.toNat ≤ 100000 ∧ Q (.ref M.length) (M ++ [.lst (List.replicate k.toNat ds).flatten])
    | none => False
  | _ => False
theorem gMulM_mono : Mono2 gMulM := fun x y M Q Q' w q => by
  unfold gMulM at q ⊢
  split at q
  · split at q
    · exact ⟨q.1, q.2.1, q.2.2.1, w _ _ q.2.2.2⟩
    · exact q.elim
  · exact q.elim
theorem o_mulM : O2 X (binaryOp .Mult) gMulM := O2.of op_rep gMulM_mono fun al F G H M x y dx dy Q W r1 r2 q => by
  unfold gMulM at q
  split at q
  · cases r2
    split at q
    · next e =>
      obtain ⟨p1, xs1, rfl, h1, s1⟩ := seqOf_ok W r1 e
      have l1 := s1.length
      exact ⟨_, _, _, rfl, rfl, h1, by have := q.1; omega, by have := q.2.1; omega, le_line (by rw [l1]; exact q.2.2.1), fun p hp => kont.new q.2.2.2 W (s1.rep _) hp⟩
    · exact q.elim
  · exact q.elim
@[reducible] def gAddM : G2 := fun x y M Q => match seqOf x M, seqOf y M with
    | some i, some j => i.length + j.length ≤ 100000 ∧ Q (.ref M.length) (M ++ [.lst (i ++ j)])
    | _, _ => False
theorem gAddM_mono : Mono2 gAddM := fun x y M Q Q' w q => by
  unfold gAddM at q ⊢
  split at q
  · exact ⟨q.1, w _ _ q.2⟩
  · exact q.elim
theorem o_addM : O2 X (binaryOp .Add) gAddM := O2.of op_cat gAddM_mono fun al F G H M x y dx dy Q W r1 r2 q => by
  unfold gAddM at q
  split at q
  · next e1 e2 =>
    obtain ⟨p1, xs1, rfl, h1, s1⟩ := seqOf_ok W r1 e1
    obtain ⟨p2, xs2, rfl, h2, s2⟩ := seqOf_ok W r2 e2
    have l1 := s1.length
    have l2 := s2.length
    exact ⟨_, _, _, _, rfl, rfl, h1, h2, le_line (by have := q.1; omega), fun p hp => kont.new q.2 W (s1.append s2) hp⟩
  · exact q.elim
end
/-! ### a comprehension in a comprehension -/
def allCell (sc : Scope) : Scope := { sc with names := sc.names.map fun y => (y.1, .cell) }
def freeB (sc scope : Scope) : Bool := scope.names.all fun y => match y.2 with
  | .free => (match sc.names.lookup y.1 with
    | some .cell => true
    | some .free => true
    | _ => false)
  | _ => true
theorem blkOk_in {N : List Str} {sc scope : Scope} {own : List (Str × Nat)} (h : blkC N (allCell scope) scope own = true) (hf : freeB sc scope = true) : BlkOk N sc scope own := by
  have b := blkOk_by h
  refine ⟨b.kind, b.uniq, b.ix, fun y hy e => ?_, b.own⟩
  have q := List.all_eq_true.mp hf y hy
  rw [e] at q
  dsimp only at q
  split at q
  · next h => exact .inl h
  · next h => exact .inr h
  · cases q
/-! ### a < b < c as a test -/
section
variable {X : Cx} {a b c : Expr} {fa fb fc : DTE} {pos : Pos}
theorem chain_ok {op op' : CmpOp} {g g' : G2} (ho : O2 X (compareOp op) g) (ho' : O2 X (compareOp op') g') (ha : DE X a fa) (hb : DE X b fb) (hc : DE X c fc) {σ : L2.St} {H : Hp} {Q : VK} (h : Lift X (dChain g g' fa fb fc) σ H Q) :
    tChain (r2 X.K g) (r2 X.K g') (Lift X fa) (Lift X fb) (Lift X fc) σ H Q := by
  obtain ⟨ρ, M, al, F, G, W, s, q⟩ := h
  refine ha.seq W s q fun dx M1 al1 F1 H1 v q1 e1 W1 r1 s1 => ?_
  refine hb.seq W1 s1 q1 fun dy M2 al2 F2 H2 u q2 e2 W2 r2 s2 => ?_
  refine ⟨dx, dy, al2, F2, G, M2, W2, r1.ext e2, r2, ho.mono _ _ _ _ _ (fun z M3 q3 al3 F3 H3 zv e3 W3 r3 => ?_) q2⟩
  cases r3 with
  | bl k =>
    refine ⟨k, rfl, ?_⟩
    cases k with
    | true =>
      refine hc.seq W3 (s2.ext e3) q3 fun dw M4 al4 F4 H4 wv q4 e4 W4 r4 s4 => ?_
      exact ⟨dy, dw, al4, F4, G, M4, W4, r2.ext (e3.trans e4), r4, ho'.mono _ _ _ _ _ (fun d M5 k => kont.ext k (e1.trans (e2.trans (e3.trans e4)))) q4⟩
    | false => exact q3 al3 F3 H3 _ (e1.trans (e2.trans e3)) W3 (.bl false)
  | _ => exact q3.elim
theorem dt_chain {op op' : CmpOp} {g g' : G2} (ho : O2 X (compareOp op) g) (ho' : O2 X (compareOp op') g') (ha : DE X a fa) (hb : DE X b fb) (hc : DE X c fc) (hm : lastMarks [op, op'] [b, c] = false := by with_unfolding_all rfl) :
    DT X (.Compare a [op, op'] [b, c] pos) (dBl (dChain g g' fa fb fc)) := by
  have hd : DE X (.Compare a [op, op'] [b, c] pos) (dChain g g' fa fb fc) := d_chain ho ho' ha hb hc fun h1 h2 h3 h4 h5 => pe_chain h1 h2 h3 h4 h5 hm
  refine ⟨PT.of (pt_chain ho.opR ho'.opR ha.pe hb.pe hc.pe hm) fun σ H Q ⟨ρ, M, al, F, G, W, s, q⟩ => ?_, dBl_mono hd⟩
  refine chain_ok ho ho' ha hb hc ⟨ρ, M, al, F, G, W, s, hd.mono _ _ _ _ (fun d M1 q1 al1 F1 H1 v e1 W1 r1 => ?_) q⟩
  cases r1 with
  | bl k => exact ⟨k, rfl, q1 al1 F1 H1 e1 W1⟩
  | _ => exact q1.elim
end
end DL

set_option maxHeartbeats 2000000
/-! DLX: exceptions of the program's own classes: made and raised, caught, asked for their class and their field. -/
/-! ### an own exception class over any built-in one that keeps no attributes of its own -/
namespace PySem
namespace HandSPX
open Builtin Builtin.ObjectAttr
section
variable {prog : Program} {w : World} {A : Around} {E : Value → Shared → Prop} {R : Result → Shared → Prop} {hp : Heap} {g : Array GenState} {d : Drawn} {t : Nat} {os : OsState}
theorem exc_osaB {B : String} {bmB : List Value} {K : W.Frag} {name : Str} {tk : Tok} {v : Value} {x C : Addr} {fv : Array Value} {cd : ClassData} (SB : StoreFacts B bmB "object.__setattr__" "object")
    (X : K.In hp) (hx : hp.get? x = some { cls := .ref C, data := .fields fv }) (hcd : W.clsIn K C = some cd) (hm : W.excTail bmB cd.mro = true) (hh : cd.hasDict = true) (ha : W.findIn K (.ref C) name = some none)
    (hq : ∀ h' tk' dx, (∀ b o, b ≠ x → hp.get? b = some o → h'.get? b = some o) → hp.objs.size ≤ dx → dx ≠ x → h'.get? x = some { cls := .ref C, dict := some dx, data := .fields fv } →
      h'.Ns1 dx (fun y => if y = name then some v else none) → R (.ok (.ret .none)) ⟨h', g, d, tk', os⟩) :
    codeAny (model prog w) A (.call (.builtin "object.__setattr__") ⟨[.ref x, .str name tk, v], []⟩) R ⟨hp, g, d, t, os⟩ := by
  have I : W.InstAt hp x { cls := .ref C, data := .fields fv } C none := ⟨hx, rfl, rfl, trivial⟩
  have SF := F.store_object
  have hob : cd.mro.contains (.type "object") = true := (W.excTail_contains "object" _ hm).trans SB.hasOwner
  have ne : cd.mro.isEmpty = false := by
    cases e : cd.mro with
    | nil => rw [e] at hob; cases hob
    | cons _ _ => rfl
  have hxs : x ≠ hp.objs.size := Nat.ne_of_lt (Heap.lt_size hx)
  have sub : W.Looks (model prog w) hp (isInstance (.ref x) (.type "object")) true := I.type.andThen (W.looks_mroIn X (by unfold W.mroIn; rw [hcd, Option.bind_some, if_neg (by rw [ne]; decide), hob]))
  refine codeAny_call_builtin SF.slot.plain SF.entry (@W.check_slot (model prog w) _ _ ⟨hp, g, d, t, os⟩ "object.__setattr__" "object" "__setattr__" (.ref x) [.str name tk, v] [] _ SF.kind SF.split sub (SF.args (.ref x) (.str name tk) v) ?_)
  have hmr : W.Looks (model prog w) hp (mroOf (.ref C)) cd.mro := (W.looks_clsIn X hcd).andThen .now
  have L3 : W.Looks (model prog w) hp (storeTaker? none) none := .now
  have hcls : W.Looks (model prog w) hp (classData C) cd := W.looks_clsIn X hcd
  rw [W.osa_eq, refuse_eq]
  refine wpAny_bind (wpAny_bind (I.type.at (wpAny_bind (hmr.at ?_))))
  rw [W.excTail_pass _ (SB.passes _) _ hm]
  refine wpAny_pure (wpAny_bind (I.type.at (wpAny_bind ((W.looks_findIn X ha).at (wpAny_bind (L3.at ?_))))))
  show wpAny _ _ (storeInOwnDict (.ref x) (.ref C) (.str name tk) name v false) _ _ _
  obtain ⟨nm, bs, mro, ns, qn, hd, sn, sb, ab, col, del⟩ := cd
  dsimp only at hh
  subst hh
  unfold storeInOwnDict ownDictForStores
  repeat (first | with_reducible refine store_in_new ?_ ?_ | with_reducible refine wpAny_loadPart_at hx ?_ | with_reducible refine hcls.at ?_ | wp_step)
  · exact ⟨_, #[], _, (Heap.get?_update_ne _ _ _ _ hxs.symm).trans (Heap.get?_push_at rfl rfl), rfl, fun e he => absurd he (by simp), fun _ => rfl⟩
  · intro h' tk' hn' hs
    have hx₁ : (hp.push { cls := .type "dict", data := .dict #[] }).get? x = some { cls := .ref C, data := .fields fv } := Heap.get?_push_of_some _ hx
    refine hq h' tk' hp.objs.size (fun b o hb ho => ?_) (Nat.le_refl _) hxs.symm ?_ hn'
    · exact (hs.2 b (Nat.ne_of_lt (Heap.lt_size ho))).trans ((Heap.get?_update_ne _ _ _ _ hb).trans (Heap.get?_push_of_some _ ho))
    · exact (hs.2 x hxs).trans (Heap.get?_update_self _ hx₁ rfl)
end
end HandSPX
end PySem
namespace DL
open PySem PySem.Spec PyProof.Rows L2

/-- what the written part says of the class -/
structure OexB (K : PySem.W.Frag) (C : Addr) : Prop where
  cls : ∃ (B newId initId : String) (bmB : List Value), ExcBaseFacts B newId initId bmB ∧ StoreFacts B bmB "object.__setattr__" "object" ∧ ∃ nm q N bs bm sn sub ab col dd k0 k1 k2 k3 k5, K.lookup C = some (excClassObj nm q C N bs bm true sn sub ab col dd k0 k1 k2 k3 k5 newId) ∧ PySem.W.excTail bmB bm = true
  sa : PySem.W.findIn K (.ref C) "__setattr__" = some (some (.builtin "object.__setattr__"))
  exC : PySem.W.subIn K (.ref C) (.type "BaseException") = some true
  tyC : PySem.W.typeIn K (.ref C) = some (.type "type")
  kC : PySem.W.keepIn K (.ref C) = true
section
variable {X : Cx} {pins : List (Addr × Obj)} {σ : L2.St} {H : Hp} {s : Shared} {a C dx : Addr} {f : Str} {y : V} {u : Value} {fs : List (Str × V)} {Q : Unit → Shared → Prop} {E : Value → Shared → Prop} {A : Around}
/-- self.f = y, the first one -/
theorem ost_newB (T : OexB X.K C) (I : Inv X pins σ H s) (e : H a = some (exo a C none)) (hno : PySem.W.findIn X.K (.ref C) f = some none) (ry : RelV y u)
    (h : ∀ dx s', H dx = none → dx ≠ a → Inv X pins σ (upd (upd H dx (exd dx [(f, y)])) a (exo a C (some dx))) s' → Q () s') : wpAny (model X.prog X.w) A (setAttr (.ref a) f u) Q E s := by
  obtain ⟨B, newId, initId, bmB, FB, SB, nm, q, N, bs, bm, sn, sub, ab, col, dd, k0, k1, k2, k3, k5, hC, hbm⟩ := T.cls
  have hcl : PySem.W.clsIn X.K C = some { name := nm, bases := bs, mro := .ref C :: bm, ns := N, qualname := q, hasDict := true, slotNames := sn, subclasses := sub, abstract := ab, collection := col, hasDel := false } := by unfold PySem.W.clsIn; rw [hC] <;> rfl
  obtain ⟨t1, ho⟩ := exo_at I.hok e
  obtain ⟨hp, g, d, t, os⟩ := s
  refine PySem.W.set_plain I.kIn (ox := { cls := .ref C, dict := none, data := .fields #[.ref t1, .none, .none, .none, .bool false, .none] }) (od := none) ⟨ho, rfl, rfl, trivial⟩ T.sa ?_
  refine PySem.HandSPX.exc_osaB SB I.kIn ho hcl (show PySem.W.excTail bmB (.ref C :: bm) = true from hbm) rfl hno (fun h' tk' dx k dn dne hx hn => ?_)
  have hnd : H dx = none := I.hok.fresh dn
  have nd : ∀ {b : Addr} {o : Obj}, hp.get? b = some o → b ≠ dx := fun {b o} q => Nat.ne_of_lt (Nat.lt_of_lt_of_le (Heap.lt_size q) dn)
  have na : ∀ {b : Addr}, H b = none → b ≠ a := fun {b} n z => by
    rw [z, e] at n
    cases n
  have Un1 : Un X.fs [] H (upd (upd H dx (exd dx [(f, y)])) a (exo a C (some dx))) hp h' := {
    keep := fun b o q n _ _ => k b o (na n) q
    slot := fun b o q n _ _ => ⟨o.slots, k b o (na n) q⟩
    free := fun b o q n _ => by rw [upd_ne (na n), upd_ne (nd q)]; exact n
    there := fun b o q _ => by
      by_cases hb : b = a
      · exact ⟨_, by rw [hb]; exact hx⟩
      · exact ⟨o, k b o hb q⟩
    tups := fun b xs q => by rw [upd_ne (at_ne e q exo_tup), upd_ne (ne_of_none q hnd)]; exact q
    frzs := fun b o v q => by rw [upd_ne (at_ne e q exo_frz), upd_ne (ne_of_none q hnd)]; exact q
    tbls := fun b ps q => ⟨#[], by rw [upd_ne (at_ne e q exo_tbl), upd_ne (ne_of_none q hnd), q]; simp⟩ }
  refine h dx _ hnd dne (I.un (t' := tk') Un1 fun b o q => ?_)
  by_cases hb : b = a
  · subst hb
    rw [upd_same] at q
    cases q
    exact exo_ok hx
  · rw [upd_ne hb] at q
    by_cases hd : b = dx
    · subst hd
      rw [upd_same] at q
      cases q
      exact exd_ok hn (relO_put (fs := []) ry fun g => True.intro)
    · rw [upd_ne hd] at q
      exact (I.hok b o q).stay (fun c v hc z => k c v (by
          rcases hc with hc | hc
          · rw [hc]
            exact hb
          · exact at_ne e hc exo_own) z)
        (fun c hc => by rw [upd_ne (at_ne e hc exo_own), upd_ne (ne_of_none hc hnd)]; exact hc) (fun c xs hc => by rw [upd_ne (at_ne e hc exo_tup), upd_ne (ne_of_none hc hnd)]; exact hc)
/-- self.f = e -/
def tOstB (K : PySem.W.Frag) (f : Str) (to te : TE) : TS := fun D σ H => te σ H fun y H1 => to σ H1 fun x H2 => ∃ a C : Addr, x = .ref a ∧ OexB K C ∧ PySem.W.findIn K (.ref C) f = some none ∧
  H2 a = some (exo a C none) ∧ ∀ dx, H2 dx = none → dx ≠ a → D.nx σ (upd (upd H2 dx (exd dx [(f, y)])) a (exo a C (some dx)))
theorem ps_ostB {o e : Expr} {to te : TE} {p' pos : Pos} (ho : PE X o to) (he : PE X e te) (hs : swapsWith e (some (.Attribute o f p')) pos.line X.env = pure false := by rfl) : PS X (.Assign [.Attribute o f p'] e pos) (tOstB X.K f to te) := by
  refine ⟨fun pins s σ H D I h => ?_⟩
  refine plainObj_wpAny_Assign_Attribute (thn (he.run pins s σ H _ I h) fun v s1 ⟨y, H1, I1, r1, q1⟩ => thn (ho.run pins s1 σ H1 _ I1 q1) fun u s2 ⟨x, H2, I2, r2, a, C, ex, T, hno, ea, q⟩ => ?_) hs
  subst ex
  obtain rfl : u = Value.ref a := r2
  exact ost_newB T I2 ea hno r1 fun dx s' n ne J => ⟨σ, _, J, q dx n ne⟩
end

def cdBody (s : Stmt) : List Stmt := match s with
  | .ClassDef _ _ _ b _ _ _ _ _ _ _ => b
  | _ => []
/-- the class that a name of the module holds -/
def cls (mg : Str → Option Value) (x : Str) : Addr := match mg x with
  | some (.ref a) => a
  | _ => 0
theorem cls_of {mg : Str → Option Value} {x : Str} {C : Addr} (h : mg x = some (.ref C)) : cls mg x = C := by unfold cls; rw [h]
/-- what __init__(self, f) with self.f = f does to a new exception -/
def spInit (C : Addr) (f : Str) : Sp := fun vs H Q _ => ∃ (a : Addr) (v : V), vs = [.ref a, v] ∧ H a = some (exo a C none) ∧ ∀ dx, H dx = none → dx ≠ a → Q .non (upd (upd H dx (exd dx [(f, v)])) a (exo a C (some dx)))
def initBody (f : Str) (st : Stmt) : Prop := ∃ p1 p2 p3 p4, defBody st = [.Assign [.Attribute (.Name "self" p1) f p2] (.Name f p3) p4]
theorem init_ok {P : Program} {w : World} {K : PySem.W.Frag} {mg : Str → Option Value} {base : Heap} {qual f : Str} {st : Stmt} {fI C : Addr} {fd : FuncData} (F : Fun K "__init__" qual st fI fd) (S : FnScope ["self", f] ["self", f] (defScope st)) (hb : initBody f st)
    (v0 : Vis (defScope st) "self") (v1 : Vis (defScope st) f) (T : OexB K C) (no : PySem.W.findIn K (.ref C) f = some none) (h1 : (f == ("__debug__" : Str)) = false) (h2 : (f == ("__classdict__" : Str)) = false) :
    FnOk P w K mg base CX0 1 fI fd ["self", f] (spInit C f) := by
  obtain ⟨p1, p2, p3, p4, eb⟩ := hb
  refine F.ok S (fun vs H Q E ⟨a, v, e, _⟩ => by rw [e]; rfl) fun cdv A outer s H vs Q E hr h => ⟨_, by rw [eb]; exact pss_one (ps_ostB (pe_var (i := 0) rfl v0) (pe_var (i := 1) rfl v1 h1 h2)), ?_⟩
  obtain ⟨a, v, rfl, ha, k⟩ := h
  exact ⟨v, rfl, .ref a, rfl, a, C, rfl, T, no, ha, k⟩
/-- what the written part says of an exception class C with the field f -/
structure EcF (K : PySem.W.Frag) (C : Addr) (f : Str) : Prop where
  oex : OexB K C
  no : PySem.W.findIn K (.ref C) f = some none
  ga : PySem.W.findIn K (.ref C) "__getattribute__" = some (some (.builtin "BaseException.__getattribute__"))
  gg : PySem.W.findIn K (.ref C) "__getattr__" = some none
  hd : PySem.W.hasDictIn K C = true
  init : ∃ (fI : Addr) (fd : FuncData), PySem.W.findIn K (.ref C) "__init__" = some (some (.ref fI)) ∧ PySem.W.typeIn K (.ref fI) = some (.type "function") ∧ Binds K fd ["self", f] [] ∧
    ∀ (P : Program) (w : World) (mg : Str → Option Value) (base : Heap), FnOk P w K mg base CX0 1 fI fd ["self", f] (spInit C f)
section
variable {X : Cx} {a b c e : Expr} {fa fb fc : DTE} {pos : Pos} {es : List Expr} {fr : DTA} {ta : TA}
/-- C(e) as an exception that is being made -/
theorem pmk1 {x f : Str} {C : Addr} {p : Pos} (T : EcF X.K C f) (room : Room 2 X.A) (hg : Gl X x) (hm : X.mg x = some (.ref C)) (args : PA X [e] ta) (hdb : (x == ("__debug__" : Str)) = false)
    (he : starEach [e] X.env = (false, eval e X.env) :: starEach [] X.env) (hpl : (backTo pos (starEach [] X.env)).any (·.1) = false) :
    L2N.PMk X (.Call (.Name x p) [e] [] pos) (fun σ H Q => ta σ H fun vs H1 => ∃ v, vs = [v] ∧ ∀ d, H1 d = none → Q (.ref C) (some d) (upd H1 d (.xd [(f, v)]))) := by
  intro ps0 s0 σ H Q J h
  obtain ⟨B, newId, initId, bmB, FB, SB, nm, qn, N, bs, bm, sn, sub, ab, col, dd, k0, k1, k2, k3, k5, lkC, okC⟩ := T.oex.cls
  obtain ⟨fI, fd, hi, ht, hbd, hF⟩ := T.init
  refine wpAny_Call_Name_kw (ld_glob J hg hm ?_ hdb)
  refine PySem.W.callWith_K (h₀ := X.base) J.ok.mod.kin T.oex.kC (thn (args.run pos ps0 s0 σ H _ J h) fun us s1 ⟨vs, H1, J1, r1, v, ev, q1⟩ => ⟨J1.kIn, ?_⟩) he hpl
  subst ev
  obtain ⟨hp, g, dr, tk, os⟩ := s1
  obtain ⟨n, hn⟩ : ∃ n, n = hp.objs.size + 1 := ⟨_, rfl⟩
  have hle : hp.objs.size ≤ n := by omega
  have fresh : H1 n = none := J1.hok.fresh hle
  obtain ⟨h2, eh2⟩ : ∃ h2, h2 = (hp.push (PySem.W.kdv_tup us)).push (PySem.HandSPX.excO C hp.objs.size) := ⟨_, rfl⟩
  have keep2 : ∀ b o, hp.get? b = some o → h2.get? b = some o := fun b o z => by rw [eh2]; exact Heap.get?_push_of_some _ (Heap.get?_push_of_some _ z)
  have at2 : h2.get? n = some (PySem.HandSPX.excO C hp.objs.size) := by rw [eh2, hn]; heap_get
  have J2 : Inv X ps0 σ (upd H1 n (exo n C none)) ⟨h2, g, dr, tk, os⟩ := J1.laid (t' := tk) (a := n) (o := exo n C none) (h' := h2) keep2 hle (exo_ok at2)
  have r2 : Vals [V.ref n, v] (Value.ref n :: us) := .cons rfl r1
  have l2 : (Value.ref n :: us).length = 2 := r2.length.symm
  have lus : us.length ≤ sizeLine := by
    have : us.length + 1 = 2 := l2
    rw [sizeLine_eq]
    omega
  have bind2 := hbd ⟨h2, g, dr, tk, os⟩ (Value.ref n :: us) J2.kIn (by rw [List.append_nil]; exact l2)
  rw [List.append_nil] at bind2
  have want : spInit C f [.ref n, v] (upd H1 n (exo n C none)) (fun u H2 => u = .non ∧ ∃ d, H2 = upd (upd (upd H1 n (exo n C none)) d (exd d [(f, v)])) n (exo n C (some d)) ∧ H1 d = none ∧ d ≠ n) (fun _ _ _ => False) :=
    ⟨n, v, rfl, upd_same, fun d hd ne => ⟨rfl, d, rfl, by rw [upd_ne ne] at hd; exact hd, ne⟩⟩
  show wpAny _ _ (call (.ref C) us) _ _ _
  refine wpAny_call (PySem.HandSPX.call_own FB (fun Y => PySem.W.excTail_contains Y bm okC) (J1.kIn _ _ lkC) (PySem.W.looks_findIn J1.kIn hi) (fun self => PySem.W.bind_fn J1.kIn self ht) lus ?_)
  rw [← eh2, ← hn]
  refine codeAny_mono ((hF X.prog X.w X.mg X.base).run _ X.stack _ _ ⟨Value.ref n :: us, []⟩ (Value.ref n :: us) _ _ (fun _ _ _ => False) (room.make C us []) (J2.env0.make C us []) bind2 r2 want) fun r s' z => ?_
  match r, z with
  | .error er, z => exact z.elim
  | .ok .next, z => exact z.elim
  | .ok .brk, z => exact z.elim
  | .ok .cont, z => exact z.elim
  | .ok (.ret u), z =>
    obtain ⟨u', H2, os2, bare2, un2, hok2, rv, eu, d, eH, fd1, dne⟩ := z
    subst eu
    obtain ⟨h3, g3, d3, t3, os3⟩ := s'
    have en : H2 n = some (exo n C (some d)) := by rw [eH]; exact upd_same
    have ed : H2 d = some (exd d [(f, v)]) := by rw [eH, upd_ne dne]; exact upd_same
    obtain ⟨t0, G, J3, kG, ge, hoe, na⟩ := mk_end0 (d2 := d3) (t2 := t3) J1 hle keep2 un2 hok2 os2 bare2 en ed fd1
    have same : upd (del H2 n) d (.xd [(f, v)]) = upd H1 d (.xd [(f, v)]) := by
      funext b
      by_cases hb : b = d
      · rw [hb, upd_same, upd_same]
      · rw [upd_ne hb, upd_ne hb]
        by_cases hbn : b = n
        · rw [hbn, del_same, fresh]
        · rw [del_ne hbn, eH, upd_ne hbn, upd_ne hb, upd_ne hbn]
    rw [same] at J3 na
    exact ⟨rv, n, _, _, ⟨G, g3, d3, t3, os3⟩, _, .ref C, some d, rfl, J3, kG, ge, hoe, ⟨rfl, rfl, fun vs e => by cases e; rfl⟩, rfl, rfl, na, rfl, bare2, raises_own T.oex.exC T.oex.tyC, q1 d fd1⟩
@[reducible] def dRaise (C : Addr) (f : Str) (fr : DTA) : DTS := fun _ ρ M => fr ρ M fun ds M1 => match ds with
  | [d] => ρ.x (.ref C) [(f, d)] ρ.v M1
  | _ => False
theorem ds_raise {x f : Str} {C : Addr} {p pos2 : Pos} (T : EcF X.K C f) (room : Room 2 X.A) (hm : X.mg x = some (.ref C)) (args : DA X [e] fr) (hc : X.calm = true := by rfl) (hg : Gl X x := by rfl) (hdb : (x == ("__debug__" : Str)) = false := by decide)
    (he : starEach [e] X.env = (false, eval e X.env) :: starEach [] X.env := by rfl) (hpl : (backTo pos (starEach [] X.env)).any (·.1) = false := by rfl) :
    DS X (.Raise (some (.Call (.Name x p) [e] [] pos)) none pos2) (dRaise C f fr) := by
  refine ⟨PS.of (L2N.ps_raise hc (takesW X) (pmk1 T room hg hm args.pa hdb he hpl)) fun E σ H ⟨ρ, M, al, F, G, W, es, q⟩ => ?_, fun D D' ρ M w q => args.mono _ _ _ _ (fun ds M1 q1 => q1) q⟩
  refine args.seq W es q fun ds M1 al1 F1 H1 vs q1 e1 W1 r1 s1 => ?_
  match ds, r1, q1 with
  | [d], .cons rd .nil, q1 =>
    refine ⟨_, rfl, fun q hq => ?_⟩
    obtain ⟨W2, e2⟩ := W1.newF (p := q) (o := .xd [(f, _)]) hq
    exact s1.xo (.ref C) [(f, d)] ρ.v M1 al1 _ _ (some q) σ e2 W2 (s1.sl.ext e2) (.inr ⟨q, [(f, _)], rfl, upd_same, rfl, show Rps _ _ _ [_] [d] from .cons (rd.ext e2) .nil⟩) q1
/-- an own class without __init__ -/
structure Ec0 (K : PySem.W.Frag) (C : Addr) : Prop where
  ex : ∃ (B newId initId : String) (bmB : List Value), ExcBaseFacts B newId initId bmB ∧ PySem.W.excIn K C bmB newId = true
  exC : PySem.W.subIn K (.ref C) (.type "BaseException") = some true
  tyC : PySem.W.typeIn K (.ref C) = some (.type "type")
  kC : PySem.W.keepIn K (.ref C) = true
theorem pmk0 {x : Str} {C : Addr} {p : Pos} (T : Ec0 X.K C) (hg : Gl X x) (gC : X.mg x = some (.ref C)) (hdb : (x == ("__debug__" : Str)) = false) : L2N.PMk X (.Call (.Name x p) [] [] pos) (fun _ H Q => Q (.ref C) none H) := by
  intro pins s σ H Q I h
  obtain ⟨B, newId, initId, bmB, FB, q⟩ := T.ex
  refine wpAny_Call_Name_kw (ld_glob I hg gC ?_ hdb)
  refine PySem.W.callWith_K0 (first := []) I.kIn T.kC ?_
  obtain ⟨bm, N, nm, qn, bs, hdct, sn, sub, ab, col, dd, k0, k1, k2, k3, k5, mN, hC, hN, hni, TT⟩ := exc_obj I.kIn q
  refine wpAny_call_exc_subT FB TT hC hN hni (fun h' e hm => ?_) (Nat.zero_le _)
  exact L2N.mk_of I hm (raises_own T.exC T.tyC) h (I.hok.gone hm.new)
@[reducible] def dRaise0 (C : Addr) : DTS := fun _ ρ M => ρ.x (.ref C) [] ρ.v M
theorem ds_raise0 {x : Str} {C : Addr} {p pos2 : Pos} (T : Ec0 X.K C) (hm : X.mg x = some (.ref C)) (hc : X.calm = true := by rfl) (hg : Gl X x := by rfl) (hdb : (x == ("__debug__" : Str)) = false := by decide) :
    DS X (.Raise (some (.Call (.Name x p) [] [] pos)) none pos2) (dRaise0 C) :=
  ⟨PS.of (L2N.ps_raise hc (takesW X) (pmk0 T hg hm hdb)) fun E σ H ⟨ρ, M, al, F, G, W, es, q⟩ => es.xo (.ref C) [] ρ.v M al F H none σ (Ext.refl _ _) W es.sl (.inl ⟨rfl, rfl⟩) q, fun D D' ρ M w q => q⟩
/-- a statement that is never reached -/
@[reducible] def dNever : DTS := fun _ _ _ => False
theorem ds_never {st : Stmt} : DS X st dNever := ⟨⟨fun pins s σ H D I ⟨_, _, _, _, _, _, _, q⟩ => q.elim⟩, fun _ _ _ _ _ q => q⟩
end

/-! ### try -/
theorem Sl.unset {K : PySem.W.Frag} {F : Hp} {al : List Addr} {σ : L2.St} {ρ : List (Option D)} (h : Sl K F al σ ρ) (i : Nat) : Sl K F al (σ.set i none) (ρ.set i none) := by
  refine ⟨by rw [List.length_set, List.length_set]; exact h.len, fun j e q => ?_⟩
  by_cases hj : i = j
  · subst hj
    by_cases hl : i < ρ.length
    · rw [List.getElem?_set_self hl] at q
      cases q
    · rw [List.getElem?_eq_none (by rw [List.length_set]; omega)] at q
      cases q
  · rw [List.getElem?_set_ne hj] at q
    obtain ⟨u, a, b⟩ := h.get j e q
    exact ⟨u, by rw [List.getElem?_set_ne hj]; exact a, b⟩
theorem zip_back {α β : Type} : ∀ l : List (α × β), (l.map (·.1)).zip (l.map (·.2)) = l
  | [] => rfl
  | (x, y) :: l => by
    show (x, y) :: (l.map (·.1)).zip (l.map (·.2)) = _
    rw [zip_back l]
theorem FldOk.rp {K : PySem.W.Frag} {F : Hp} {al : List Addr} {o : Option Addr} {fs : List (Str × D)} (h : FldOk K F al o fs) (a : Addr) (c : Value) : Rp K F al (.ref a) (.exo a c o (fs.map (·.1)) (fs.map (·.2))) := by
  rcases h with ⟨rfl, rfl⟩ | ⟨q, vs, rfl, h1, h2, h3⟩
  · exact .exo0 a c
  · refine .exo (xs := vs.map (·.2)) ?_ ?_ h3
    · rw [← h2, zip_back]
      exact h1
    · rw [← h2, List.length_map, List.length_map]
def LiftSN (K : PySem.W.Frag) (f : DTS) : TS := fun E σ H => ∃ ρ M al F G, Wd K al F G H M ∧ Sl K F al σ ρ.v ∧ ρ.x = noX ∧ f (kontS K al F G noX E) ρ M
theorem LiftSN.of {Y : Cx} {f : DTS} {E : Ends} {σ : L2.St} {H : Hp} (h : LiftSN Y.K f E σ H) : LiftS Y f E σ H := by
  obtain ⟨ρ, M, al, F, G, W, s, x, q⟩ := h
  exact ⟨ρ, M, al, F, G, W, Es.none s x, by rw [x]; exact q⟩
def XoW (K : PySem.W.Frag) (Wx : WX) (al : List Addr) (F G : Hp) (x : DXS) : Prop := ∀ c fs vs M' al' F' H' o σ', Ext al F al' F' → Wd K al' F' G H' M' → Sl K F' al' σ' vs → FldOk K F' al' o fs → x c fs vs M' → Wx c o σ' H'
def LiftSW (K : PySem.W.Frag) (f : DTS) (Wx : WX) : TS := fun E σ H => ∃ ρ M al F G, Wd K al F G H M ∧ Sl K F al σ ρ.v ∧ XoW K Wx al F G ρ.x ∧ f (kontS K al F G ρ.x E) ρ M
/-- the ends of a part whose wish of an exception is another one -/
@[reducible] def endsX (D : DEnds) (x : DXS) : DEnds := ⟨fun ρ M => D.nx ⟨ρ.v, x⟩ M, D.rt, fun ρ M => D.bk ⟨ρ.v, x⟩ M, fun ρ M => D.ct ⟨ρ.v, x⟩ M⟩
/-- .. behind which the slot i is empty -/
@[reducible] def endsU (i : Nat) (D : DEnds) (x : DXS) : DEnds := ⟨fun ρ M => D.nx ⟨ρ.v.set i none, x⟩ M, D.rt, fun ρ M => D.bk ⟨ρ.v.set i none, x⟩ M, fun ρ M => D.ct ⟨ρ.v.set i none, x⟩ M⟩
@[reducible] def dTryAs (K : PySem.W.Frag) (c : Value) (i : Nat) (fb : DTS) (fs : Addr → Value → Option Addr → DTS) : DTS := fun D ρ M =>
  ∃ x' : DXS, (∀ cls fl vs M', x' cls fl vs M' → ∃ b, PySem.W.exmOne K cls c = some b ∧ (b = true → ∀ a o, fs a cls o (endsU i D ρ.x) ⟨vs.set i (some (.exo a cls o (fl.map (·.1)) (fl.map (·.2)))), noX⟩ M') ∧ (b = false → ρ.x cls fl vs M')) ∧ fb (endsX D ρ.x) ⟨ρ.v, x'⟩ M
section
variable {X : Cx} {pos : Pos}
theorem ds_tryAs {x n : Str} {c : Value} (i : Nat) {body suite : List Stmt} {b0 : Stmt} {np pos' : Pos} {fb : DTS} {fs : Addr → Value → Option Addr → DTS} (hN : X.N.Nodup) (hc : X.mg x = some c)
    (hb : ∀ (pn : List (Addr × Obj)) (xe : Value → Shared → Prop), PassesOwn (model X.prog X.w) X.A X.env xe → DSs (X.tr pn xe) body fb)
    (hsu : ∀ (a : Addr) (oe : Obj) (cls : Value) (d : Option Addr) (pn : List (Addr × Obj)), L2N.Zn cls d oe → (∃ vs, oe.data = .fields vs) → DSs (X.suite a ((a, oe) :: pn)) (b0 :: suite) (fs a cls d))
    (hs : X.stack = X.env :: X.outer := by rfl) (hf : X.env.frame = some X.env.locals := by rfl) (hi : X.N[i]? = some n := by rfl) (hln : X.env.kindOf n = some .local := by rfl) (hg : Gl X x := by rfl) (hdb : (x == ("__debug__" : Str)) = false := by decide) :
    DS X (.Try body [.ExceptHandler (some (.Name x np)) (some n) (b0 :: suite) pos'] [] [] pos) (dTryAs X.K c i fb fs) := by
  have mf : ∀ a cls d, MonoS (fs a cls d) := fun a cls d => (hsu a { cls := cls, dict := d, data := .fields #[.none, .none, .none] } cls d [] ⟨rfl, rfl, fun vs e => by cases e; rfl⟩ ⟨_, rfl⟩).mono
  have mb : MonoS fb := (hb [] (fun _ _ => False) PassesOwn.never).mono
  refine ⟨PS.of (L2N.ps_try_as (i := i) (tb := LiftSW X.K fb) (ts := fun a cls d => LiftSN X.K (fs a cls d)) hs hf hN hi hln ⟨hg, hdb, .inl hc⟩ (takesW X) (fun Wx pn xe tk po => PSs.of (hb pn xe po).ps fun E σ H ⟨ρ, M, al, F, G, W, s, xo, q⟩ => ?_) (fun a oe cls d pn hz hd => PSs.of (hsu a oe cls d pn hz hd).ps fun E σ H h => LiftSN.of h)) ?_, fun D D' ρ M w q => ?_⟩
  · exact ⟨ρ, M, al, F, G, W, ⟨s, fun c' fl vs M' al' F' H' o σ' e' W' s' f' z => W0.of tk (xo c' fl vs M' al' F' H' o σ' e' W' s' f' z)⟩, q⟩
  · rintro E σ H ⟨ρ, M, al, F, G, W, es, x', hx, q⟩
    refine ⟨⟨ρ.v, x'⟩, M, al, F, G, W, es.sl, ?_, MonoS.up mb q ⟨fun ρ1 M1 k al1 F1 H1 σ1 e1 W1 s1 _ => ?_, fun d M1 k => k, fun ρ1 M1 k al1 F1 H1 σ1 e1 W1 s1 _ => ?_, fun ρ1 M1 k al1 F1 H1 σ1 e1 W1 s1 _ => ?_⟩⟩
    rotate_left
    · exact (show kN X.K al F G ρ.x E.nx ⟨ρ1.v, ρ.x⟩ M1 from k) al1 F1 H1 σ1 e1 W1 s1 rfl
    · exact (show kN X.K al F G ρ.x E.bk ⟨ρ1.v, ρ.x⟩ M1 from k) al1 F1 H1 σ1 e1 W1 s1 rfl
    · exact (show kN X.K al F G ρ.x E.ct ⟨ρ1.v, ρ.x⟩ M1 from k) al1 F1 H1 σ1 e1 W1 s1 rfl
    intro cls fl vs M' al' F' H' o σ' e' W' s' f' z
    obtain ⟨b, hb1, yes, no⟩ := hx cls fl vs M' z
    refine ⟨b, hb1, fun eb a na => ?_, fun eb => es.xo cls fl vs M' al' F' H' o σ' e' W' s' f' (no eb)⟩
    refine ⟨⟨vs.set i (some (.exo a cls o (fl.map (·.1)) (fl.map (·.2)))), noX⟩, M', al', F', G, W', s'.set (f'.rp a cls) i, rfl, MonoS.up (mf a cls o) (yes eb a o) ⟨fun ρ1 M1 k al1 F1 H1 σ1 e1 W1 s1 _ => ?_, fun d M1 k => kont.ext k e', fun ρ1 M1 k al1 F1 H1 σ1 e1 W1 s1 _ => ?_, fun ρ1 M1 k al1 F1 H1 σ1 e1 W1 s1 _ => ?_⟩⟩
    · exact (show kN X.K al F G ρ.x E.nx ⟨ρ1.v.set i none, ρ.x⟩ M1 from k) al1 F1 H1 _ (e'.trans e1) W1 (s1.unset i) rfl
    · exact (show kN X.K al F G ρ.x E.bk ⟨ρ1.v.set i none, ρ.x⟩ M1 from k) al1 F1 H1 _ (e'.trans e1) W1 (s1.unset i) rfl
    · exact (show kN X.K al F G ρ.x E.ct ⟨ρ1.v.set i none, ρ.x⟩ M1 from k) al1 F1 H1 _ (e'.trans e1) W1 (s1.unset i) rfl
  · obtain ⟨x', hx, q⟩ := q
    refine ⟨x', fun cls fl vs M' z => ?_, mb (endsX D ρ.x) (endsX D' ρ.x) _ _ ⟨fun _ _ k => w.nx _ _ k, w.rt, fun _ _ k => w.bk _ _ k, fun _ _ k => w.ct _ _ k⟩ q⟩
    obtain ⟨b, hb1, yes, no⟩ := hx cls fl vs M' z
    exact ⟨b, hb1, fun eb a o => mf a cls o (endsU i D ρ.x) (endsU i D' ρ.x) _ _ ⟨fun _ _ k => w.nx _ _ k, w.rt, fun _ _ k => w.bk _ _ k, fun _ _ k => w.ct _ _ k⟩ (yes eb a o), no⟩
end
end DL

set_option maxHeartbeats 2000000
/-! DLY: the handled exception: its field, isinstance of it, defs that are called with it. -/
namespace DL
open PySem PySem.Spec PyProof.Rows L2

theorem kit_own {K : PySem.W.Frag} {R x : Addr} {b : Bool} (h1 : PySem.W.isClsIn K x = true) (h2 : PySem.W.typeIn K (.ref x) = some (.type "type")) (h3 : PySem.W.subIn K (.ref R) (.ref x) = some b) (h4 : PySem.W.subIn K (.ref R) (.ref R) = some true) : PySem.W.kitOne K (.ref R) (.ref x) = some b := by
  unfold PySem.W.kitOne
  by_cases h : R = x
  · subst h
    rw [h4] at h3
    cases h3
    rw [if_pos (by simp)]
  · rw [if_neg (by simpa using h)]
    show (if ((PySem.W.clsIn K x).isSome && PySem.W.typeIn K (.ref x) == some (.type "type")) = true then PySem.W.subIn K (.ref R) (.ref x) else none) = some b
    rw [if_pos (by rw [show (PySem.W.clsIn K x).isSome = true from h1, h2]; rfl)]
    exact h3
theorem kit_blt {K : PySem.W.Frag} {R : Addr} {T : String} {b : Bool} (hm : PySem.W.kitMeta T = true) (h3 : PySem.W.subIn K (.ref R) (.type T) = some b) : PySem.W.kitOne K (.ref R) (.type T) = some b := by
  unfold PySem.W.kitOne
  rw [if_neg (by simp)]
  show (if PySem.W.kitMeta T = true then PySem.W.subIn K (.ref R) (.type T) else none) = some b
  rw [if_pos hm]
  exact h3
theorem exm_own {K : PySem.W.Frag} {R x : Addr} {b : Bool} (h0 : PySem.W.subIn K (.ref x) (.type "BaseException") = some true) (h1 : PySem.W.isClsIn K x = true) (h2 : PySem.W.typeIn K (.ref x) = some (.type "type")) (h3 : PySem.W.subIn K (.ref R) (.ref x) = some b) : PySem.W.exmOne K (.ref R) (.ref x) = some b := by
  show (if (PySem.W.subIn K (.ref x) (.type "BaseException") == some true) = true then (if ((PySem.W.clsIn K x).isSome && PySem.W.typeIn K (.ref x) == some (.type "type")) = true then PySem.W.subIn K (.ref R) (.ref x) else none) else none) = some b
  rw [if_pos (by rw [h0]; rfl), if_pos (by rw [show (PySem.W.clsIn K x).isSome = true from h1, h2]; rfl)]
  exact h3
theorem kit_nil {K : PySem.W.Frag} {t : Value} : PySem.W.kitAny K t [] = some false := rfl
theorem kit_yes {K : PySem.W.Frag} {t c : Value} {cs : List Value} (h : PySem.W.kitOne K t c = some true) : PySem.W.kitAny K t (c :: cs) = some true := by unfold PySem.W.kitAny; rw [h]
theorem kit_no {K : PySem.W.Frag} {t c : Value} {cs : List Value} {b : Bool} (h : PySem.W.kitOne K t c = some false) (r : PySem.W.kitAny K t cs = some b) : PySem.W.kitAny K t (c :: cs) = some b := by unfold PySem.W.kitAny; rw [h]; exact r
/-- what an exception class must say, so that isinstance asks its instances rightly, and its fields are read -/
structure ExI (K : PySem.W.Frag) (C : Addr) : Prop where
  ga : PySem.W.findIn K (.ref C) "__getattribute__" = some (some (.builtin "BaseException.__getattribute__"))
  gg : PySem.W.findIn K (.ref C) "__getattr__" = some none
  ex : PySem.W.subIn K (.ref C) (.type "BaseException") = some true
  hd : PySem.W.hasDictIn K C = true
  cl : PySem.W.findIn K (.ref C) "__class__" = some (some (.builtin "object.__class__"))
  gs : PySem.W.specialIn K (.builtin "object.__class__") "__get__" = some (some (.builtin "getset_descriptor.__get__"))
  tk : PySem.W.takesIn K (.builtin "object.__class__") = some true
  ob : PySem.W.mroIn K C (.type "object") = some true
theorem ExI.is {K : PySem.W.Frag} {C : Addr} (h : ExI K C) : (PySem.W.clsIn K C).isSome = true := by
  have hd := h.hd
  unfold PySem.W.hasDictIn at hd
  cases e : PySem.W.clsIn K C with
  | none => rw [e] at hd; cases hd
  | some c => rfl
/-- the exception at a is handled: its object is pinned -/
structure Pin (Y : Cx) (a : Addr) (cls : Value) (d : Option Addr) : Prop where
  ex : ∃ oe : Obj, (a, oe) ∈ Y.pn ∧ L2N.Zn cls d oe ∧ ∃ vs, oe.data = .fields vs
def DictAt (H : Hp) : Option Addr → Prop
  | none => True
  | some q => ∃ fs, H q = some (.xd fs)
theorem Pin.inst {Y : Cx} {a C : Addr} {d : Option Addr} (p : Pin Y a (.ref C) d) {pins : List (Addr × Obj)} {σ : L2.St} {H : Hp} {s : Shared} (I : Inv Y pins σ H s) (hd : DictAt H d) : ∃ oe od, PySem.W.InstAt s.heap a oe C od := by
  obtain ⟨oe, hp, hz, vs, hv⟩ := p.ex
  obtain ⟨hg, _⟩ := I.pin (a, oe) (List.mem_append_left _ hp)
  have nc : PySem.W.notCls oe = true := by unfold PySem.W.notCls; rw [hv] <;> rfl
  cases d with
  | none => exact ⟨oe, none, hg, hz.1, nc, by rw [hz.2.1]; trivial⟩
  | some q =>
    obtain ⟨fs, hq⟩ := hd
    obtain ⟨u, hu⟩ := objOk_get (I.hok q _ hq)
    exact ⟨oe, some u, hg, hz.1, nc, by rw [hz.2.1]; exact hu⟩
theorem Pin.kit {Y : Cx} {a C : Addr} {d : Option Addr} (p : Pin Y a (.ref C) d) (T : ExI Y.K C) {pins : List (Addr × Obj)} {σ : L2.St} {H : Hp} {s : Shared} (I : Inv Y pins σ H s) (hd : DictAt H d) : ∃ Z : Heap → Prop, PySem.W.KitX Y.K (.ref a) (.ref C) Z ∧ Z s.heap := by
  obtain ⟨oe, od, J⟩ := p.inst I hd
  exact ⟨_, PySem.W.kitx_exc T.is T.ga T.gg T.ex T.cl T.gs T.tk T.ob, J⟩
/-- isinstance(e, c) and isinstance(e, (c, ..)), by the classes' values -/
def rIsX (K : PySem.W.Frag) (a : Addr) (cls : Value) (d : Option Addr) : List V → Hp → VK → Prop := fun xs H Q => ∃ (C : Addr) (c : V) (b : Bool), xs = [.ref a, c] ∧ cls = .ref C ∧ ExI K C ∧ DictAt H d ∧ Q (.bl b) H ∧
  ((∃ cv, ClsV c cv ∧ PySem.W.kitOne K cls cv = some b) ∨ ∃ tp cs ws, c = .ref tp ∧ H tp = some (.tup cs) ∧ Paired ClsV cs ws ∧ PySem.W.kitAny K cls ws = some b)
theorem call_isX {Y : Cx} {a : Addr} {cls : Value} {d : Option Addr} (p : Pin Y a cls d) : CallR Y (.builtin "isinstance") (rIsX Y.K a cls d) := by
  intro pins s σ H xs us Q I r h
  obtain ⟨C, c, b, rfl, rfl, T, hd, q, h⟩ := h
  obtain ⟨u1, u2, rfl, r1, r2⟩ := vals2 r
  cases (show u1 = Value.ref a from r1)
  obtain ⟨Z, kz, hz⟩ := p.kit T I hd
  rcases h with ⟨cv, k, e⟩ | ⟨tp, cs, ws, rfl, hT, k, e⟩
  · cases k.eq r2
    exact PySem.W.kia_one kz I.kIn hz e (fun z => nomatch z) fun tk => ⟨.bl b, H, I.tok tk, rfl, q⟩
  · cases (show u2 = Value.ref tp from r2)
    obtain ⟨_, its, rv, o, h1, h2, n, h3⟩ := (show ObjOk Y.prog Y.w H s.heap tp (.tup cs) from I.hok tp _ hT)
    have e3 := ClsV.all k rv
    subst e3
    obtain ⟨oc, od, dt, sl⟩ := o
    simp only at h2 h3
    subst h2
    subst h3
    exact PySem.W.kia_tup kz I.kIn hz h1 e (fun z => nomatch z) fun tk => ⟨.bl b, H, I.tok tk, rfl, q⟩
/-- an expression that names a class -/
def NmC (Y : Cx) (e : Expr) (cv : Value) : Prop := ∃ v, PE Y e (tC v) ∧ ClsV v cv
theorem nm_own {Y : Cx} {x : Str} {C : Addr} {pos : Pos} (hm : Y.mg x = some (.ref C)) (hg : Gl Y x := by rfl) (hd : (x == ("__debug__" : Str)) = false := by decide) : NmC Y (.Name x pos) (.ref C) := ⟨.ref C, pe_glob hg hm rfl hd, .own C⟩
theorem nm_blt {Y : Cx} {x : Str} {T : String} {pos : Pos} (hm : Y.mg x = none) (hv : bootBuiltins x = some (.type T)) (hg : Gl Y x := by rfl) (hn : x ≠ "__name__" := by decide) (hd : (x == ("__debug__" : Str)) = false := by decide) : NmC Y (.Name x pos) (.type T) := ⟨.ty T, pe_bltn hg hm hv rfl hn hd, .ty T⟩
inductive NmCs (Y : Cx) : List Expr → List Value → Prop
  | nil : NmCs Y [] []
  | cons {e : Expr} {es : List Expr} {c : Value} {cs : List Value} : NmC Y e c → (starEach (e :: es) Y.env = (false, eval e Y.env) :: starEach es Y.env) → NmCs Y es cs → NmCs Y (e :: es) (c :: cs)
theorem nms_cons {Y : Cx} {e : Expr} {es : List Expr} {c : Value} {cs : List Value} (h : NmC Y e c) (r : NmCs Y es cs) (hs : starEach (e :: es) Y.env = (false, eval e Y.env) :: starEach es Y.env := by rfl) : NmCs Y (e :: es) (c :: cs) := .cons h hs r
theorem NmCs.pa {Y : Cx} : ∀ {es : List Expr} {cs : List Value}, NmCs Y es cs → ∃ vs t, PA Y es t ∧ Paired ClsV vs cs ∧ ∀ σ H (Q : List V → Hp → Prop), Q vs H → t σ H Q
  | _, _, .nil => ⟨[], _, pa_nil, .nil, fun _ _ _ q => q⟩
  | _, _, .cons ⟨v, hv, k⟩ hs r => by
    obtain ⟨vs, t, ht, kk, w⟩ := r.pa
    exact ⟨v :: vs, _, pa_cons hv ht hs, .cons k kk, fun σ H Q q => w σ H _ q⟩
theorem Paired.len {α β : Type} {R : α → β → Prop} : ∀ {xs : List α} {ys : List β}, Paired R xs ys → xs.length = ys.length
  | _, _, .nil => rfl
  | _, _, .cons _ r => by rw [List.length_cons, List.length_cons, Paired.len r]
section
variable {Y : Cx} {e : Expr} {fe : DTE} {pos : Pos} {a : Addr} {cls : Value} {d : Option Addr}
@[reducible] def dIsX (K : PySem.W.Frag) (a : Addr) (cls : Value) (d : Option Addr) (cs : List Value) (fe : DTE) : DTE := fun ρ M Q => fe ρ M fun x M1 => match x with
  | .exo a' _ d' _ _ => a' = a ∧ d' = d ∧ ∃ C b, cls = .ref C ∧ ExI K C ∧ PySem.W.kitAny K cls cs = some b ∧ Q (.bl b) M1
  | _ => False
theorem dIsX_mono {K : PySem.W.Frag} {cs : List Value} (h : DE Y e fe) : ∀ ρ M (Q Q' : DK), (∀ d M, Q d M → Q' d M) → dIsX K a cls d cs fe ρ M Q → dIsX K a cls d cs fe ρ M Q' := fun ρ M Q Q' w q => h.mono _ _ _ _ (fun x M1 q1 => by
  cases x with
  | exo a' c' d' ks ds =>
    obtain ⟨h1, h2, C, b, h3, h4, h5, k⟩ := q1
    exact ⟨h1, h2, C, b, h3, h4, h5, w _ _ k⟩
  | _ => exact q1.elim) q
theorem exo_dict {K : PySem.W.Frag} {F G H : Hp} {al : List Addr} {M : Sto} {v : V} {a' : Addr} {c' : Value} {d' : Option Addr} {ks : List Str} {ds : List D} (W : Wd K al F G H M) (r : Rp K F al v (.exo a' c' d' ks ds)) : v = .ref a' ∧ DictAt H d' := by
  cases r with
  | exo0 => exact ⟨rfl, trivial⟩
  | exo h l rs => exact ⟨rfl, _, W.sm _ _ h⟩
theorem d_isX {p p2 : Pos} {cs : List Expr} {cvs : List Value} {k : Nat} (hp : Pin Y a cls d) (hm : Y.mg "isinstance" = none) (h : DE Y e fe) (hc : NmCs Y cs cvs) (hl : cvs.length ≤ 1000) (hg : Gl Y "isinstance" := by rfl)
    (hs : starEach [e, .Tuple cs k p2] Y.env = (false, eval e Y.env) :: starEach [.Tuple cs k p2] Y.env := by rfl) (hs2 : starEach [.Tuple cs k p2] Y.env = (false, eval (.Tuple cs k p2) Y.env) :: starEach [] Y.env := by rfl) (hpl : (backTo pos (starEach [.Tuple cs k p2] Y.env)).any (·.1) = false := by rfl) :
    DE Y (.Call (.Name "isinstance" p) [e, .Tuple cs k p2] [] pos) (dIsX Y.K a cls d cvs fe) := by
  obtain ⟨vs, t, ht, kk, w⟩ := hc.pa
  refine ⟨PE.of (pe_callB (call_isX hp) hg hm (by decide +kernel) (pa_cons h.pe (pa_cons (pe_tup ht) pa_nil hs2) hs) (by decide) (by decide) hs hpl) fun σ H Q ⟨ρ, M, al, F, G, W, s, q⟩ => ?_, dIsX_mono h⟩
  refine h.seq W s q fun x M1 al1 F1 H1 v q1 e1 W1 r1 s1 => ?_
  cases x with
  | exo a' c' d' ks ds =>
    obtain ⟨rfl, rfl, C, b, rfl, T, hk, q1⟩ := q1
    obtain ⟨rfl, hd⟩ := exo_dict W1 r1
    refine w σ H1 _ ⟨by rw [Paired.len kk]; exact Nat.le_trans hl (by decide), fun tp htp => ?_⟩
    obtain ⟨W2, e2⟩ := W1.newF (p := tp) (o := .tup vs) htp
    obtain ⟨_, hd2⟩ := exo_dict W2 (r1.ext e2)
    exact ⟨C, .ref tp, b, rfl, rfl, T, hd2, q1 al1 _ _ _ (e1.trans e2) W2 (.bl b), .inr ⟨tp, vs, cvs, rfl, upd_same, kk, hk⟩⟩
  | _ => exact q1.elim
theorem d_isX1 {p : Pos} {c : Expr} {cv : Value} (hp : Pin Y a cls d) (hm : Y.mg "isinstance" = none) (h : DE Y e fe) (hc : NmC Y c cv) (hg : Gl Y "isinstance" := by rfl)
    (hs : starEach [e, c] Y.env = (false, eval e Y.env) :: starEach [c] Y.env := by rfl) (hs2 : starEach [c] Y.env = (false, eval c Y.env) :: starEach [] Y.env := by rfl) (hpl : (backTo pos (starEach [c] Y.env)).any (·.1) = false := by rfl) :
    DE Y (.Call (.Name "isinstance" p) [e, c] [] pos) (dIsX Y.K a cls d [cv] fe) := by
  obtain ⟨v, hv, kc⟩ := hc
  refine ⟨PE.of (pe_callB (call_isX hp) hg hm (by decide +kernel) (pa_cons h.pe (pa_cons hv pa_nil hs2) hs) (by decide) (by decide) hs hpl) fun σ H Q ⟨ρ, M, al, F, G, W, s, q⟩ => ?_, dIsX_mono h⟩
  refine h.seq W s q fun x M1 al1 F1 H1 v q1 e1 W1 r1 s1 => ?_
  cases x with
  | exo a' c' d' ks ds =>
    obtain ⟨rfl, rfl, C, b, rfl, T, hk, q1⟩ := q1
    obtain ⟨rfl, hd⟩ := exo_dict W1 r1
    have hk1 : PySem.W.kitOne Y.K (.ref C) cv = some b := by
      unfold PySem.W.kitAny at hk
      split at hk
      · next e => rw [e]; exact hk
      · next e => rw [e]; exact hk
      · cases hk
    exact ⟨C, _, b, rfl, rfl, T, hd, q1 al1 F1 H1 _ e1 W1 (.bl b), .inl ⟨cv, kc, hk1⟩⟩
  | _ => exact q1.elim
/-- e.f of the handled exception -/
@[reducible] def dFldX (K : PySem.W.Frag) (a : Addr) (cls : Value) (d : Option Addr) (n : Str) (fe : DTE) : DTE := fun ρ M Q => fe ρ M fun x M1 => match x with
  | .exo a' _ d' ks ds => a' = a ∧ d' = d ∧ ∃ C v, cls = .ref C ∧ ExI K C ∧ PySem.W.findIn K (.ref C) n = some none ∧ (ks.zip ds).lookup n = some v ∧ Q v M1
  | _ => False
theorem look_rps {K : PySem.W.Frag} {F : Hp} {al : List Addr} (n : Str) : ∀ {ks : List Str} {xs : List V} {ds : List D} {v : D}, Rps K F al xs ds → (ks.zip ds).lookup n = some v → ∃ u, (ks.zip xs).lookup n = some u ∧ Rp K F al u v
  | [], _, _, _, _, h => by cases h
  | k :: ks, _, [], _, _, h => by cases h
  | k :: ks, _, d :: ds, v, .cons r rs, h => by
    rw [List.zip_cons_cons, List.lookup_cons] at h
    rw [List.zip_cons_cons, List.lookup_cons]
    split at h
    · next e => cases h; exact ⟨_, rfl, r⟩
    · next e =>
      obtain ⟨u, h1, h2⟩ := look_rps n rs h
      exact ⟨u, h1, h2⟩
theorem d_fldX {n : Str} (hp : Pin Y a cls d) (h : DE Y e fe) (hb : attributeBase e n Y.env (eval e Y.env) = eval e Y.env := by rfl) : DE Y (.Attribute e n pos) (dFldX Y.K a cls d n fe) := by
  refine ⟨⟨fun pins s σ H Q I ⟨ρ, M, al, F, G, W, es, q⟩ => ?_⟩, fun ρ M Q Q' w q => h.mono _ _ _ _ (fun x M1 q1 => ?_) q⟩
  · have hl : Lift Y fe σ H (fun v H1 => ∃ (C q : Addr) (fs : List (Str × V)) (u : V), v = .ref a ∧ cls = .ref C ∧ d = some q ∧ ExI Y.K C ∧ PySem.W.findIn Y.K (.ref C) n = some none ∧ H1 q = some (.xd fs) ∧ fs.lookup n = some u ∧ Q u H1) := by
      refine h.seq W es q fun x M1 al1 F1 H1 v q1 e1 W1 r1 s1 => ?_
      cases x with
      | exo a' c' d' ks ds =>
        obtain ⟨rfl, rfl, C, v', rfl, T, no, hlk, q1⟩ := q1
        cases r1 with
        | exo0 => cases hlk
        | exo hF hlen rs =>
          obtain ⟨u, hu, ru⟩ := look_rps n rs hlk
          exact ⟨C, _, _, u, rfl, rfl, rfl, T, no, W1.sm _ _ hF, hu, q1 al1 F1 H1 u e1 W1 ru⟩
      | _ => exact q1.elim
    refine attr_of hb (thn (h.pe.run pins s σ H _ I hl) fun u s1 ⟨x, H1, I1, rx, C, qa, fs, v, ex, ec, ed, T, no, hq, hv, k⟩ => ?_)
    subst ex
    subst ec
    subst ed
    cases (show u = Value.ref a from rx)
    obtain ⟨oe, hpn, hz, vs, hvs⟩ := hp.ex
    obtain ⟨hget, _⟩ := I1.pin (a, oe) (List.mem_append_left _ hpn)
    obtain ⟨mA, hns, hrel⟩ := (show ObjOk Y.prog Y.w H1 s1.heap qa (.xd fs) from I1.hok qa _ hq)
    obtain ⟨od, ho, hlo⟩ := lookIn_ns hns
    obtain ⟨u', hu', ru'⟩ := RelO.some_of (v := v) (o := mA n) (by rw [← hv]; exact hrel n)
    have J : PySem.W.InstAt s1.heap a oe C (some od) := ⟨hget, hz.1, by unfold PySem.W.notCls; rw [hvs] <;> rfl, by rw [hz.2.1]; exact ho⟩
    exact HandSPX.exc_get I1.kIn J T.ga T.gg T.ex (PySem.W.findObj_own T.hd no rfl (by rw [hlo, hu'])) (handed_of ru') ⟨v, H1, I1.tok _, ru', k⟩
  · cases x with
    | exo a' c' d' ks ds =>
      obtain ⟨h1, h2, C, v, h3, h4, h5, h6, k⟩ := q1
      exact ⟨h1, h2, C, v, h3, h4, h5, h6, w _ _ k⟩
    | _ => exact q1.elim
end
theorem pin_suite {X : Cx} {a : Addr} {oe : Obj} {cls : Value} {d : Option Addr} {pn : List (Addr × Obj)} (hz : L2N.Zn cls d oe) (hf : ∃ vs, oe.data = .fields vs) : Pin (X.suite a ((a, oe) :: pn)) a cls d := ⟨⟨oe, List.mem_cons_self .., hz, hf⟩⟩
end DL

set_option maxHeartbeats 2000000
/-! DLZ: defs that are called inside an except suite, with the handled exception. -/
namespace DL
open PySem PySem.Spec PyProof.Rows L2
open L2H (RoomH Hot1 PinOk cxH inv_startH)

theorem room_hot {k : Nat} {A : Around} {h : Option Value} (r : Room k A) : RoomH k (A.mark h) := ⟨r.dp, r.un⟩
/-- a def keeps its promise while the exception at p is handled -/
structure FnE (P : Program) (w : World) (K : PySem.W.Frag) (mg : Str → Option Value) (base : Heap) (CX : CXT) (k : Nat) (f : Addr) (fd : FuncData) (ps : List Str) (sp : Addr → Value → Option Addr → Sp) : Prop where
  len : ∀ a c d vs H Q E, sp a c d vs H Q E → vs.length = ps.length
  run : ∀ (A : Around) (outer : List Env) (s : Shared) (H : Hp) (args : Args) (us : List Value) (vs : List V) (Q : VK) (E : XK) (p : Addr × Obj) (c : Value) (d : Option Addr), A.guards = some [] → RoomH k A → Hot1 A p → L2N.Zn c d p.2 → PinOk outer H s p → Env0 P w K mg base A outer s H →
    BindsTo s fd args (ps.zip us) → Vals vs us → sp p.1 c d vs H Q E → codeAny (model P w) A (Code.call (Value.ref f) args) (CR CX outer P w H s Q E) s
section
variable {P : Program} {w : World} {K : PySem.W.Frag} {mg : Str → Option Value} {base : Heap}
theorem fnE_of {CX : CXT} {k : Nat} {f : Addr} {x qual : Str} {st : Stmt} {fd : FuncData} {N ps : List Str} {sp : Addr → Value → Option Addr → Sp} (F : Fun K x qual st f fd) (S : FnScope N ps (defScope st)) (len : ∀ a c d vs H Q E, sp a c d vs H Q E → vs.length = ps.length)
    (body : ∀ (cdv : Value) (A : Around) (outer : List Env) (s : Shared) (H : Hp) (vs : List V) (Q : VK) (E : XK) (p : Addr × Obj) (c : Value) (d : Option Addr), (A.deeper (envOfC qual (defScope st) s.heap.objs.size f cdv)).guards = some [] → RoomH k (A.deeper (envOfC qual (defScope st) s.heap.objs.size f cdv)) → Hot1 A p → L2N.Zn c d p.2 → sp p.1 c d vs H Q E →
      ∃ t, PSs (cxH CX P w K mg base N qual (defScope st) f cdv A outer s H E p) (defBody st) t ∧ t { nx := fun _ H' => Q .non H', rt := Q } (L2.start N vs) H) : FnE P w K mg base CX (k + 1) f fd ps sp := by
  obtain ⟨oc, od, kV, doc, pm, an, cdv, ct, osl, rfl, lk, hcd⟩ := F.ex
  refine ⟨len, fun A outer s H args us vs Q E p c d hgd hr hot hz hpin e0 hbi rv hsp => ?_⟩
  have KI : K.In s.heap := e0.mod.kin.keeps fun b o e => (e0.bs b o e).1
  have nolim : s.heap.NoLimit := e0.mod.nolimit.keeps fun b o e => (e0.bs b o e).1
  have kinds : ∀ y ∈ ps.zip us, (defScope st).names.lookup y.1 = some .local ∨ ((defScope st).names.lookup y.1 = some .cell ∧ ((cellsFrom (s.heap.objs.size + 1) (defScope st).names []).lookup y.1).isSome = true) := by
    rintro ⟨n, v⟩ hy
    exact (S.par n (List.of_mem_zip hy).1).imp id fun q => ⟨q, PySem.W.cellsFrom_some _ _ _ (.inl q)⟩
  refine codeAny_call_function hr.depth (KI _ _ lk) rfl S.co S.gen rfl (PySem.W.codeRec_of KI hcd) (hbi _ _ _ _ (wpAny_newFunctionEnv_cells S.kind kinds fun env henv s1 ic => ?_))
  subst henv
  refine ⟨nolim.keeps ic.toInCall.keep, codeAny_func ?_⟩
  obtain ⟨t, pt, tq⟩ := body cdv A outer s H vs Q E p c d hgd (hr.deeper _) hot hz hsp
  have J0 : Inv (cxH CX P w K mg base N qual (defScope st) f cdv A outer s H E p) [] (L2.start N vs) H s1 := inv_startH S hpin e0 (len _ _ _ _ _ _ _ hsp) rv ic
  refine wpAny_mono (pt.run [] s1 (L2.start N vs) H _ J0 tq) (fun fl s' z => ?_) fun _ _ z => z
  cases fl with
  | ret u => obtain ⟨v, σ', H', J, r, q⟩ := z; exact ⟨v, H', J.os, J.bare, J.base, J.hok, r, q⟩
  | next => obtain ⟨σ', H', J, q⟩ := z; exact ⟨V.non, H', J.os, J.bare, J.base, J.hok, rfl, q⟩
  | brk => obtain ⟨_, _, _, q⟩ := z; exact q.elim
  | cont => obtain ⟨_, _, _, q⟩ := z; exact q.elim
abbrev DSpE := Addr → Value → Option Addr → DSp
abbrev cxE (P : Program) (w : World) (K : PySem.W.Frag) (mg : Str → Option Value) (base : Heap) (N : List Str) (qual : Str) (st : Stmt) (f : Addr) (cdv : Value) (A : Around) (outer : List Env) (s : Shared) (H : Hp) (E : XK) (p : Addr × Obj) : Cx :=
  cxH (L2N.CX P w) P w K mg base N qual (defScope st) f cdv A outer s H E p
theorem fnDE {k : Nat} {f : Addr} {x qual : Str} {st : Stmt} {fd : FuncData} {N ps : List Str} {ds : DSpE} (F : Fun K x qual st f fd) (S : FnScope N ps (defScope st)) (len : ∀ a c d args M Q E, ds a c d args M Q E → args.length = ps.length)
    (body : ∀ (cdv : Value) (A : Around) (outer : List Env) (s : Shared) (H : Hp) (E : XK) (p : Addr × Obj) (c : Value) (d : Option Addr), (cxE P w K mg base N qual st f cdv A outer s H E p).A.guards = some [] → RoomH k (cxE P w K mg base N qual st f cdv A outer s H E p).A → Pin (cxE P w K mg base N qual st f cdv A outer s H E p) p.1 c d →
      ∃ fb, DSs (cxE P w K mg base N qual st f cdv A outer s H E p) (defBody st) fb ∧ ∀ args M Q E', stoBel M.length M → bels M.length args = true → ds p.1 c d args M Q E' → fb { nx := fun _ M' => See M.length Q .non M', rt := See M.length Q } ⟨startD N args, noX⟩ M) :
    FnE P w K mg base (L2N.CX P w) (k + 1) f fd ps (fun a c d => spOf K (ds a c d)) := by
  refine fnE_of F S (fun a c d vs H Q E ⟨args, M, al, F, G, W, r, q⟩ => r.length.trans (len _ _ _ _ _ _ _ q)) fun cdv A outer s H vs Q E p c d hgd hr hot hz ⟨args, M, al, F, G, W, r, q⟩ => ?_
  obtain ⟨_, vs0, hv0, _⟩ := hot
  obtain ⟨fb, pb, h⟩ := body cdv A outer s H E p c d hgd hr ⟨⟨p.2, List.mem_singleton.mpr rfl, hz, _, hv0⟩⟩
  have W0' : al.length = M.length := W.len
  have hb := r.bels
  rw [W0'] at hb
  refine ⟨_, pb.ps, ⟨startD N args, noX⟩, M, al, F, G, W, Es.none (start_es r) rfl, MonoS.up pb.mono (h args M _ _ W.bels hb q) ⟨fun ρ' M' k al' F' H' σ' e' W' s' _ => ?_, fun d M' k al' F' H' v e' W' r' => ?_, fun _ _ z => z.elim, fun _ _ z => z.elim⟩⟩
  · exact See.ok e' W' .non (by rw [W0']; exact k)
  · exact See.ok e' W' r' (by rw [W0']; exact k)
/-- what may be called by a name inside a suite -/
structure ClE (P : Program) (w : World) (K : PySem.W.Frag) (mg : Str → Option Value) (base : Heap) (x : Str) (k : Nat) (ps : List Str) (ds : DSpE) : Prop where
  ex : ∃ (f : Addr) (fd : FuncData), FnE P w K mg base (L2N.CX P w) k f fd ps (fun a c d => spOf K (ds a c d)) ∧ mg x = some (.ref f) ∧ PySem.W.keepIn K (.ref f) = true ∧ Binds K fd ps []
  mono : ∀ a c d, MonoSp (ds a c d)
end
section
variable {Y : Cx} {a b : Expr} {pos : Pos} {es : List Expr} {fr : DTA}
@[reducible] def dCallE (ds : DSp) (fr : DTA) : DTE := fun ρ M Q => fr ρ M fun args M1 => ds args M1 Q fun _ _ _ => False
theorem d_clE {ds : DSpE} {k : Nat} {ps : List Str} {x : Str} {p : Pos} {q : Addr} {c : Value} {d : Option Addr} (C : ClE Y.prog Y.w Y.K Y.mg Y.base x k ps ds) (hp : Pin Y q c d) (hh : Y.A.handled = some (.ref q)) (hgd : Y.A.guards = some []) (hr : RoomH k Y.A) (ha : DA Y (a :: es) fr) (hg : Gl Y x := by rfl) (hdb : (x == ("__debug__" : Str)) = false := by decide)
    (he : starEach (a :: es) Y.env = (false, eval a Y.env) :: starEach es Y.env := by rfl) (hpl : (backTo pos (starEach es Y.env)).any (·.1) = false := by rfl) : DE Y (.Call (.Name x p) (a :: es) [] pos) (dCallE (ds q c d) fr) := by
  obtain ⟨f, fd, G, hm, hk, hb⟩ := C.ex
  have m := C.mono q c d
  obtain ⟨oe, hpn, hz, vs0, hv0⟩ := hp.ex
  refine ⟨⟨fun pins s σ H Q I ⟨ρ, M, al, F, Gg, W, es, q⟩ => ?_⟩, fun ρ M Q Q' w q => ha.mono _ _ _ _ (fun args M1 q1 => m _ _ _ _ _ _ w (fun _ _ _ z => z) q1) q⟩
  refine wpAny_Call_Name_kw (ld_glob I hg hm ?_ hdb)
  have hl := ha.seq (P := fun vs H1 => spOf Y.K (ds _ c d) vs H1 Q fun _ _ _ => False) W es q fun args M1 al1 F1 H1 vs q1 e1 W1 r1 s1 => ⟨args, M1, al1, F1, Gg, W1, r1, m _ _ _ _ _ _ (fun d M2 k => kont.ext k e1) (fun _ _ _ z => z.elim) q1⟩
  refine PySem.W.callWith_K (h₀ := Y.base) I.ok.mod.kin hk (thn (ha.pa.run pos pins s σ H _ I hl) fun us s1 ⟨vs, H1, I1, r, q1⟩ => ⟨I1.kIn, ?_⟩) he hpl
  have P1 := I1.pin (_, oe) (List.mem_append_left _ hpn)
  have hlen : us.length = ps.length := r.length.symm.trans (G.len _ _ _ _ _ _ _ q1)
  have bi := hb s1 us I1.kIn (by rw [List.append_nil]; exact hlen)
  rw [List.append_nil] at bi
  refine wpAny_call (codeAny_mono (G.run Y.A Y.stack s1 H1 ⟨us, []⟩ us vs Q (fun _ _ _ => False) (_, oe) c d hgd hr ⟨hh, vs0, hv0, hz.2.2 vs0 hv0⟩ hz ⟨P1.1, P1.2.1, fun hmm => (List.mem_cons.mp (I1.stkSub _ hmm)).elim P1.2.2.1 P1.2.2.2.1, P1.2.2.2.2⟩ I1.env0 bi r q1) fun res s' z => ?_)
  match res, z with
  | .error e, z => exact (cx_no z).elim
  | .ok (.ret u), z => exact I1.after z
  | .ok .next, z => exact z.elim
  | .ok .brk, z => exact z.elim
  | .ok .cont, z => exact z.elim
end
end DL

set_option maxHeartbeats 2000000
/-! DLX2: several except clauses, each for one class or a tuple of classes, each with a name. -/
namespace DL
open PySem PySem.Spec PyProof.Rows L2
/-- what an except clause asks for: one class or a tuple of some -/
inductive Tst (X : Cx) : Expr → List Value → Prop
  | one {x : Str} {np : Pos} {c : Value} : Names X x c → Tst X (.Name x np) [c]
  | two {x1 x2 : Str} {p1 p2 p : Pos} {c1 c2 : Value} {k : Nat} : Names X x1 c1 → Names X x2 c2 → Tst X (.Tuple [.Name x1 p1, .Name x2 p2] k p) [c1, c2]
  | three {x1 x2 x3 : Str} {p1 p2 p3 p : Pos} {c1 c2 c3 : Value} {k : Nat} : Names X x1 c1 → Names X x2 c2 → Names X x3 c3 → Tst X (.Tuple [.Name x1 p1, .Name x2 p2, .Name x3 p3] k p) [c1, c2, c3]
  | four {x1 x2 x3 x4 : Str} {p1 p2 p3 p4 p : Pos} {c1 c2 c3 c4 : Value} {k : Nat} : Names X x1 c1 → Names X x2 c2 → Names X x3 c3 → Names X x4 c4 → Tst X (.Tuple [.Name x1 p1, .Name x2 p2, .Name x3 p3, .Name x4 p4] k p) [c1, c2, c3, c4]
theorem tst_ok {X : Cx} {t : Expr} {cs : List Value} (T : Tst X t cs) {a : Addr} {pn : List (Addr × Obj)} {σ : L2.St} {H : Hp} {s : Shared} {cls : Value} {b : Bool} (S : Inv (X.suite a pn) [] σ H s) (KI : X.K.In s.heap) (LT : PySem.W.Looks (model X.prog X.w) s.heap (typeOf (.ref a)) cls)
    (hx : PySem.W.exmAny X.K cls cs = some b) {Q : Value → Shared → Prop} {E : Value → Shared → Prop} (q : ∀ (h' : Heap) (v : Value), (h' = s.heap ∨ ∃ vs : Array Value, h' = s.heap.push { cls := .type "tuple", data := .seq vs }) → PySem.W.Looks (model X.prog X.w) h' (excMatches (.ref a) v) b → Q v { s with heap := h' }) :
    wpAny (model X.prog X.w) (X.A.mark (some (.ref a))) (eval t X.env) Q E s := by
  have nm : ∀ {x : Str} {c : Value} {p : Pos} {Q : Value → Shared → Prop} {E : Value → Shared → Prop}, Names X x c → Q c s → wpAny (model X.prog X.w) (X.A.mark (some (.ref a))) (eval (.Name x p) X.env) Q E s := fun {x c p Q E} hc q => by
    obtain ⟨hg, hdbg, hm | ⟨hm, hv, hnn⟩⟩ := hc
    · exact ld_glob (X := X.suite a pn) S hg hm q hdbg
    · exact ld_blt (X := X.suite a pn) S hg hm hv q hnn hdbg
  have kp : ∀ (o : Obj) (b : Addr) (u : Obj), s.heap.get? b = some u → (s.heap.push o).get? b = some u := fun o b u e => Heap.get?_push_of_some _ e
  cases T with
  | one h1 =>
    refine nm h1 (q s.heap _ (.inl rfl) ?_)
    obtain ⟨b1, d1, x1, y1, z1⟩ := PySem.W.exmAny_cons hx
    cases (show some false = some d1 from y1)
    rw [Bool.or_false] at z1
    subst z1
    exact PySem.W.exm_one KI LT x1
  | two h1 h2 =>
    refine wpAny_Tuple (Calls.spliced_cons (nm h1 (Calls.spliced_cons (nm h2 (Calls.spliced_nil ⟨by rw [sizeLine_eq]; simp only [List.length_cons, List.length_nil]; omega, q _ _ (.inr ⟨_, rfl⟩) ?_⟩)))))
    exact PySem.W.exm_tup2 (KI.keeps (kp _)) (LT.keeps (kp _)) (Heap.get?_push_size _ rfl) hx
  | three h1 h2 h3 =>
    refine wpAny_Tuple (Calls.spliced_cons (nm h1 (Calls.spliced_cons (nm h2 (Calls.spliced_cons (nm h3 (Calls.spliced_nil ⟨by rw [sizeLine_eq]; simp only [List.length_cons, List.length_nil]; omega, q _ _ (.inr ⟨_, rfl⟩) ?_⟩)))))))
    exact PySem.W.exm_tup3 (KI.keeps (kp _)) (LT.keeps (kp _)) (Heap.get?_push_size _ rfl) hx
  | four h1 h2 h3 h4 =>
    refine wpAny_Tuple (Calls.spliced_cons (nm h1 (Calls.spliced_cons (nm h2 (Calls.spliced_cons (nm h3 (Calls.spliced_cons (nm h4 (Calls.spliced_nil ⟨by rw [sizeLine_eq]; simp only [List.length_cons, List.length_nil]; omega, q _ _ (.inr ⟨_, rfl⟩) ?_⟩)))))))))
    exact PySem.W.exm_tup4 (KI.keeps (kp _)) (LT.keeps (kp _)) (Heap.get?_push_size _ rfl) hx
theorem fly_push {B : Heap} {l : List Env} {a : Addr} {Z : Obj → Prop} {h : Heap} {o : Obj} (fl : HandSPX.FlyingZ B l a Z h) : HandSPX.FlyingZ B l a Z (h.push o) := by
  obtain ⟨k1, k2, k3, oe, vs, T, oT, ts, he, hz, hd, h1, n1, n2, hT, hdT, h3⟩ := fl
  have k : ∀ b o', h.get? b = some o' → (h.push o).get? b = some o' := fun b o' e => Heap.get?_push_of_some _ e
  exact ⟨fun b o' e => k _ _ (k1 b o' e), k2, k3.of_keeps fun b o' e _ => ⟨o', k _ _ e, rfl⟩, oe, vs, T, oT, ts, k _ _ he, hz, hd, h1, n1, n2, k _ _ hT, hdT, h3⟩
abbrev Cla : Type := List Value × Nat × (Addr → Value → Option Addr → TS)
@[reducible] def endsI (i : Nat) (D : Ends) : Ends := { nx := fun σ' H' => D.nx (σ'.set i none) H', rt := D.rt, bk := fun σ' H' => D.bk (σ'.set i none) H', ct := fun σ' H' => D.ct (σ'.set i none) H' }
/-- what the clauses wish of an exception of the body -/
def wAll (K : PySem.W.Frag) (Wout : WX) (D : Ends) : List Cla → WX
  | [] => Wout
  | (cs, i, ts) :: r => fun cls d σ H => ∃ b, PySem.W.exmAny K cls cs = some b ∧ (b = true → ∀ a, H a = none → ts a cls d (endsI i D) (σ.set i (some (.ref a))) H) ∧ (b = false → wAll K Wout D r cls d σ H)
inductive HdA (X : Cx) : List ExceptHandler → List Cla → Prop
  | nil : HdA X [] []
  | cons {t : Expr} {n : Str} {i : Nat} {cs : List Value} {ts : Addr → Value → Option Addr → TS} {b₀ : Stmt} {suite : List Stmt} {pos' : Pos} {hds : List ExceptHandler} {l : List Cla} (T : Tst X t cs) (hi : X.N[i]? = some n) (hln : X.env.kindOf n = some .local)
      (hsu : ∀ (a : Addr) (oe : Obj) (cls : Value) (d : Option Addr) (pn : List (Addr × Obj)), L2N.Zn cls d oe → (∃ vs, oe.data = .fields vs) → PSs (X.suite a ((a, oe) :: pn)) (b₀ :: suite) (ts a cls d)) (r : HdA X hds l) :
      HdA X (.ExceptHandler (some t) (some n) (b₀ :: suite) pos' :: hds) ((cs, i, ts) :: l)
section
open L2N
variable {X : Cx} {body : List Stmt} {h₀ : ExceptHandler} {hds : List ExceptHandler} {l : List Cla} {pos : Pos} {tb : WX → TS} {Wout : WX}
theorem ps_try_all (hs : X.stack = X.env :: X.outer) (hf : X.env.frame = some X.env.locals) (hN : X.N.Nodup) (tk : L2N.Takes X Wout)
    (hb : ∀ (W : WX) (pn : List (Addr × Obj)) (xe : Value → Shared → Prop), L2N.Takes (X.tr pn xe) W → PassesOwn (model X.prog X.w) X.A X.env xe → PSs (X.tr pn xe) body (tb W))
    (hh : HdA X (h₀ :: hds) l) : PS X (.Try body (h₀ :: hds) [] [] pos) (fun D σ H => tb (wAll X.K Wout D l) D σ H) := by
  refine ⟨fun pins s σ H D I h => ?_⟩
  have ok := I.ok
  have hfr : X.A.frames = some (X.env :: X.outer) := by rw [ok.frames, hs]
  refine wpAny_Try_except ?_
  refine wpAny_mono ((hb (wAll X.K Wout D l) (X.pn ++ pins) (fun e s₁ => wpAny (model X.prog X.w) X.A (noteFrame e X.env) (fun _ s₂ => wpAny (model X.prog X.w) X.A (setFlight e none) (fun _ s₃ =>
    wpAny (model X.prog X.w) X.A (handleBy e X.env (h₀ :: hds)) (SP X pins D) X.xe s₃) X.xe s₂) X.xe s₁) (fun u s' xx => ?_) PassesOwn.looking).run [] s σ H D (I.toTry _) h) (fun f s1 hsp => ?_) (fun e s1 he => he)
  · -- the catch
    obtain ⟨a, B, sI, pins', σ', H', cls, d, rfl, J', nb, up, sky, na, os, ag, w⟩ := xx
    have J : Inv X pins σ' H' sI := J'.ofTry ok
    have sky' : Sky B (X.env :: X.outer) a (Zn cls d) X.env.locals s'.heap := by rw [← hs]; exact sky
    show wpAny (model X.prog X.w) X.A (noteFrame (.ref a) X.env) _ _ _
    refine Sky.land Zn.steady hfr hf sky' fun h3 fl3 up3 => ?_
    have notFr : ∀ {h : Heap} {o : Obj} {vs : Array Value}, h.FunFrames B (X.env :: X.outer) → h.get? a = some o → o.data = .fields vs → a ∉ frs (X.env :: X.outer) := fun {h o vs} ff e dd hm => by
      obtain ⟨_, o', e', hnf⟩ := ff.mem hm
      rw [e] at e'; cases e'
      exact hnf _ dd
    have go : ∀ {hds' : List ExceptHandler} {l' : List Cla}, HdA X hds' l' → wAll X.K Wout D l' cls d σ' H' → ∀ h3, HandSPX.FlyingZ B (X.env :: X.outer) a (Zn cls d) h3 → s'.heap.UpToSlots h3 →
        wpAny (model X.prog X.w) X.A (handleBy (.ref a) X.env hds') (SP X pins D) X.xe { s' with heap := h3 } := by
      intro hds' l' hk
      induction hk with
      | nil =>
        intro w h3 fl3 up3
        refine wpAny_handleBy_nil ?_
        obtain ⟨k1, k2, k3, oe, vs, T, oT, ts', he, hz, hd, h1, hr⟩ := id fl3
        unfold PySem.passOn
        refine wpAny_bind (wpAny_field he hd h1 ?_)
        rw [if_neg (show ¬ ((Value.ref T == Value.none) = true) from by simp)]
        have fin : wpAny (model X.prog X.w) X.A (setFlight (.ref a) X.env.frame) (fun _ s4 => wpAny (model X.prog X.w) X.A (throw (.ref a) : Sem Flow) (SP X pins D) X.xe s4) X.xe { s' with heap := h3 } := by
          rw [hf]
          refine HandSPX.setFlight_upZ fl3 fun h4 hh4 up4 => wpAny_throw (tk _ _ ?_)
          exact ⟨a, B, sI, pins, σ', H', cls, d, rfl, J, nb, (up.trans up3).trans up4, .inr (.inr (by rw [hs]; exact hh4)), na, os, ag, w⟩
        first
          | exact wpAny_bind (wpAny_pure (wpAny_bind fin))
          | exact wpAny_bind fin
      | @cons t n i cs ts b₀ suite pos' hds2 l2 T hi hln hsu r ih =>
        intro w h3 fl3 up3
        have hloc : Loc X.env.scope n := .inl hln
        obtain ⟨b, hb1, hyes, hno⟩ := w
        have J3 : Inv X pins σ' H' { s' with heap := h3 } := J.landed nb fl3.1 (up.trans up3) os ag
        obtain ⟨oe3, vs3, he3, hz3, hd3⟩ := fl3.there
        have nfr := notFr fl3.2.2.1 he3 hd3
        have nL : a ≠ X.env.locals := fun z => nfr (List.mem_filterMap.mpr ⟨X.env, List.mem_cons_self, by rw [hf, z]⟩)
        have nF : a ∉ X.fs := fun hm => by
          obtain ⟨e, he, q⟩ := List.mem_filterMap.mp hm
          exact nfr (List.mem_filterMap.mpr ⟨e, List.mem_cons_of_mem _ he, q⟩)
        have S3 := J3.suite he3 hd3 na nL nF
        refine wpAny_handleBy_cons (codeAny_handlers_test ?_) (by intro q; cases q)
        have LT : PySem.W.Looks (model X.prog X.w) h3 (typeOf (.ref a)) cls := fun A Q E s k q => wpAny_typeOf_ref (k _ _ he3) (by rw [hz3.1]; exact q)
        refine tst_ok T S3 J3.kIn LT hb1 fun h3' v hh3 LM => LM.here ?_
        have fl3 : HandSPX.FlyingZ B (X.env :: X.outer) a (Zn cls d) h3' := by
          rcases hh3 with rfl | ⟨vs, rfl⟩
          · exact fl3
          · exact fly_push fl3
        have up3 : s'.heap.UpToSlots h3' := by
          rcases hh3 with rfl | ⟨vs, rfl⟩
          · exact up3
          · exact up3.trans (Heap.UpToSlots.of_keeps fun b o e => Heap.get?_push_of_some _ e)
        cases b with
        | true =>
          refine codeAny_handlers_suite_as ?_
          refine HandSPX.lands_againZ fl3 fun h4 fl4 up4 => ?_
          have J4 : Inv X pins σ' H' { s' with heap := h4 } := J.landed nb fl4.1 ((up.trans up3).trans up4) os ag
          obtain ⟨oe4, vs4, he4, hz4, hd4⟩ := fl4.there
          have S4 := J4.suite he4 hd4 na nL nF
          refine store_ok (X := X.suite a ((a, oe4) :: (X.pn ++ pins))) (v := .ref a) S4 hN hi hloc rfl (fun s5 S5 => ?_) (.inr hln)
          refine wpAny_mono ((hsu a oe4 cls d (X.pn ++ pins) hz4 ⟨_, hd4⟩).run [] s5 _ H' _ S5 (hyes rfl a na)) (fun f s6 hsp => ?_) (fun _ _ z => False.elim z)
          have end_ : ∀ {σ6 : L2.St} {H6 : Hp} {Q : Shared → Prop}, Inv (X.suite a ((a, oe4) :: (X.pn ++ pins))) [] σ6 H6 s6 → (∀ s7, Inv X pins (σ6.set i none) H6 s7 → Q s7) →
              wpAny (model X.prog X.w) X.A (do bindName X.env n .none; unbindBehindTheSuite X.env n pos') (fun _ s7 => Q s7) X.xe s6 := fun {σ6 H6 Q} S6 hq => gone_ok (S6.unsuite ok) hN hi hln hq
          cases f with
          | next =>
            obtain ⟨σ6, H6, S6, q6⟩ := hsp
            exact end_ S6 fun s7 J7 => ⟨_, _, J7, q6⟩
          | brk =>
            obtain ⟨σ6, H6, S6, q6⟩ := hsp
            exact end_ S6 fun s7 J7 => ⟨_, _, J7, q6⟩
          | cont =>
            obtain ⟨σ6, H6, S6, q6⟩ := hsp
            exact end_ S6 fun s7 J7 => ⟨_, _, J7, q6⟩
          | ret u =>
            obtain ⟨v6, σ6, H6, S6, r6, q6⟩ := hsp
            exact end_ S6 fun s7 J7 => ⟨_, _, _, J7, r6, q6⟩
        | false =>
          show wpAny _ X.A (handleBy (.ref a) X.env hds2) _ _ _
          exact ih (hno rfl) h3' fl3 up3
    exact go hh w h3 fl3 up3
  · cases f with
    | next =>
      obtain ⟨σ', H', J', q⟩ := hsp
      exact wpAny_execs_nil ⟨σ', H', J'.ofTry ok, q⟩
    | brk =>
      obtain ⟨σ', H', J', q⟩ := hsp
      exact ⟨σ', H', J'.ofTry ok, q⟩
    | cont =>
      obtain ⟨σ', H', J', q⟩ := hsp
      exact ⟨σ', H', J'.ofTry ok, q⟩
    | ret u =>
      obtain ⟨v, σ', H', J', r, q⟩ := hsp
      exact ⟨v, σ', H', J'.ofTry ok, r, q⟩
end
/-! ### the same, heap-free -/
abbrev Dcl : Type := List Value × Nat × (Addr → Value → Option Addr → DTS)
@[reducible] def dWish (K : PySem.W.Frag) (D : DEnds) (x0 : DXS) : List Dcl → DXS
  | [] => x0
  | (cs, i, fs) :: r => fun cls fl vs M' => ∃ b, PySem.W.exmAny K cls cs = some b ∧ (b = true → ∀ a o, fs a cls o (endsU i D x0) ⟨vs.set i (some (.exo a cls o (fl.map (·.1)) (fl.map (·.2)))), noX⟩ M') ∧ (b = false → dWish K D x0 r cls fl vs M')
@[reducible] def dTryAll (K : PySem.W.Frag) (l : List Dcl) (fb : DTS) : DTS := fun D ρ M => ∃ x' : DXS, (∀ cls fl vs M', x' cls fl vs M' → dWish K D ρ.x l cls fl vs M') ∧ fb (endsX D ρ.x) ⟨ρ.v, x'⟩ M
inductive DHd (X : Cx) : List ExceptHandler → List Dcl → Prop
  | nil : DHd X [] []
  | cons {t : Expr} {n : Str} {i : Nat} {cs : List Value} {fs : Addr → Value → Option Addr → DTS} {b₀ : Stmt} {suite : List Stmt} {pos' : Pos} {hds : List ExceptHandler} {l : List Dcl} (T : Tst X t cs) (hi : X.N[i]? = some n) (hln : X.env.kindOf n = some .local)
      (hsu : ∀ (a : Addr) (oe : Obj) (cls : Value) (d : Option Addr) (pn : List (Addr × Obj)), L2N.Zn cls d oe → (∃ vs, oe.data = .fields vs) → DSs (X.suite a ((a, oe) :: pn)) (b₀ :: suite) (fs a cls d)) (r : DHd X hds l) :
      DHd X (.ExceptHandler (some t) (some n) (b₀ :: suite) pos' :: hds) ((cs, i, fs) :: l)
def liftC (K : PySem.W.Frag) (c : Dcl) : Cla := (c.1, c.2.1, fun a cls d => LiftSN K (c.2.2 a cls d))
theorem DHd.hd {X : Cx} {hds : List ExceptHandler} {l : List Dcl} (h : DHd X hds l) : HdA X hds (l.map (liftC X.K)) := by
  induction h with
  | nil => exact .nil
  | cons T hi hln hsu r ih => exact .cons T hi hln (fun a oe cls d pn hz hd => PSs.of (hsu a oe cls d pn hz hd).ps fun E σ H h => LiftSN.of h) ih
theorem DHd.mono {X : Cx} {hds : List ExceptHandler} {l : List Dcl} (h : DHd X hds l) : ∀ c ∈ l, ∀ a cls d, MonoS (c.2.2 a cls d) := by
  induction h with
  | nil => exact fun c hc => nomatch hc
  | cons T hi hln hsu r ih =>
    intro c hc a cls d
    rcases List.mem_cons.mp hc with rfl | hc
    · exact (hsu a { cls := cls, dict := d, data := .fields #[.none, .none, .none] } cls d [] ⟨rfl, rfl, fun vs e => by cases e; rfl⟩ ⟨_, rfl⟩).mono
    · exact ih c hc a cls d
section
variable {X : Cx} {pos : Pos} {body : List Stmt} {h₀ : ExceptHandler} {hds : List ExceptHandler} {l : List Dcl} {fb : DTS}
theorem ds_tryAll (hN : X.N.Nodup) (hb : ∀ (pn : List (Addr × Obj)) (xe : Value → Shared → Prop), PassesOwn (model X.prog X.w) X.A X.env xe → DSs (X.tr pn xe) body fb) (hh : DHd X (h₀ :: hds) l)
    (hs : X.stack = X.env :: X.outer := by rfl) (hf : X.env.frame = some X.env.locals := by rfl) : DS X (.Try body (h₀ :: hds) [] [] pos) (dTryAll X.K l fb) := by
  have mf := hh.mono
  have mb : MonoS fb := (hb [] (fun _ _ => False) PassesOwn.never).mono
  refine ⟨PS.of (ps_try_all (tb := LiftSW X.K fb) hs hf hN (takesW X) (fun Wx pn xe tk po => PSs.of (hb pn xe po).ps fun E σ H ⟨ρ, M, al, F, G, W, s, xo, q⟩ => ?_) hh.hd) ?_, fun D D' ρ M w q => ?_⟩
  · exact ⟨ρ, M, al, F, G, W, ⟨s, fun c' fl vs M' al' F' H' o σ' e' W' s' f' z => W0.of tk (xo c' fl vs M' al' F' H' o σ' e' W' s' f' z)⟩, q⟩
  · rintro E σ H ⟨ρ, M, al, F, G, W, es, x', hx, q⟩
    refine ⟨⟨ρ.v, x'⟩, M, al, F, G, W, es.sl, ?_, MonoS.up mb q ⟨fun ρ1 M1 k al1 F1 H1 σ1 e1 W1 s1 _ => ?_, fun d M1 k => k, fun ρ1 M1 k al1 F1 H1 σ1 e1 W1 s1 _ => ?_, fun ρ1 M1 k al1 F1 H1 σ1 e1 W1 s1 _ => ?_⟩⟩
    rotate_left
    · exact (show kN X.K al F G ρ.x E.nx ⟨ρ1.v, ρ.x⟩ M1 from k) al1 F1 H1 σ1 e1 W1 s1 rfl
    · exact (show kN X.K al F G ρ.x E.bk ⟨ρ1.v, ρ.x⟩ M1 from k) al1 F1 H1 σ1 e1 W1 s1 rfl
    · exact (show kN X.K al F G ρ.x E.ct ⟨ρ1.v, ρ.x⟩ M1 from k) al1 F1 H1 σ1 e1 W1 s1 rfl
    intro cls fl vs M' al' F' H' o σ' e' W' s' f' z
    have z2 := hx cls fl vs M' z
    clear hx z q hh
    induction l with
    | nil => exact es.xo cls fl vs M' al' F' H' o σ' e' W' s' f' z2
    | cons c l ih =>
      obtain ⟨cs, i, fs⟩ := c
      obtain ⟨b, hb1, yes, no⟩ := z2
      refine ⟨b, hb1, fun eb a na => ?_, fun eb => ih (fun c hc => mf c (List.mem_cons_of_mem _ hc)) (no eb)⟩
      refine ⟨⟨vs.set i (some (.exo a cls o (fl.map (·.1)) (fl.map (·.2)))), noX⟩, M', al', F', G, W', s'.set (f'.rp a cls) i, rfl, MonoS.up (mf (cs, i, fs) List.mem_cons_self a cls o) (yes eb a o) ⟨fun ρ1 M1 k al1 F1 H1 σ1 e1 W1 s1 _ => ?_, fun d M1 k => kont.ext k e', fun ρ1 M1 k al1 F1 H1 σ1 e1 W1 s1 _ => ?_, fun ρ1 M1 k al1 F1 H1 σ1 e1 W1 s1 _ => ?_⟩⟩
      · exact (show kN X.K al F G ρ.x E.nx ⟨ρ1.v.set i none, ρ.x⟩ M1 from k) al1 F1 H1 _ (e'.trans e1) W1 (s1.unset i) rfl
      · exact (show kN X.K al F G ρ.x E.bk ⟨ρ1.v.set i none, ρ.x⟩ M1 from k) al1 F1 H1 _ (e'.trans e1) W1 (s1.unset i) rfl
      · exact (show kN X.K al F G ρ.x E.ct ⟨ρ1.v.set i none, ρ.x⟩ M1 from k) al1 F1 H1 _ (e'.trans e1) W1 (s1.unset i) rfl
  · obtain ⟨x', hx, q⟩ := q
    refine ⟨x', fun cls fl vs M' z => ?_, mb (endsX D ρ.x) (endsX D' ρ.x) _ _ ⟨fun _ _ k => w.nx _ _ k, w.rt, fun _ _ k => w.bk _ _ k, fun _ _ k => w.ct _ _ k⟩ q⟩
    have z2 := hx cls fl vs M' z
    clear hx z q hh
    induction l with
    | nil => exact z2
    | cons c l ih =>
      obtain ⟨cs, i, fs⟩ := c
      obtain ⟨b, hb1, yes, no⟩ := z2
      exact ⟨b, hb1, fun eb a o => mf (cs, i, fs) List.mem_cons_self a cls o (endsU i D ρ.x) (endsU i D' ρ.x) _ _ ⟨fun _ _ k => w.nx _ _ k, w.rt, fun _ _ k => w.bk _ _ k, fun _ _ k => w.ct _ _ k⟩ (yes eb a o), fun eb => ih (fun c hc => mf c (List.mem_cons_of_mem _ hc)) (no eb)⟩
end
end DL

set_option maxHeartbeats 2000000
/-! DLI: in, not in, of flat things. -/
namespace DL
open PySem PySem.Spec PyProof.Rows L2
/-- a flat datum's value -/
def fV : D → Option V
  | .non => some .non
  | .bl b => some (.bl b)
  | .int i => some (.int i)
  | .str x => some (.str x)
  | _ => none
def fVs : List D → Option (List V)
  | [] => some []
  | d :: ds => match fV d, fVs ds with
    | some v, some vs => some (v :: vs)
    | _, _ => none
theorem fV_ok {K : PySem.W.Frag} {F : Hp} {al : List Addr} {v u : V} {d : D} (r : Rp K F al v d) (h : fV d = some u) : v = u ∧ flatV u = true := by
  cases r <;> cases h <;> exact ⟨rfl, rfl⟩
theorem fVs_ok {K : PySem.W.Frag} {F : Hp} {al : List Addr} : ∀ {ds : List D} {vs us : List V}, Rps K F al vs ds → fVs ds = some us → vs = us ∧ us.all flatV = true
  | [], _, _, .nil, h => by cases h; exact ⟨rfl, rfl⟩
  | d :: ds, _, _, .cons r rs, h => by
    unfold fVs at h
    split at h
    · next v vs e1 e2 =>
      cases h
      obtain ⟨rfl, h1⟩ := fV_ok r e1
      obtain ⟨rfl, h2⟩ := fVs_ok rs e2
      exact ⟨rfl, by rw [List.all_cons, h1, h2]; rfl⟩
    · cases h
@[reducible] def gIn (neg : Bool) : G2 := fun x y M Q => match fV x, (itemsOf y M).bind fVs with
  | some v, some vs => Q (.bl (if neg then !inV v vs else inV v vs)) M
  | _, _ => False
theorem gIn_mono (neg : Bool) : Mono2 (gIn neg) := fun x y M Q Q' w q => by
  unfold gIn at q ⊢
  split at q
  · exact w _ _ q
  · exact q.elim
section
variable {X : Cx}
theorem gIn_ok {neg : Bool} {K : PySem.W.Frag} {al : List Addr} {F G H : Hp} {M : Sto} {x y : V} {dx dy : D} {Q : VK} (W : Wd K al F G H M) (r1 : Rp K F al x dx) (r2 : Rp K F al y dy) (q : gIn neg dx dy M (kont K al F G Q)) : rIn K neg x y H Q := by
  unfold gIn at q
  split at q
  · next v vs e1 e2 =>
    obtain ⟨rfl, f1⟩ := fV_ok r1 e1
    cases e3 : itemsOf dy M with
    | none => rw [e3] at e2; cases e2
    | some ds =>
      rw [e3, Option.bind_some] at e2
      obtain ⟨a, xs, rfl, hs, rs⟩ := itemsOf_ok W r2 e3
      obtain ⟨rfl, f2⟩ := fVs_ok rs e2
      exact ⟨a, xs, rfl, hs.elim (fun h => .inr (SqT.of h)) (fun h => .inl (SqL.of h)), f1, f2, kont.here q W (.bl _)⟩
  · exact q.elim
theorem o_in (hu : X.A.units + 64 < cLine) : O2 X (compareOp .In) (gIn false) := O2.of op_in_seq (gIn_mono _) fun al F G H M x y dx dy Q W r1 r2 q => gIn_ok W r1 r2 q
theorem o_notin (hu : X.A.units + 64 < cLine) : O2 X (compareOp .NotIn) (gIn true) := O2.of op_notIn_seq (gIn_mono _) fun al F G H M x y dx dy Q W r1 r2 q => gIn_ok W r1 r2 q
end
end DL

/-! M01: the mathematics of trees: parents, ways, distances. -/
namespace MT
abbrev Tr := List (Nat × Nat)
def TreeOk (t : Tr) : Prop := t.length ≤ 11 ∧ ∀ (k : Nat) (p : Nat × Nat), t[k]? = some p → p.1 ≤ k ∧ 1 ≤ p.2 ∧ p.2 ≤ 1000000
/-- the parent of a mark from 1 on; the length of its row -/
def par (t : Tr) (m : Nat) : Nat := min (t.getD (m - 1) (0, 0)).1 (m - 1)
def ln (t : Tr) (m : Nat) : Nat := (t.getD (m - 1) (0, 0)).2
theorem par_lt (t : Tr) {m : Nat} (h : 0 < m) : par t m < m := by unfold par; omega
theorem par_of {t : Tr} (ht : TreeOk t) {k : Nat} {p : Nat × Nat} (h : t[k]? = some p) : par t (k + 1) = p.1 ∧ ln t (k + 1) = p.2 := by
  have e : t.getD k (0, 0) = p := by rw [List.getD_eq_getElem?_getD, h]; rfl
  unfold par ln
  rw [Nat.add_sub_cancel, e]
  have := (ht.2 k p h).1
  exact ⟨by omega, rfl⟩
def above (t : Tr) (m : Nat) : List Nat := if h : m = 0 then [0] else m :: above t (par t m)
termination_by m
decreasing_by exact par_lt t (by omega)
theorem above_0 (t : Tr) : above t 0 = [0] := by rw [above, dif_pos rfl]
theorem above_s (t : Tr) {m : Nat} (h : m ≠ 0) : above t m = m :: above t (par t m) := by rw [above, dif_neg h]
def dist (t : Tr) (i j : Nat) : Int := if i = j then 0 else if h : j < i then (ln t i : Int) + dist t (par t i) j else dist t i (par t j) + ln t j
termination_by i + j
decreasing_by
  · have := par_lt t (show 0 < i by omega); omega
  · have := par_lt t (show 0 < j by omega); omega
theorem dist_self (t : Tr) (i : Nat) : dist t i i = 0 := by rw [dist, if_pos rfl]
theorem dist_gt (t : Tr) {i j : Nat} (h : j < i) : dist t i j = ln t i + dist t (par t i) j := by rw [dist, if_neg (by omega), dif_pos h]
theorem dist_lt (t : Tr) {i j : Nat} (h : i < j) : dist t i j = dist t i (par t j) + ln t j := by rw [dist, if_neg (by omega), dif_neg (by omega)]
theorem dist_comm (t : Tr) (i j : Nat) : dist t i j = dist t j i := by
  rcases Nat.lt_trichotomy i j with h | h | h
  · have := par_lt t (show 0 < j by omega)
    rw [dist_lt t h, dist_gt t h, dist_comm t i (par t j)]
    omega
  · subst h; rfl
  · have := par_lt t (show 0 < i by omega)
    rw [dist_gt t h, dist_lt t h, dist_comm t (par t i) j]
    omega
termination_by i + j
theorem dist_nonneg (t : Tr) (i j : Nat) : 0 ≤ dist t i j := by
  rcases Nat.lt_trichotomy i j with h | h | h
  · have := par_lt t (show 0 < j by omega)
    have := dist_nonneg t i (par t j)
    rw [dist_lt t h]
    omega
  · subst h; rw [dist_self]; exact Int.le_refl _
  · have := par_lt t (show 0 < i by omega)
    have := dist_nonneg t (par t i) j
    rw [dist_gt t h]
    omega
termination_by i + j
theorem ln_le {t : Tr} (ht : TreeOk t) (m : Nat) : ln t m ≤ 1000000 := by
  unfold ln
  rw [List.getD_eq_getElem?_getD]
  cases e : t[m - 1]? with
  | none => exact Nat.zero_le _
  | some p => exact (ht.2 _ _ e).2.2
theorem dist_le {t : Tr} (ht : TreeOk t) (i j : Nat) : dist t i j ≤ (i + j : Nat) * 1000000 := by
  have hi := ln_le ht i
  have hj := ln_le ht j
  rcases Nat.lt_trichotomy i j with h | h | h
  · have h1 := par_lt t (show 0 < j by omega)
    have h2 := dist_le ht i (par t j)
    rw [dist_lt t h]
    omega
  · subst h; rw [dist_self]; omega
  · have h1 := par_lt t (show 0 < i by omega)
    have h2 := dist_le ht (par t i) j
    rw [dist_gt t h]
    omega
termination_by i + j
/-- the law's own way -/
def lway (t : Tr) (i j : Nat) : List Nat := if i = j then [i] else if h : j < i then i :: lway t (par t i) j else lway t i (par t j) ++ [j]
termination_by i + j
decreasing_by
  · have := par_lt t (show 0 < i by omega); omega
  · have := par_lt t (show 0 < j by omega); omega
theorem lway_self (t : Tr) (i : Nat) : lway t i i = [i] := by rw [lway, if_pos rfl]
theorem lway_gt (t : Tr) {i j : Nat} (h : j < i) : lway t i j = i :: lway t (par t i) j := by rw [lway, if_neg (by omega), dif_pos h]
theorem lway_lt (t : Tr) {i j : Nat} (h : i < j) : lway t i j = lway t i (par t j) ++ [j] := by rw [lway, if_neg (by omega), dif_neg (by omega)]
theorem lway_len (t : Tr) (i j : Nat) : (lway t i j).length ≤ i + j + 1 := by
  rcases Nat.lt_trichotomy i j with h | h | h
  · have := par_lt t (show 0 < j by omega)
    have := lway_len t i (par t j)
    rw [lway_lt t h, List.length_append, List.length_singleton]
    omega
  · subst h; rw [lway_self, List.length_singleton]; omega
  · have := par_lt t (show 0 < i by omega)
    have := lway_len t (par t i) j
    rw [lway_gt t h, List.length_cons]
    omega
termination_by i + j
theorem lway_mem (t : Tr) (i j : Nat) : ∀ x ∈ lway t i j, x ≤ max i j := by
  intro x hx
  rcases Nat.lt_trichotomy i j with h | h | h
  · have h1 := par_lt t (show 0 < j by omega)
    rw [lway_lt t h, List.mem_append, List.mem_singleton] at hx
    rcases hx with hx | hx
    · have := lway_mem t i (par t j) x hx; omega
    · omega
  · subst h; rw [lway_self, List.mem_singleton] at hx; omega
  · have h1 := par_lt t (show 0 < i by omega)
    rw [lway_gt t h, List.mem_cons] at hx
    rcases hx with hx | hx
    · omega
    · have := lway_mem t (par t i) j x hx; omega
termination_by i + j
theorem lway_head (t : Tr) (i j : Nat) : ∃ r, lway t i j = i :: r := by
  rcases Nat.lt_trichotomy i j with h | h | h
  · have := par_lt t (show 0 < j by omega)
    obtain ⟨r, e⟩ := lway_head t i (par t j)
    rw [lway_lt t h, e]
    exact ⟨r ++ [j], rfl⟩
  · subst h; rw [lway_self]; exact ⟨[], rfl⟩
  · rw [lway_gt t h]; exact ⟨_, rfl⟩
termination_by i + j
theorem lway_last (t : Tr) (i j : Nat) : ∃ r, lway t i j = r ++ [j] := by
  rcases Nat.lt_trichotomy i j with h | h | h
  · rw [lway_lt t h]; exact ⟨_, rfl⟩
  · subst h; rw [lway_self]; exact ⟨[], rfl⟩
  · have := par_lt t (show 0 < i by omega)
    obtain ⟨r, e⟩ := lway_last t (par t i) j
    rw [lway_gt t h, e]
    exact ⟨i :: r, rfl⟩
termination_by i + j
/-! ### the common end of two lists dropped, but its first -/
/-- of two lists, the last ones dropped while the second last ones are equal; root first here -/
def strip : List Nat → List Nat → List Nat × List Nat
  | c :: x :: xs, d :: y :: ys => if x = y then strip (x :: xs) (y :: ys) else (c :: x :: xs, d :: y :: ys)
  | a, b => (a, b)
def join (p : List Nat × List Nat) : List Nat := p.1.reverse ++ p.2.tail
theorem strip_snoc (i : Nat) : ∀ (a b : List Nat), a ≠ [] → i ∉ b → strip (a ++ [i]) b = ((strip a b).1 ++ [i], (strip a b).2)
  | [], b, h, _ => absurd rfl h
  | [c], [], _, _ => by simp [strip]
  | [c], [d], _, _ => by simp [strip]
  | [c], d :: y :: ys, _, hi => by
    have : i ≠ y := fun e => hi (by simp [e])
    simp [strip, this]
  | c :: x :: xs, [], _, _ => by simp [strip]
  | c :: x :: xs, [d], _, _ => by simp [strip]
  | c :: x :: xs, d :: y :: ys, _, hi => by
    show strip (c :: x :: (xs ++ [i])) (d :: y :: ys) = _
    by_cases e : x = y
    · have e1 : strip (c :: x :: (xs ++ [i])) (d :: y :: ys) = strip (x :: (xs ++ [i])) (y :: ys) := by rw [strip, if_pos e]
      have e2 : strip (c :: x :: xs) (d :: y :: ys) = strip (x :: xs) (y :: ys) := by rw [strip, if_pos e]
      rw [e1, e2]
      exact strip_snoc i (x :: xs) (y :: ys) (by simp) (fun z => hi (List.mem_cons_of_mem _ z))
    · have e1 : strip (c :: x :: (xs ++ [i])) (d :: y :: ys) = (c :: x :: (xs ++ [i]), d :: y :: ys) := by rw [strip, if_neg e]
      have e2 : strip (c :: x :: xs) (d :: y :: ys) = (c :: x :: xs, d :: y :: ys) := by rw [strip, if_neg e]
      rw [e1, e2]
      rfl
theorem strip_swap : ∀ (a b : List Nat), strip b a = ((strip a b).2, (strip a b).1)
  | [], [] => by simp [strip]
  | [], [d] => by simp [strip]
  | [], d :: y :: ys => by simp [strip]
  | [c], [] => by simp [strip]
  | [c], [d] => by simp [strip]
  | [c], d :: y :: ys => by simp [strip]
  | c :: x :: xs, [] => by simp [strip]
  | c :: x :: xs, [d] => by simp [strip]
  | c :: x :: xs, d :: y :: ys => by
    by_cases e : x = y
    · have e1 : strip (d :: y :: ys) (c :: x :: xs) = strip (y :: ys) (x :: xs) := by rw [strip, if_pos e.symm]
      have e2 : strip (c :: x :: xs) (d :: y :: ys) = strip (x :: xs) (y :: ys) := by rw [strip, if_pos e]
      rw [e1, e2]
      exact strip_swap (x :: xs) (y :: ys)
    · have e1 : strip (d :: y :: ys) (c :: x :: xs) = (d :: y :: ys, c :: x :: xs) := by rw [strip, if_neg (Ne.symm e)]
      have e2 : strip (c :: x :: xs) (d :: y :: ys) = (c :: x :: xs, d :: y :: ys) := by rw [strip, if_neg e]
      rw [e1, e2]
theorem above_le (t : Tr) (m : Nat) : ∀ x ∈ above t m, x ≤ m := by
  intro x hx
  by_cases h : m = 0
  · subst h; rw [above_0, List.mem_singleton] at hx; omega
  · rw [above_s t h, List.mem_cons] at hx
    have := par_lt t (show 0 < m by omega)
    rcases hx with hx | hx
    · omega
    · have := above_le t (par t m) x hx; omega
termination_by m
theorem above_ne (t : Tr) (m : Nat) : above t m ≠ [] := by
  by_cases h : m = 0
  · subst h; rw [above_0]; simp
  · rw [above_s t h]; simp
theorem above_len (t : Tr) (m : Nat) : (above t m).length ≤ m + 1 := by
  by_cases h : m = 0
  · subst h; rw [above_0]; simp
  · have := par_lt t (show 0 < m by omega)
    have := above_len t (par t m)
    rw [above_s t h, List.length_cons]
    omega
termination_by m
theorem strip_self : ∀ (a : List Nat) (i : Nat), strip (a ++ [i]) (a ++ [i]) = ([i], [i])
  | [], i => by simp [strip]
  | [c], i => by
    show strip (c :: i :: []) (c :: i :: []) = _
    rw [strip, if_pos rfl]
    simp [strip]
  | c :: x :: xs, i => by
    show strip (c :: x :: (xs ++ [i])) (c :: x :: (xs ++ [i])) = _
    rw [strip, if_pos rfl]
    exact strip_self (x :: xs) i
theorem strip_snd_ne (a b : List Nat) (h : b ≠ []) : (strip a b).2 ≠ [] := by
  match a, b with
  | [], b => cases b <;> simp [strip] at h ⊢
  | [c], b => cases b with
    | nil => exact absurd rfl h
    | cons d ys => cases ys <;> simp [strip]
  | c :: x :: xs, [] => exact absurd rfl h
  | c :: x :: xs, [d] => simp [strip]
  | c :: x :: xs, d :: y :: ys =>
    by_cases e : x = y
    · have e2 : strip (c :: x :: xs) (d :: y :: ys) = strip (x :: xs) (y :: ys) := by rw [strip, if_pos e]
      rw [e2]
      exact strip_snd_ne (x :: xs) (y :: ys) (by simp)
    · have e2 : strip (c :: x :: xs) (d :: y :: ys) = (c :: x :: xs, d :: y :: ys) := by rw [strip, if_neg e]
      rw [e2]
      simp
/-- the way that the program finds is the law's -/
theorem way_eq (t : Tr) (i j : Nat) : join (strip (above t i).reverse (above t j).reverse) = lway t i j := by
  rcases Nat.lt_trichotomy i j with h | h | h
  · have h1 := par_lt t (show 0 < j by omega)
    rw [lway_lt t h, ← way_eq t i (par t j), above_s t (show j ≠ 0 by omega), List.reverse_cons, strip_swap, strip_snoc j _ _ (by simpa using above_ne t (par t j)) (fun z => by
      have := above_le t i j (by simpa using z)
      omega), strip_swap (above t i).reverse]
    unfold join
    have hne := strip_snd_ne (above t i).reverse (above t (par t j)).reverse (by simpa using above_ne t (par t j))
    show (strip (above t i).reverse (above t (par t j)).reverse).1.reverse ++ ((strip (above t i).reverse (above t (par t j)).reverse).2 ++ [j]).tail = _
    rw [List.tail_append_of_ne_nil hne, List.append_assoc]
  · subst h
    have : ∃ a, (above t i).reverse = a ++ [i] := by
      by_cases h : i = 0
      · subst h; rw [above_0]; exact ⟨[], rfl⟩
      · rw [above_s t h, List.reverse_cons]; exact ⟨_, rfl⟩
    obtain ⟨a, e⟩ := this
    rw [lway_self, e, strip_self]
    rfl
  · have h1 := par_lt t (show 0 < i by omega)
    rw [lway_gt t h, ← way_eq t (par t i) j, above_s t (show i ≠ 0 by omega), List.reverse_cons, strip_snoc i _ _ (by simpa using above_ne t (par t i)) (fun z => by
      have := above_le t j i (by simpa using z)
      omega)]
    unfold join
    show ((strip (above t (par t i)).reverse (above t j).reverse).1 ++ [i]).reverse ++ _ = _
    rw [List.reverse_append]
    rfl
termination_by i + j
/-- the lengths along a way -/
def legs (t : Tr) : List Nat → List Int
  | x :: y :: r => (ln t (max x y) : Int) :: legs t (y :: r)
  | _ => []
theorem legs_snoc (t : Tr) : ∀ (r : List Nat) (x y : Nat), legs t (r ++ [x] ++ [y]) = legs t (r ++ [x]) ++ [(ln t (max x y) : Int)]
  | [], x, y => rfl
  | [a], x, y => rfl
  | a :: b :: r, x, y => by
    show (ln t (max a b) : Int) :: legs t ((b :: r) ++ [x] ++ [y]) = (ln t (max a b) : Int) :: legs t ((b :: r) ++ [x]) ++ [_]
    rw [legs_snoc t (b :: r) x y]
    rfl
theorem legs_sum (t : Tr) (i j : Nat) : (legs t (lway t i j)).sum = dist t i j := by
  rcases Nat.lt_trichotomy i j with h | h | h
  · have h1 := par_lt t (show 0 < j by omega)
    have ih := legs_sum t i (par t j)
    obtain ⟨r, e⟩ := lway_last t i (par t j)
    rw [lway_lt t h, dist_lt t h, ← ih, e, legs_snoc, List.sum_append, show max (par t j) j = j by omega]
    simp
  · subst h; rw [lway_self, dist_self]; rfl
  · have h1 := par_lt t (show 0 < i by omega)
    have ih := legs_sum t (par t i) j
    obtain ⟨r, e⟩ := lway_head t (par t i) j
    rw [lway_gt t h, dist_gt t h, ← ih, e]
    show ((ln t (max i (par t i)) : Int) :: legs t (par t i :: r)).sum = _
    rw [List.sum_cons, show max i (par t i) = i by omega]
termination_by i + j
/-- neighbours on a list differ -/
def Ok2 : List Nat → Prop
  | x :: y :: r => x ≠ y ∧ Ok2 (y :: r)
  | _ => True
theorem Ok2_snoc : ∀ (r : List Nat) (x y : Nat), Ok2 (r ++ [x]) → x ≠ y → Ok2 (r ++ [x] ++ [y])
  | [], x, y, _, h => ⟨h, trivial⟩
  | [a], x, y, h1, h => ⟨h1.1, h, trivial⟩
  | a :: b :: r, x, y, h1, h => ⟨h1.1, Ok2_snoc (b :: r) x y h1.2 h⟩
theorem Ok2_get : ∀ {w : List Nat} {i x y : Nat}, Ok2 w → w[i]? = some x → w[i + 1]? = some y → x ≠ y
  | [], _, _, _, _, h, _ => by simp at h
  | [a], _, _, _, _, _, h => by simp at h
  | a :: b :: r, 0, x, y, h, h1, h2 => by
    simp at h1 h2
    rw [← h1, ← h2]
    exact h.1
  | a :: b :: r, i + 1, x, y, h, h1, h2 => Ok2_get (w := b :: r) (i := i) h.2 (by simpa using h1) (by simpa using h2)
theorem lway_ok2 (t : Tr) (i j : Nat) : Ok2 (lway t i j) := by
  rcases Nat.lt_trichotomy i j with h | h | h
  · have h1 := par_lt t (show 0 < j by omega)
    have ih := lway_ok2 t i (par t j)
    obtain ⟨r, e⟩ := lway_last t i (par t j)
    rw [lway_lt t h, e]
    rw [e] at ih
    exact Ok2_snoc r _ _ ih (by omega)
  · subst h; rw [lway_self]; trivial
  · have h1 := par_lt t (show 0 < i by omega)
    have ih := lway_ok2 t (par t i) j
    obtain ⟨r, e⟩ := lway_head t (par t i) j
    rw [lway_gt t h, e]
    rw [e] at ih
    exact ⟨by omega, ih⟩
termination_by i + j
theorem strip_stop {A B : List Nat} (h : ∀ a x y b z u, A = a ++ [x] ++ [y] → B = b ++ [z] ++ [u] → x ≠ z) : join (strip A.reverse B.reverse) = A ++ B.dropLast.reverse := by
  have key : strip A.reverse B.reverse = (A.reverse, B.reverse) := by
    match ea : A.reverse, eb : B.reverse with
    | [], b => cases b <;> simp [strip]
    | [c], b => cases b with
      | nil => simp [strip]
      | cons d ys => cases ys <;> simp [strip]
    | c :: x :: xs, [] => simp [strip]
    | c :: x :: xs, [d] => simp [strip]
    | c :: x :: xs, d :: y :: ys =>
      have e1 : A = xs.reverse ++ [x] ++ [c] := by rw [← List.reverse_reverse A, ea]; simp
      have e2 : B = ys.reverse ++ [y] ++ [d] := by rw [← List.reverse_reverse B, eb]; simp
      have := h _ _ _ _ _ _ e1 e2
      rw [strip, if_neg this]
  unfold join
  rw [key, List.reverse_reverse, List.tail_reverse]
theorem strip_step (a : List Nat) (x y : Nat) (b : List Nat) (u : Nat) : join (strip (a ++ [x] ++ [y]).reverse (b ++ [x] ++ [u]).reverse) = join (strip (a ++ [x]).reverse (b ++ [x]).reverse) := by
  have e1 : (a ++ [x] ++ [y]).reverse = y :: x :: a.reverse := by simp
  have e2 : (b ++ [x] ++ [u]).reverse = u :: x :: b.reverse := by simp
  have e3 : (a ++ [x]).reverse = x :: a.reverse := by simp
  have e4 : (b ++ [x]).reverse = x :: b.reverse := by simp
  rw [e1, e2, e3, e4, strip, if_pos rfl]
end MT

namespace MT
theorem lway_len' (t : Tr) (i j : Nat) : (lway t i j).length ≤ max i j + 1 := by
  induction h : i + j using Nat.strongRecOn generalizing i j with
  | _ n ih =>
    by_cases h1 : i = j
    · subst h1; rw [lway_self]; simp
    · by_cases h2 : j < i
      · rw [lway_gt t h2]
        have hp := par_lt t (show 0 < i by omega)
        have := ih (par t i + j) (by omega) (par t i) j rfl
        rw [List.length_cons]
        omega
      · rw [lway_lt t (show i < j by omega)]
        have hp := par_lt t (show 0 < j by omega)
        have := ih (i + par t j) (by omega) i (par t j) rfl
        rw [List.length_append, List.length_singleton]
        omega
def steps (t : Tr) (i j : Nat) : Nat := (lway t i j).length - 1
theorem steps_self (t : Tr) (i : Nat) : steps t i i = 0 := by unfold steps; rw [lway_self]; rfl
theorem steps_le (t : Tr) (i j : Nat) : steps t i j ≤ max i j := by unfold steps; have := lway_len' t i j; omega
/-- along a row the distance changes by its length -/
theorem dist_edge (t : Tr) (i v : Nat) (hv : 0 < v) : dist t i v = dist t i (par t v) + ln t v ∨ dist t i (par t v) = dist t i v + ln t v := by
  induction i using Nat.strongRecOn with
  | _ i ih =>
    by_cases h1 : i < v
    · exact .inl (dist_lt t h1)
    · by_cases h2 : i = v
      · subst h2
        have hp := par_lt t hv
        right
        rw [dist_self, dist_gt t hp, dist_self]
        omega
      · have hp := par_lt t (show 0 < i by omega)
        have hpv := par_lt t hv
        have := ih _ hp
        rw [dist_gt t (show v < i by omega), dist_gt t (show par t v < i by omega)]
        omega
/-- the last row of a way -/
theorem last_edge (t : Tr) (i v : Nat) (h : i ≠ v) : ∃ q, lway t i v = lway t i q ++ [v] ∧ ((0 < v ∧ q = par t v ∧ dist t i v = dist t i q + ln t v) ∨ (0 < q ∧ q ≤ max i v ∧ v = par t q ∧ dist t i v = dist t i q + ln t q)) := by
  induction i using Nat.strongRecOn with
  | _ i ih =>
    by_cases h1 : i < v
    · exact ⟨par t v, lway_lt t h1, .inl ⟨by omega, rfl, dist_lt t h1⟩⟩
    · have hi : v < i := by omega
      have hp := par_lt t (show 0 < i by omega)
      by_cases h2 : par t i = v
      · refine ⟨i, ?_, .inr ⟨by omega, by omega, h2.symm, ?_⟩⟩
        · rw [lway_gt t hi, h2, lway_self, lway_self]
          rfl
        · rw [dist_gt t hi, h2, dist_self, dist_self]
          omega
      · obtain ⟨q, e, hq⟩ := ih _ hp h2
        have hqm : q ∈ lway t (par t i) v := by
          rw [e]
          obtain ⟨r, er⟩ := lway_last t (par t i) q
          rw [er]
          simp
        have hql := lway_mem t _ _ q hqm
        have hqi : q < i := by omega
        refine ⟨q, ?_, ?_⟩
        · rw [lway_gt t hi, e, lway_gt t hqi]
          rfl
        · rw [dist_gt t hi, dist_gt t hqi]
          rcases hq with ⟨a, b, c⟩ | ⟨a, b, c, d⟩
          · exact .inl ⟨a, b, by omega⟩
          · exact .inr ⟨a, by omega, c, by omega⟩
theorem lway_pos (t : Tr) (i j : Nat) : 0 < (lway t i j).length := by
  obtain ⟨r, e⟩ := lway_head t i j
  rw [e]; simp
theorem steps_last {t : Tr} {i v q : Nat} (e : lway t i v = lway t i q ++ [v]) : steps t i v = steps t i q + 1 := by
  unfold steps
  have := lway_pos t i q
  rw [e, List.length_append, List.length_singleton]
  omega
theorem dist_tri (t : Tr) (i k j : Nat) : dist t i j ≤ dist t i k + dist t k j := by
  induction h : steps t k j generalizing j with
  | zero =>
    by_cases hk : k = j
    · subst hk; rw [dist_self]; omega
    · obtain ⟨q, e, _⟩ := last_edge t k j hk
      have := steps_last e
      omega
  | succ n ih =>
    by_cases hk : k = j
    · subst hk; rw [dist_self]; omega
    · obtain ⟨q, e, hq⟩ := last_edge t k j hk
      have h1 := steps_last e
      have h2 := ih q (by omega)
      rcases hq with ⟨a, b, c⟩ | ⟨a, b, c, d⟩
      · subst b
        have := dist_edge t i j a
        omega
      · subst c
        have := dist_edge t i q a
        omega
/-! ### distances by relaxing -/
def mn (a b : Int) : Int := if b < a then b else a
theorem mn_le (a b : Int) : mn a b ≤ a ∧ mn a b ≤ b ∧ (mn a b = a ∨ mn a b = b) := by unfold mn; split <;> omega
theorem getD_set (xs : List Int) (i j : Nat) (v : Int) : (xs.set i v).getD j 0 = if i = j ∧ j < xs.length then v else xs.getD j 0 := by
  rw [List.getD_eq_getElem?_getD, List.getD_eq_getElem?_getD]
  by_cases h : i = j
  · subst h
    by_cases hl : i < xs.length
    · rw [List.getElem?_set_self hl, if_pos ⟨rfl, hl⟩]; rfl
    · rw [if_neg (fun z => hl z.2), List.getElem?_eq_none (by rw [List.length_set]; omega), List.getElem?_eq_none (by omega)]
  · rw [List.getElem?_set_ne h, if_neg (fun z => h z.1)]
def rl1 (xs : List Int) (k : Nat) (r : Nat × Nat) : List Int := xs.set (k + 1) (mn (xs.getD (k + 1) 0) (xs.getD r.1 0 + r.2))
def rl2 (xs : List Int) (k : Nat) (r : Nat × Nat) : List Int := xs.set r.1 (mn (xs.getD r.1 0) (xs.getD (k + 1) 0 + r.2))
structure FarInv (t : Tr) (m j k : Nat) (xs : List Int) : Prop where
  len : xs.length = t.length + 1
  low : ∀ v, v ≤ t.length → dist t m v ≤ xs.getD v 0
  top : ∀ v, v ≤ t.length → xs.getD v 0 ≤ 1000000000000
  fit : ∀ v, v ≤ t.length → steps t m v ≤ j → xs.getD v 0 = dist t m v
  row : ∀ k', k' < k → (steps t m (par t (k' + 1)) ≤ j → xs.getD (k' + 1) 0 ≤ dist t m (par t (k' + 1)) + ln t (k' + 1)) ∧ (steps t m (k' + 1) ≤ j → xs.getD (par t (k' + 1)) 0 ≤ dist t m (k' + 1) + ln t (k' + 1))
theorem steps_zero {t : Tr} {m v : Nat} (h : steps t m v = 0) : m = v := by
  by_cases hk : m = v
  · exact hk
  · obtain ⟨q, e, _⟩ := last_edge t m v hk
    have := steps_last e
    omega
theorem FarInv.start {t : Tr} (ht : TreeOk t) {m : Nat} (hm : m ≤ t.length) : FarInv t m 0 0 ((List.replicate (t.length + 1) 1000000000000).set m 0) := by
  have hg : ∀ v, v ≤ t.length → ((List.replicate (t.length + 1) (1000000000000 : Int)).set m 0).getD v 0 = if m = v then 0 else 1000000000000 := by
    intro v hv
    rw [getD_set]
    by_cases h : m = v
    · rw [if_pos ⟨h, by rw [List.length_replicate]; omega⟩, if_pos h]
    · rw [if_neg (fun z => h z.1), if_neg h, List.getD_eq_getElem?_getD, List.getElem?_replicate, if_pos (by omega)]
      rfl
  have ht1 := ht.1
  refine ⟨by simp, fun v hv => ?_, fun v hv => ?_, fun v hv hs => ?_, fun k' h => by omega⟩
  · rw [hg v hv]
    split
    · next h => subst h; rw [dist_self]; omega
    · have := dist_le ht m v; omega
  · rw [hg v hv]; split <;> omega
  · have h := steps_zero (Nat.le_zero.mp hs)
    rw [hg v hv, if_pos h, ← h, dist_self]
theorem FarInv.dec {t : Tr} {m j k i : Nat} {xs : List Int} {z : Int} (F : FarInv t m j k xs) (hi : i ≤ t.length) (h1 : z ≤ xs.getD i 0) (h2 : dist t m i ≤ z) : FarInv t m j k (xs.set i z) := by
  have hg : ∀ v, v ≤ t.length → (xs.set i z).getD v 0 = if i = v then z else xs.getD v 0 := fun v hv => by
    rw [getD_set]
    by_cases h : i = v
    · rw [if_pos ⟨h, by rw [F.len]; omega⟩, if_pos h]
    · rw [if_neg (fun q => h q.1), if_neg h]
  have hle : ∀ v, (xs.set i z).getD v 0 ≤ xs.getD v 0 := fun v => by
    rw [getD_set]
    split
    · next h => rw [← h.1]; exact h1
    · exact Int.le_refl _
  refine ⟨by rw [List.length_set]; exact F.len, fun v hv => ?_, fun v hv => Int.le_trans (hle v) (F.top v hv), fun v hv hs => ?_, fun k' hk => ⟨fun q => Int.le_trans (hle _) ((F.row k' hk).1 q), fun q => Int.le_trans (hle _) ((F.row k' hk).2 q)⟩⟩
  · rw [hg v hv]
    split
    · next h => rw [← h]; exact h2
    · exact F.low v hv
  · have e := F.fit v hv hs
    rw [hg v hv]
    split
    · next h => subst h; omega
    · exact e
theorem FarInv.step {t : Tr} (ht : TreeOk t) {m j k : Nat} {xs : List Int} (F : FarInv t m j k xs) {r : Nat × Nat} (hr : t[k]? = some r) : FarInv t m j k (rl1 xs k r) ∧ FarInv t m j (k + 1) (rl2 (rl1 xs k r) k r) := by
  obtain ⟨ep, el⟩ := par_of ht hr
  have hk : k < t.length := (List.getElem?_eq_some_iff.mp hr).1
  have hp := (ht.2 k r hr).1
  have ed := dist_edge t m (k + 1) (by omega)
  rw [ep, el] at ed
  have l1 := F.low (k + 1) (by omega)
  have l2 := F.low r.1 (by omega)
  have m1 := mn_le (xs.getD (k + 1) 0) (xs.getD r.1 0 + r.2)
  have F1 : FarInv t m j k (rl1 xs k r) := F.dec (by omega) m1.1 (by omega)
  have g1 : (rl1 xs k r).getD (k + 1) 0 = mn (xs.getD (k + 1) 0) (xs.getD r.1 0 + r.2) := by
    unfold rl1; rw [getD_set, if_pos ⟨rfl, by rw [F.len]; omega⟩]
  have l3 := F1.low (k + 1) (by omega)
  have l4 := F1.low r.1 (by omega)
  have m2 := mn_le ((rl1 xs k r).getD r.1 0) ((rl1 xs k r).getD (k + 1) 0 + r.2)
  have F2 : FarInv t m j k (rl2 (rl1 xs k r) k r) := F1.dec (by omega) m2.1 (by omega)
  refine ⟨F1, F2.len, F2.low, F2.top, F2.fit, fun k' hk' => ?_⟩
  by_cases e : k' = k
  · subst e
    rw [ep, el]
    have ne : r.1 ≠ k' + 1 := by omega
    have g2 : (rl2 (rl1 xs k' r) k' r).getD (k' + 1) 0 = (rl1 xs k' r).getD (k' + 1) 0 := by
      unfold rl2; rw [getD_set, if_neg (fun z => ne z.1)]
    have g3 : (rl2 (rl1 xs k' r) k' r).getD r.1 0 = mn ((rl1 xs k' r).getD r.1 0) ((rl1 xs k' r).getD (k' + 1) 0 + r.2) := by
      unfold rl2; rw [getD_set, if_pos ⟨rfl, by rw [F1.len]; omega⟩]
    refine ⟨fun q => ?_, fun q => ?_⟩
    · rw [g2, g1]
      have := F.fit r.1 (by omega) q
      omega
    · rw [g3]
      have := F1.fit (k' + 1) (by omega) q
      omega
  · exact F2.row k' (by omega)
theorem FarInv.next {t : Tr} (ht : TreeOk t) {m j : Nat} (hm : m ≤ t.length) {xs : List Int} (F : FarInv t m j t.length xs) : FarInv t m (j + 1) 0 xs := by
  refine ⟨F.len, F.low, F.top, fun v hv hs => ?_, fun k' h => by omega⟩
  by_cases hk : m = v
  · subst hk
    exact F.fit _ hv (by rw [steps_self]; omega)
  · obtain ⟨q, e, hq⟩ := last_edge t m v hk
    have h1 := steps_last e
    have lo := F.low v hv
    rcases hq with ⟨a, b, c⟩ | ⟨a, b, c, d⟩
    · subst b
      have := (F.row (v - 1) (by omega)).1
      rw [show v - 1 + 1 = v by omega] at this
      have := this (by omega)
      omega
    · have := (F.row (q - 1) (by omega)).2
      rw [show q - 1 + 1 = q by omega, ← c] at this
      have := this (by omega)
      omega
theorem FarInv.done {t : Tr} {m : Nat} (hm : m ≤ t.length) {xs : List Int} (F : FarInv t m t.length 0 xs) : xs = (List.range (t.length + 1)).map (dist t m) := by
  apply List.ext_getElem?
  intro v
  by_cases hv : v ≤ t.length
  · have := F.fit v hv (by have := steps_le t m v; omega)
    rw [List.getElem?_map, List.getElem?_range (by omega)]
    have hl : v < xs.length := by rw [F.len]; omega
    rw [List.getD_eq_getElem?_getD, List.getElem?_eq_getElem hl] at this
    rw [List.getElem?_eq_getElem hl]
    exact congrArg some this
  · rw [List.getElem?_eq_none (by rw [F.len]; omega), List.getElem?_eq_none (by simp; omega)]
end MT

/-! M03: windows, pairs that exclude all tables, earliest and latest tables. -/
namespace MT
open DL (minI maxI minI_le minI_mem le_maxI maxI_mem minI_uniq maxI_uniq)
theorem fs_miss {α : Type} {f : Nat → Option α} {n : Nat} (h : ∀ k, k < n → f k = none) : (List.range n).findSome? f = none := List.findSome?_eq_none_iff.mpr fun x hx => h x (List.mem_range.mp hx)
theorem fs_hit {α : Type} {f : Nat → Option α} {i : Nat} {x : α} (h0 : ∀ k, k < i → f k = none) (h1 : f i = some x) : ∀ {n : Nat}, i < n → (List.range n).findSome? f = some x
  | 0, h => by omega
  | n + 1, h => by
    rw [List.range_succ, List.findSome?_append]
    by_cases hi : i < n
    · rw [fs_hit h0 h1 hi]
      rfl
    · have : i = n := by omega
      subst this
      rw [fs_miss h0]
      simp [h1]
abbrev Wn := List (Int × Option Int)
def Win1 (w : Int × Option Int) : Prop := 0 ≤ w.1 ∧ w.1 ≤ 1000000000 ∧ ∀ l, w.2 = some l → w.1 ≤ l ∧ l ≤ 1000000000
def WinOk (t : Tr) (ws : Wn) : Prop := ws.length = t.length + 1 ∧ ∀ w ∈ ws, Win1 w
def apart (t : Tr) (ws : Wn) (i j : Nat) : Bool := match (ws.getD j (0, none)).2 with
  | none => false
  | some l => decide (l + dist t i j < (ws.getD i (0, none)).1)
def pair1 (t : Tr) (ws : Wn) (i : Nat) : Option (Nat × Nat) := (List.range ws.length).findSome? fun j => if apart t ws i j = true then some (i, j) else none
def pairOf (t : Tr) (ws : Wn) : Option (Nat × Nat) := (List.range ws.length).findSome? (pair1 t ws)
theorem win_get {t : Tr} {ws : Wn} (h : WinOk t ws) {i : Nat} (hi : i ≤ t.length) : ∃ w, ws[i]? = some w ∧ ws.getD i (0, none) = w ∧ Win1 w := by
  have hl : i < ws.length := by rw [h.1]; omega
  exact ⟨ws[i], List.getElem?_eq_getElem hl, by rw [List.getD_eq_getElem?_getD, List.getElem?_eq_getElem hl]; rfl, h.2 _ (List.getElem_mem hl)⟩
theorem pair1_none {t : Tr} {ws : Wn} {i : Nat} (h : ∀ j, j < ws.length → apart t ws i j = false) : pair1 t ws i = none := fs_miss fun j hj => by rw [if_neg (by rw [h j hj]; decide)]
theorem pair1_some {t : Tr} {ws : Wn} {i j : Nat} (h : ∀ k, k < j → apart t ws i k = false) (hj : apart t ws i j = true) (hl : j < ws.length) : pair1 t ws i = some (i, j) :=
  fs_hit (i := j) (fun k hk => by rw [if_neg (by rw [h k hk]; decide)]) (by rw [if_pos hj]) hl
theorem pairOf_hit {t : Tr} {ws : Wn} {i j : Nat} (h0 : ∀ k, k < i → pair1 t ws k = none) (hi : i < ws.length) (h : ∀ k, k < j → apart t ws i k = false) (hj : apart t ws i j = true) (hl : j < ws.length) : pairOf t ws = some (i, j) :=
  fs_hit h0 (pair1_some h hj hl) hi
theorem pair_le {t : Tr} {ws : Wn} (h : WinOk t ws) {p : Nat × Nat} (e : pairOf t ws = some p) : p.1 ≤ t.length ∧ p.2 ≤ t.length := by
  unfold pairOf at e
  obtain ⟨i, hi, e1⟩ := List.exists_of_findSome?_eq_some e
  unfold pair1 at e1
  obtain ⟨j, hj, e2⟩ := List.exists_of_findSome?_eq_some e1
  have hi := List.mem_range.mp hi
  have hj := List.mem_range.mp hj
  have hl := h.1
  split at e2
  · cases e2
    exact ⟨by show i ≤ _; omega, by show j ≤ _; omega⟩
  · cases e2
/-! ### pairs -/
theorem apart_iff {t : Tr} {ws : Wn} {i j : Nat} : apart t ws i j = true ↔ ∃ l, (ws.getD j (0, none)).2 = some l ∧ l + dist t i j < (ws.getD i (0, none)).1 := by
  unfold apart
  cases (ws.getD j (0, none)).2 with
  | none => simp
  | some l => simp
theorem pair_none {t : Tr} {ws : Wn} (h : pairOf t ws = none) {i j : Nat} (hi : i < ws.length) (hj : j < ws.length) : apart t ws i j = false := by
  unfold pairOf at h
  have h1 := List.findSome?_eq_none_iff.mp h i (List.mem_range.mpr hi)
  unfold pair1 at h1
  have h2 := List.findSome?_eq_none_iff.mp h1 j (List.mem_range.mpr hj)
  cases e : apart t ws i j with
  | false => rfl
  | true => rw [if_pos e] at h2; cases h2
theorem pair_no {t : Tr} {ws : Wn} (h : ∀ i j, i < ws.length → j < ws.length → apart t ws i j = false) : pairOf t ws = none := fs_miss fun i hi => pair1_none fun j hj => h i j hi hj
theorem pair_yes {t : Tr} {ws : Wn} {p : Nat × Nat} (h : pairOf t ws = some p) : p.1 < ws.length ∧ p.2 < ws.length ∧ apart t ws p.1 p.2 = true := by
  unfold pairOf at h
  obtain ⟨i, hi, h1⟩ := List.exists_of_findSome?_eq_some h
  unfold pair1 at h1
  obtain ⟨j, hj, h2⟩ := List.exists_of_findSome?_eq_some h1
  split at h2
  · next e => cases h2; exact ⟨List.mem_range.mp hi, List.mem_range.mp hj, e⟩
  · cases h2
/-! ### earliest -/
def lowsAt (t : Tr) (ws : Wn) (i : Nat) : List Int := ws.zipIdx.map fun q => q.1.1 - dist t i q.2
def earl (t : Tr) (ws : Wn) (i : Nat) : Int := maxI (lowsAt t ws i)
def earls (t : Tr) (ws : Wn) : List Int := (List.range ws.length).map (earl t ws)
theorem mem_lows {t : Tr} {ws : Wn} {i : Nat} {x : Int} : x ∈ lowsAt t ws i ↔ ∃ k w, ws[k]? = some w ∧ x = w.1 - dist t i k := by
  unfold lowsAt
  rw [List.mem_map]
  constructor
  · rintro ⟨⟨w, k⟩, h, rfl⟩
    exact ⟨k, w, by
      obtain ⟨n, hn, e⟩ := List.getElem_of_mem h
      have h2 : ws.zipIdx[n]? = some (w, k) := by rw [List.getElem?_eq_getElem hn, e]
      rw [List.getElem?_zipIdx] at h2
      cases e3 : ws[n]? with
      | none => rw [e3] at h2; cases h2
      | some v =>
        rw [e3] at h2
        simp at h2
        rw [← h2.2, e3, h2.1], rfl⟩
  · rintro ⟨k, w, h, rfl⟩
    refine ⟨(w, k), ?_, rfl⟩
    have : ws.zipIdx[k]? = some (w, k) := by rw [List.getElem?_zipIdx, h]; simp
    exact List.mem_of_getElem? this
theorem lows_ne {t : Tr} {ws : Wn} {i : Nat} (h : 0 < ws.length) : lowsAt t ws i ≠ [] := by
  intro e
  have := congrArg List.length e
  unfold lowsAt at this
  simp at this
  rw [this] at h
  simp at h
theorem earl_ge {t : Tr} {ws : Wn} {i k : Nat} {w : Int × Option Int} (h : ws[k]? = some w) : w.1 - dist t i k ≤ earl t ws i := le_maxI (mem_lows.mpr ⟨k, w, h, rfl⟩)
theorem earl_le {t : Tr} {ws : Wn} {i : Nat} {b : Int} (hl : 0 < ws.length) (h : ∀ k w, ws[k]? = some w → w.1 - dist t i k ≤ b) : earl t ws i ≤ b := by
  obtain ⟨k, w, e1, e2⟩ := mem_lows.mp (maxI_mem (lows_ne (t := t) (i := i) hl))
  show maxI _ ≤ b
  rw [e2]
  exact h k w e1
theorem earl_lip {t : Tr} {ws : Wn} (hl : 0 < ws.length) (i j : Nat) : earl t ws i ≤ earl t ws j + dist t i j := earl_le hl fun k w h => by
  have h1 := earl_ge (t := t) (i := j) h
  have h2 := dist_tri t j i k
  have h3 := dist_comm t i j
  omega
theorem earl_least {t : Tr} {ws : Wn} {i : Nat} {w : Int × Option Int} (h : ws[i]? = some w) : w.1 ≤ earl t ws i := by
  have := earl_ge (t := t) (i := i) h
  rw [dist_self] at this
  omega
theorem earl_last {t : Tr} {ws : Wn} (hn : pairOf t ws = none) {i : Nat} {w : Int × Option Int} {l : Int} (h : ws[i]? = some w) (hw : w.2 = some l) : earl t ws i ≤ l := by
  have hi := (List.getElem?_eq_some_iff.mp h).1
  refine earl_le (by omega) fun k v hv => ?_
  have hk := (List.getElem?_eq_some_iff.mp hv).1
  have ha := pair_none hn hk hi
  have hb : ¬ (l + dist t k i < v.1) := fun hlt => by
    rw [apart_iff.mpr ⟨l, by rw [List.getD_eq_getElem?_getD, h]; exact hw, by rw [List.getD_eq_getElem?_getD, hv]; exact hlt⟩] at ha
    cases ha
  have := dist_comm t i k
  omega
theorem row_dist {t : Tr} (ht : TreeOk t) {k : Nat} {p : Nat × Nat} (h : t[k]? = some p) : dist t (k + 1) p.1 = p.2 := by
  have h1 := par_of ht h
  have h2 := (ht.2 k p h).1
  rw [dist_gt t (by omega), h1.1, h1.2, dist_self]
  omega
theorem earl_row {t : Tr} (ht : TreeOk t) {ws : Wn} (hl : 0 < ws.length) {k : Nat} {p : Nat × Nat} (h : t[k]? = some p) : earl t ws (k + 1) - earl t ws p.1 ≤ p.2 ∧ earl t ws p.1 - earl t ws (k + 1) ≤ p.2 := by
  have h1 := earl_lip (t := t) hl (k + 1) p.1
  have h2 := earl_lip (t := t) hl p.1 (k + 1)
  have h3 := row_dist ht h
  have h4 := dist_comm t p.1 (k + 1)
  omega
/-! ### latest -/
def lastsAt (t : Tr) (ws : Wn) (i : Nat) : List Int := ws.zipIdx.filterMap fun q => q.1.2.map fun l => l + dist t i q.2
def late (t : Tr) (ws : Wn) (i : Nat) : Option Int := if lastsAt t ws i = [] then none else some (minI (lastsAt t ws i))
theorem mem_lasts {t : Tr} {ws : Wn} {i : Nat} {x : Int} : x ∈ lastsAt t ws i ↔ ∃ k w l, ws[k]? = some w ∧ w.2 = some l ∧ x = l + dist t i k := by
  unfold lastsAt
  rw [List.mem_filterMap]
  constructor
  · rintro ⟨⟨w, k⟩, h, e⟩
    obtain ⟨n, hn, e1⟩ := List.getElem_of_mem h
    have h2 : ws.zipIdx[n]? = some (w, k) := by rw [List.getElem?_eq_getElem hn, e1]
    rw [List.getElem?_zipIdx] at h2
    cases e3 : ws[n]? with
    | none => rw [e3] at h2; cases h2
    | some v =>
      rw [e3] at h2
      simp at h2
      cases e4 : w.2 with
      | none => dsimp only at e; rw [e4] at e; cases e
      | some l =>
        dsimp only at e
        rw [e4] at e
        cases e
        exact ⟨k, w, l, by rw [← h2.2, e3, h2.1], e4, rfl⟩
  · rintro ⟨k, w, l, h, hl, rfl⟩
    refine ⟨(w, k), ?_, by dsimp only; rw [hl]; rfl⟩
    have : ws.zipIdx[k]? = some (w, k) := by rw [List.getElem?_zipIdx, h]; simp
    exact List.mem_of_getElem? this
/-! ### tables that fit -/
structure Fits (t : Tr) (ws : Wn) (xs : List Int) : Prop where
  len : xs.length = ws.length
  low : ∀ (i : Nat) (x : Int) (w : Int × Option Int), xs[i]? = some x → ws[i]? = some w → w.1 ≤ x ∧ x ≤ 2000000000
  high : ∀ (i : Nat) (x l : Int) (w : Int × Option Int), xs[i]? = some x → ws[i]? = some w → w.2 = some l → x ≤ l
  row : ∀ (k : Nat) (p : Nat × Nat), t[k]? = some p → xs.getD (k + 1) 0 - xs.getD p.1 0 ≤ p.2 ∧ xs.getD p.1 0 - xs.getD (k + 1) 0 ≤ p.2
theorem earls_len (t : Tr) (ws : Wn) : (earls t ws).length = ws.length := by unfold earls; simp
theorem earls_get {t : Tr} {ws : Wn} {i : Nat} (h : i < ws.length) : (earls t ws)[i]? = some (earl t ws i) := by unfold earls; rw [List.getElem?_map, List.getElem?_range h]; rfl
theorem earls_getD {t : Tr} {ws : Wn} {i : Nat} (h : i < ws.length) : (earls t ws).getD i 0 = earl t ws i := by rw [List.getD_eq_getElem?_getD, earls_get h]; rfl
theorem earl_hi {t : Tr} {ws : Wn} (h : WinOk t ws) (i : Nat) : earl t ws i ≤ 1000000000 := earl_le (by have := h.1; omega) fun k w e => by
  have h1 := (h.2 w (List.mem_of_getElem? e)).2.1
  have h2 := dist_nonneg t i k
  omega
theorem earl_lo {t : Tr} {ws : Wn} (h : WinOk t ws) {i : Nat} (hi : i < ws.length) : 0 ≤ earl t ws i := by
  have e := List.getElem?_eq_getElem hi
  have h1 := (h.2 _ (List.getElem_mem hi)).1
  have h2 := earl_least (t := t) e
  omega
theorem earls_fit {t : Tr} (ht : TreeOk t) {ws : Wn} (h : WinOk t ws) (hn : pairOf t ws = none) : Fits t ws (earls t ws) := by
  have hl := h.1
  refine ⟨earls_len t ws, fun i x w e1 e2 => ?_, fun i x l w e1 e2 e3 => ?_, fun k p e => ?_⟩
  · have hi := (List.getElem?_eq_some_iff.mp e2).1
    rw [earls_get hi] at e1
    cases e1
    have := earl_hi h i
    exact ⟨earl_least e2, by omega⟩
  · have hi := (List.getElem?_eq_some_iff.mp e2).1
    rw [earls_get hi] at e1
    cases e1
    exact earl_last hn e2 e3
  · have hk := (List.getElem?_eq_some_iff.mp e).1
    have hp := (ht.2 k p e).1
    rw [earls_getD (by omega), earls_getD (by omega)]
    exact earl_row ht (by omega) e
/-! ### the latest table -/
def lasts2 (ws : Wn) : List (Nat × Int) := ws.zipIdx.filterMap fun q => q.1.2.map fun l => (q.2, l)
theorem lastsAt_eq (t : Tr) (ws : Wn) (i : Nat) : lastsAt t ws i = (lasts2 ws).map fun p => p.2 + dist t i p.1 := by
  unfold lastsAt lasts2
  rw [List.map_filterMap]
  congr 1
  funext q
  cases q.1.2 <;> rfl
theorem lasts2_len (ws : Wn) : (lasts2 ws).length ≤ ws.length := by
  unfold lasts2
  exact Nat.le_trans (List.length_filterMap_le _ _) (by rw [List.length_zipIdx]; omega)
theorem mem_lasts2 {ws : Wn} {p : Nat × Int} (h : p ∈ lasts2 ws) : ∃ w, ws[p.1]? = some w ∧ w.2 = some p.2 := by
  unfold lasts2 at h
  obtain ⟨⟨w, k⟩, h1, h2⟩ := List.mem_filterMap.mp h
  obtain ⟨n, hn, e1⟩ := List.getElem_of_mem h1
  have h3 : ws.zipIdx[n]? = some (w, k) := by rw [List.getElem?_eq_getElem hn, e1]
  rw [List.getElem?_zipIdx] at h3
  cases e3 : ws[n]? with
  | none => rw [e3] at h3; cases h3
  | some v =>
    rw [e3] at h3
    simp at h3
    cases e4 : w.2 with
    | none => dsimp only at h2; rw [e4] at h2; cases h2
    | some l =>
      dsimp only at h2
      rw [e4] at h2
      cases h2
      exact ⟨w, by show ws[k]? = _; rw [← h3.2, e3, h3.1], e4⟩
theorem lastsAt_nil {t : Tr} {ws : Wn} {i : Nat} : lastsAt t ws i = [] ↔ lasts2 ws = [] := by rw [lastsAt_eq, List.map_eq_nil_iff]
def latI (t : Tr) (ws : Wn) (i : Nat) : Int := minI (lastsAt t ws i)
theorem late_none {t : Tr} {ws : Wn} (h : lasts2 ws = []) (i : Nat) : late t ws i = none := by unfold late; rw [if_pos (lastsAt_nil.mpr h)]
theorem late_some {t : Tr} {ws : Wn} (h : lasts2 ws ≠ []) (i : Nat) : late t ws i = some (latI t ws i) := by unfold late; rw [if_neg fun e => h (lastsAt_nil.mp e)]; rfl
theorem latI_le {t : Tr} {ws : Wn} {i k : Nat} {w : Int × Option Int} {l : Int} (h : ws[k]? = some w) (hl : w.2 = some l) : latI t ws i ≤ l + dist t i k := minI_le (mem_lasts.mpr ⟨k, w, l, h, hl, rfl⟩)
theorem latI_ge {t : Tr} {ws : Wn} {i : Nat} {b : Int} (hn : lasts2 ws ≠ []) (h : ∀ k w l, ws[k]? = some w → w.2 = some l → b ≤ l + dist t i k) : b ≤ latI t ws i := by
  obtain ⟨k, w, l, e1, e2, e3⟩ := mem_lasts.mp (minI_mem fun e => hn (lastsAt_nil (t := t) (i := i) |>.mp e))
  show b ≤ minI _
  rw [e3]
  exact h k w l e1 e2
theorem latI_lip {t : Tr} {ws : Wn} (hn : lasts2 ws ≠ []) (i j : Nat) : latI t ws i ≤ latI t ws j + dist t i j := by
  have : latI t ws i - dist t i j ≤ latI t ws j := latI_ge hn fun k w l e1 e2 => by
    have h1 := latI_le (t := t) (i := i) e1 e2
    have h2 := dist_tri t i j k
    omega
  omega
theorem latI_least {t : Tr} {ws : Wn} (hn : lasts2 ws ≠ []) (hp : pairOf t ws = none) {i : Nat} {w : Int × Option Int} (h : ws[i]? = some w) : w.1 ≤ latI t ws i := latI_ge hn fun k v l e1 e2 => by
  have hi := (List.getElem?_eq_some_iff.mp h).1
  have hk := (List.getElem?_eq_some_iff.mp e1).1
  have ha := pair_none hp hi hk
  by_cases hc : l + dist t i k < w.1
  · rw [apart_iff.mpr ⟨l, by rw [List.getD_eq_getElem?_getD, e1]; exact e2, by rw [List.getD_eq_getElem?_getD, h]; exact hc⟩] at ha
    cases ha
  · omega
theorem latI_last {t : Tr} {ws : Wn} {i : Nat} {w : Int × Option Int} {l : Int} (h : ws[i]? = some w) (hl : w.2 = some l) : latI t ws i ≤ l := by
  have := latI_le (t := t) (i := i) h hl
  rw [dist_self] at this
  omega
theorem latI_hi {t : Tr} (ht : TreeOk t) {ws : Wn} (h : WinOk t ws) (hn : lasts2 ws ≠ []) {i : Nat} (hi : i < ws.length) : latI t ws i ≤ 1100000000 := by
  obtain ⟨k, w, l, e1, e2, e3⟩ := mem_lasts.mp (minI_mem fun e => hn (lastsAt_nil (t := t) (i := i) |>.mp e))
  have hk := (List.getElem?_eq_some_iff.mp e1).1
  have h1 := ((h.2 w (List.mem_of_getElem? e1)).2.2 l e2).2
  have h2 := dist_le ht i k
  have h3 := h.1
  have h4 := ht.1
  show minI _ ≤ _
  rw [e3]
  omega
theorem latI_lo {t : Tr} {ws : Wn} (h : WinOk t ws) (hn : lasts2 ws ≠ []) (i : Nat) : 0 ≤ latI t ws i := latI_ge hn fun k w l e1 e2 => by
  have h1 := h.2 w (List.mem_of_getElem? e1)
  have h2 := h1.1
  have h3 := h1.2.2 l e2
  have h4 := dist_nonneg t i k
  omega
def lats (t : Tr) (ws : Wn) : List Int := (List.range ws.length).map (latI t ws)
theorem lats_len (t : Tr) (ws : Wn) : (lats t ws).length = ws.length := by unfold lats; simp
theorem lats_get {t : Tr} {ws : Wn} {i : Nat} (h : i < ws.length) : (lats t ws)[i]? = some (latI t ws i) := by unfold lats; rw [List.getElem?_map, List.getElem?_range h]; rfl
theorem lats_getD {t : Tr} {ws : Wn} {i : Nat} (h : i < ws.length) : (lats t ws).getD i 0 = latI t ws i := by rw [List.getD_eq_getElem?_getD, lats_get h]; rfl
theorem lats_fit {t : Tr} (ht : TreeOk t) {ws : Wn} (h : WinOk t ws) (hp : pairOf t ws = none) (hn : lasts2 ws ≠ []) : Fits t ws (lats t ws) := by
  have hl := h.1
  refine ⟨lats_len t ws, fun i x w e1 e2 => ?_, fun i x l w e1 e2 e3 => ?_, fun k p e => ?_⟩
  · have hi := (List.getElem?_eq_some_iff.mp e2).1
    rw [lats_get hi] at e1
    cases e1
    have := latI_hi ht h hn hi
    exact ⟨latI_least hn hp e2, by omega⟩
  · have hi := (List.getElem?_eq_some_iff.mp e2).1
    rw [lats_get hi] at e1
    cases e1
    exact latI_last e2 e3
  · have hk := (List.getElem?_eq_some_iff.mp e).1
    have hpp := (ht.2 k p e).1
    rw [lats_getD (by omega), lats_getD (by omega)]
    have h1 := latI_lip (t := t) hn (k + 1) p.1
    have h2 := latI_lip (t := t) hn p.1 (k + 1)
    have h3 := row_dist ht e
    have h4 := dist_comm t p.1 (k + 1)
    omega
/-- windows without last ticks exclude nothing -/
theorem pair_free {t : Tr} {ws : Wn} (h : lasts2 ws = []) : pairOf t ws = none := pair_no fun i j hi hj => by
  cases e : apart t ws i j with
  | false => rfl
  | true =>
    obtain ⟨l, h1, h2⟩ := apart_iff.mp e
    have hm : l + dist t i j ∈ lastsAt t ws i := mem_lasts.mpr ⟨j, ws[j], l, List.getElem?_eq_getElem hj, by rw [List.getD_eq_getElem?_getD, List.getElem?_eq_getElem hj] at h1; exact h1, rfl⟩
    rw [lastsAt_nil.mpr h] at hm
    cases hm
end MT

/-! M04: all tables of small windows; the greatest difference. -/
namespace MT
open DL (minI maxI minI_le minI_mem le_maxI maxI_mem minI_uniq maxI_uniq)
/-! ### a possible table differs by at most the distance -/
theorem tab_lip {t : Tr} (ht : TreeOk t) {xs : List Int} (h : ∀ (k : Nat) (p : Nat × Nat), t[k]? = some p → xs.getD (k + 1) 0 - xs.getD p.1 0 ≤ p.2 ∧ xs.getD p.1 0 - xs.getD (k + 1) 0 ≤ p.2) :
    ∀ (n i j : Nat), i + j ≤ n → i ≤ t.length → j ≤ t.length → xs.getD i 0 ≤ xs.getD j 0 + dist t i j
  | 0, i, j, hn, hi, hj => by
    have h1 : i = 0 := by omega
    have h2 : j = 0 := by omega
    subst h1
    subst h2
    rw [dist_self]
    omega
  | n + 1, i, j, hn, hi, hj => by
    by_cases e : i = j
    · subst e
      rw [dist_self]
      omega
    · by_cases hlt : j < i
      · have hk : i - 1 < t.length := by omega
        have ek := List.getElem?_eq_getElem hk
        have hp := par_of ht ek
        have hq := (ht.2 _ _ ek).1
        rw [show i - 1 + 1 = i by omega] at hp
        have hr := h _ _ ek
        rw [show i - 1 + 1 = i by omega] at hr
        have ih := tab_lip ht h n (par t i) j (by rw [hp.1]; omega) (by rw [hp.1]; omega) hj
        rw [dist_gt t hlt, hp.2]
        rw [hp.1] at ih ⊢
        omega
      · have hlt : i < j := by omega
        have hk : j - 1 < t.length := by omega
        have ek := List.getElem?_eq_getElem hk
        have hp := par_of ht ek
        have hq := (ht.2 _ _ ek).1
        rw [show j - 1 + 1 = j by omega] at hp
        have hr := h _ _ ek
        rw [show j - 1 + 1 = j by omega] at hr
        have ih := tab_lip ht h n i (par t j) (by rw [hp.1]; omega) hi (by rw [hp.1]; omega)
        rw [dist_lt t hlt, hp.2]
        rw [hp.1] at ih ⊢
        omega
theorem Fits.lip {t : Tr} (ht : TreeOk t) {ws : Wn} {xs : List Int} (h : Fits t ws xs) {i j : Nat} (hi : i ≤ t.length) (hj : j ≤ t.length) : xs.getD i 0 ≤ xs.getD j 0 + dist t i j := tab_lip ht h.row (i + j) i j (Nat.le_refl _) hi hj
theorem getD_of {α : Type} {xs : List α} {i : Nat} {x d : α} (h : xs[i]? = some x) : xs.getD i d = x := by rw [List.getD_eq_getElem?_getD, h]; rfl
theorem get_of {xs : List Int} {i : Nat} (h : i < xs.length) : xs[i]? = some (xs.getD i 0) := by rw [List.getD_eq_getElem?_getD, List.getElem?_eq_getElem h]; rfl
theorem Fits.ge {t : Tr} (ht : TreeOk t) {ws : Wn} (hw : WinOk t ws) {xs : List Int} (h : Fits t ws xs) {i : Nat} (hi : i ≤ t.length) : earl t ws i ≤ xs.getD i 0 := earl_le (by have := hw.1; omega) fun k w e => by
  have hk := (List.getElem?_eq_some_iff.mp e).1
  have hwl := hw.1
  have hxl := h.len
  have h1 := (h.low k _ w (get_of (by omega)) e).1
  have h2 := h.lip ht (i := k) (j := i) (by omega) hi
  have h3 := dist_comm t k i
  omega
theorem Fits.le {t : Tr} (ht : TreeOk t) {ws : Wn} (hw : WinOk t ws) {xs : List Int} (h : Fits t ws xs) (hn : lasts2 ws ≠ []) {i : Nat} (hi : i ≤ t.length) : xs.getD i 0 ≤ latI t ws i := latI_ge hn fun k w l e el => by
  have hk := (List.getElem?_eq_some_iff.mp e).1
  have hwl := hw.1
  have hxl := h.len
  have h1 := h.high k _ l w (get_of (by omega)) e el
  have h2 := h.lip ht (i := i) (j := k) hi (by omega)
  omega
theorem fits_pair {t : Tr} (ht : TreeOk t) {ws : Wn} (hw : WinOk t ws) {xs : List Int} (h : Fits t ws xs) : pairOf t ws = none := pair_no fun i j hi hj => by
  cases e : apart t ws i j with
  | false => rfl
  | true =>
    obtain ⟨l, h1, h2⟩ := apart_iff.mp e
    have hwl := hw.1
    have hxl := h.len
    have ei := List.getElem?_eq_getElem hi
    have ej := List.getElem?_eq_getElem hj
    rw [getD_of ej] at h1
    rw [getD_of ei] at h2
    have a1 := (h.low i _ _ (get_of (by omega)) ei).1
    have a2 := h.high j _ l _ (get_of (by omega)) ej h1
    have a3 := h.lip ht (i := i) (j := j) (by omega) (by omega)
    omega
/-! ### the greatest difference -/
def gd (t : Tr) (ws : Wn) (i j : Nat) : Int := match late t ws i with
  | none => dist t i j
  | some v => if v - earl t ws j < dist t i j then v - earl t ws j else dist t i j
theorem gd_le {t : Tr} (ht : TreeOk t) {ws : Wn} (hw : WinOk t ws) {xs : List Int} (h : Fits t ws xs) {i j : Nat} (hi : i ≤ t.length) (hj : j ≤ t.length) : xs.getD i 0 - xs.getD j 0 ≤ gd t ws i j := by
  have h1 := h.lip ht hi hj
  have h2 := h.ge ht hw hj
  unfold gd
  by_cases hn : lasts2 ws = []
  · rw [late_none hn]
    dsimp only
    omega
  · rw [late_some hn]
    have h3 := h.le ht hw hn hi
    dsimp only
    split <;> omega
/-- the number of the table that shows it -/
def topAt (t : Tr) (ws : Wn) (i : Nat) (v : Int) (k : Nat) : Int := if earl t ws k < v - dist t i k then v - dist t i k else earl t ws k
theorem top_lip {t : Tr} {ws : Wn} (hl : 0 < ws.length) (i : Nat) (v : Int) (a b : Nat) : topAt t ws i v a ≤ topAt t ws i v b + dist t a b := by
  have h1 := earl_lip (t := t) hl a b
  have h2 := dist_tri t i a b
  unfold topAt
  split <;> split <;> omega
theorem gd_top {t : Tr} (ht : TreeOk t) {ws : Wn} (hw : WinOk t ws) (hp : pairOf t ws = none) (hn : lasts2 ws ≠ []) {i j : Nat} (hi : i ≤ t.length) (hj : j ≤ t.length) : ∃ xs, Fits t ws xs ∧ xs.getD i 0 - xs.getD j 0 = gd t ws i j := by
  have hwl := hw.1
  have hl0 : 0 < ws.length := by omega
  obtain ⟨v, hv⟩ : ∃ v, v = earl t ws j + gd t ws i j := ⟨_, rfl⟩
  have hg : v ≤ latI t ws i ∧ v ≤ earl t ws j + dist t i j ∧ (v = latI t ws i ∨ v = earl t ws j + dist t i j) := by
    rw [hv]
    unfold gd
    rw [late_some hn]
    dsimp only
    split <;> omega
  have h1 := earl_lip (t := t) hl0 i j
  have hel : earl t ws i ≤ latI t ws i := latI_ge hn fun k w l e el => by
    have hk := (List.getElem?_eq_some_iff.mp e).1
    have a1 := earl_lip (t := t) hl0 i k
    have a2 := earl_last hp e el
    omega
  have hev : earl t ws i ≤ v := by omega
  have lenL : ((List.range ws.length).map (topAt t ws i v)).length = ws.length := by simp
  have getL : ∀ {k : Nat}, k < ws.length → ((List.range ws.length).map (topAt t ws i v)).getD k 0 = topAt t ws i v k := fun {k} hk => by
    rw [List.getD_eq_getElem?_getD, List.getElem?_map, List.getElem?_range hk]
    rfl
  have getS : ∀ {k : Nat} {x : Int}, ((List.range ws.length).map (topAt t ws i v))[k]? = some x → k < ws.length ∧ x = topAt t ws i v k := fun {k x} e => by
    have hk := (List.getElem?_eq_some_iff.mp e).1
    rw [lenL] at hk
    rw [List.getElem?_map, List.getElem?_range hk] at e
    cases e
    exact ⟨hk, rfl⟩
  refine ⟨(List.range ws.length).map (topAt t ws i v), ⟨lenL, fun k x w e1 e2 => ?_, fun k x l w e1 e2 e3 => ?_, fun k p e => ?_⟩, ?_⟩
  · obtain ⟨hk, rfl⟩ := getS e1
    have a1 := earl_least (t := t) e2
    have a2 := earl_hi hw (t := t) k
    have a3 := latI_hi ht hw hn (i := i) (by omega)
    have a4 := dist_nonneg t i k
    unfold topAt
    split <;> omega
  · obtain ⟨hk, rfl⟩ := getS e1
    have a1 := earl_last hp e2 e3
    have a2 := latI_le (t := t) (i := i) e2 e3
    unfold topAt
    split <;> omega
  · have hk := (List.getElem?_eq_some_iff.mp e).1
    have hpp := (ht.2 k p e).1
    rw [getL (by omega), getL (by omega)]
    have a1 := top_lip (t := t) hl0 i v (k + 1) p.1
    have a2 := top_lip (t := t) hl0 i v p.1 (k + 1)
    have a3 := row_dist ht e
    have a4 := dist_comm t p.1 (k + 1)
    omega
  · rw [getL (by omega), getL (by omega)]
    have a1 : topAt t ws i v i = v := by unfold topAt; rw [dist_self]; split <;> omega
    have a2 : topAt t ws i v j = earl t ws j := by unfold topAt; split <;> omega
    omega
/-! ### all tables -/
def winNums (w : Int × Option Int) : List Int := (List.range (w.2.getD 0 + 1 - w.1).toNat).map fun (k : Nat) => w.1 + (k : Int)
theorem mem_nums {w : Int × Option Int} {y : Int} : y ∈ winNums w ↔ w.1 ≤ y ∧ y ≤ w.2.getD 0 := by
  unfold winNums
  rw [List.mem_map]
  constructor
  · rintro ⟨k, hk, rfl⟩
    have := List.mem_range.mp hk
    omega
  · rintro ⟨h1, h2⟩
    exact ⟨(y - w.1).toNat, List.mem_range.mpr (by omega), by omega⟩
def okRow (t : Tr) (m : Nat) (xs : List Int) (y : Int) : Bool := decide (m = 0) || decide (y - xs.getD (t.getD (m - 1) (0, 0)).1 0 ≤ (t.getD (m - 1) (0, 0)).2 ∧ xs.getD (t.getD (m - 1) (0, 0)).1 0 - y ≤ (t.getD (m - 1) (0, 0)).2)
def ext1 (t : Tr) (ws : Wn) (m : Nat) (xs : List Int) : List (List Int) := ((winNums (ws.getD m (0, none))).filter (okRow t m xs)).map fun y => xs ++ [y]
def every (t : Tr) (ws : Wn) : Nat → List (List Int)
  | 0 => [[]]
  | m + 1 => (every t ws m).flatMap (ext1 t ws m)
theorem every_fit {t : Tr} (ht : TreeOk t) {ws : Wn} (hw : WinOk t ws) (ha : ∀ w ∈ ws, ∃ l, w.2 = some l) : ∀ {m : Nat}, m ≤ ws.length → ∀ {xs : List Int}, xs ∈ every t ws m ↔ xs.length = m ∧ (∀ i, i < m → (ws.getD i (0, none)).1 ≤ xs.getD i 0 ∧ xs.getD i 0 ≤ (ws.getD i (0, none)).2.getD 0) ∧ ∀ k p, k + 1 < m → t[k]? = some p → xs.getD (k + 1) 0 - xs.getD p.1 0 ≤ p.2 ∧ xs.getD p.1 0 - xs.getD (k + 1) 0 ≤ p.2
  | 0, _, xs => by
    show xs ∈ [[]] ↔ _
    rw [List.mem_singleton]
    constructor
    · rintro rfl
      exact ⟨rfl, fun i hi => by omega, fun k p hk => by omega⟩
    · rintro ⟨h, _⟩
      exact List.length_eq_zero_iff.mp h
  | m + 1, hm, xs => by
    have hwl := hw.1
    have ih := fun {ys} => every_fit ht hw ha (m := m) (by omega) (xs := ys)
    show xs ∈ (every t ws m).flatMap (ext1 t ws m) ↔ _
    rw [List.mem_flatMap]
    constructor
    · rintro ⟨ys, hy, hx⟩
      obtain ⟨l1, l2, l3⟩ := ih.mp hy
      unfold ext1 at hx
      obtain ⟨y, hy2, rfl⟩ := List.mem_map.mp hx
      obtain ⟨n1, n2⟩ := List.mem_filter.mp hy2
      have n3 := mem_nums.mp n1
      have old : ∀ {i : Nat}, i < m → (ys ++ [y]).getD i 0 = ys.getD i 0 := fun {i} hi => by rw [List.getD_eq_getElem?_getD, List.getElem?_append_left (by omega), List.getD_eq_getElem?_getD]
      have new : (ys ++ [y]).getD m 0 = y := by rw [List.getD_eq_getElem?_getD, List.getElem?_append_right (by omega), l1]; simp
      refine ⟨by simp [l1], fun i hi => ?_, fun k p hk e => ?_⟩
      · by_cases h : i < m
        · rw [old h]; exact l2 i h
        · rw [show i = m by omega, new]; exact n3
      · have hpp := (ht.2 k p e).1
        by_cases h : k + 1 < m
        · rw [old h, old (by omega)]; exact l3 k p h e
        · have hkm : k + 1 = m := by omega
          rw [hkm, new, old (by omega)]
          have hg : t.getD (m - 1) (0, 0) = p := by rw [show m - 1 = k by omega, getD_of e]
          unfold okRow at n2
          rw [hg] at n2
          have : m ≠ 0 := by omega
          simpa [this] using n2
    · rintro ⟨l1, l2, l3⟩
      have hlen : m < xs.length := by omega
      have hx : xs = xs.take m ++ [xs.getD m 0] := by
        have h := List.take_append_drop m xs
        rw [List.drop_eq_getElem_cons hlen, List.drop_eq_nil_of_le (by omega)] at h
        rw [List.getD_eq_getElem?_getD, List.getElem?_eq_getElem hlen]
        exact h.symm
      have old : ∀ {i : Nat}, i < m → (xs.take m).getD i 0 = xs.getD i 0 := fun {i} hi => by rw [List.getD_eq_getElem?_getD, List.getElem?_take_of_lt hi, List.getD_eq_getElem?_getD]
      refine ⟨xs.take m, ih.mpr ⟨by rw [List.length_take]; omega, fun i hi => by rw [old hi]; exact l2 i (by omega), fun k p hk e => ?_⟩, ?_⟩
      · have hpp := (ht.2 k p e).1
        rw [old hk, old (by omega)]
        exact l3 k p (by omega) e
      · unfold ext1
        refine List.mem_map.mpr ⟨xs.getD m 0, List.mem_filter.mpr ⟨mem_nums.mpr (l2 m (by omega)), ?_⟩, hx.symm⟩
        unfold okRow
        by_cases h : m = 0
        · simp [h]
        · have hk : m - 1 < t.length := by omega
          have ek := List.getElem?_eq_getElem hk
          have hpp := (ht.2 _ _ ek).1
          have hr := l3 (m - 1) _ (by omega) ek
          rw [show m - 1 + 1 = m by omega] at hr
          rw [getD_of ek, old (by omega)]
          simpa [h] using hr
theorem every_fits {t : Tr} (ht : TreeOk t) {ws : Wn} (hw : WinOk t ws) (ha : ∀ w ∈ ws, ∃ l, w.2 = some l) {xs : List Int} : xs ∈ every t ws ws.length ↔ Fits t ws xs := by
  have hwl := hw.1
  rw [every_fit ht hw ha (Nat.le_refl _)]
  constructor
  · rintro ⟨l1, l2, l3⟩
    refine ⟨l1, fun i x w e1 e2 => ?_, fun i x l w e1 e2 e3 => ?_, fun k p e => ?_⟩
    · have hi := (List.getElem?_eq_some_iff.mp e2).1
      have h1 := l2 i hi
      rw [getD_of e1, getD_of e2] at h1
      obtain ⟨l, hl⟩ := ha w (List.mem_of_getElem? e2)
      have h2 := ((hw.2 w (List.mem_of_getElem? e2)).2.2 l hl).2
      rw [hl] at h1
      simp at h1
      omega
    · have hi := (List.getElem?_eq_some_iff.mp e2).1
      have h1 := l2 i hi
      rw [getD_of e1, getD_of e2, e3] at h1
      simp at h1
      omega
    · have hk := (List.getElem?_eq_some_iff.mp e).1
      exact l3 k p (by omega) e
  · intro h
    have hl := h.len
    refine ⟨hl, fun i hi => ?_, fun k p hk e => h.row k p e⟩
    have ei := List.getElem?_eq_getElem hi
    obtain ⟨l, el⟩ := ha _ (List.getElem_mem hi)
    rw [getD_of ei, el]
    exact ⟨(h.low i _ _ (get_of (by omega)) ei).1, h.high i _ l _ (get_of (by omega)) ei el⟩
theorem ext1_len {t : Tr} {ws : Wn} {m : Nat} {xs : List Int} {c : Nat} (h : (winNums (ws.getD m (0, none))).length ≤ c) : (ext1 t ws m xs).length ≤ c := by
  unfold ext1
  rw [List.length_map]
  exact Nat.le_trans (List.length_filter_le _ _) h
theorem flat_len {α : Type} (f : α → List (List Int)) {c : Nat} : ∀ (L : List α), (∀ x ∈ L, (f x).length ≤ c) → (L.flatMap f).length ≤ c * L.length
  | [], _ => by simp
  | x :: L, h => by
    have h1 := h x (by simp)
    have h2 := flat_len f L fun y hy => h y (List.mem_cons_of_mem _ hy)
    rw [List.flatMap_cons, List.length_append, List.length_cons, Nat.mul_add]
    omega
theorem every_len {t : Tr} {ws : Wn} {c : Nat} (h : ∀ m, (winNums (ws.getD m (0, none))).length ≤ c) : ∀ m, (every t ws m).length ≤ c ^ m
  | 0 => by simp [every]
  | m + 1 => by
    have h1 := flat_len (ext1 t ws m) (every t ws m) fun x _ => ext1_len (h m)
    have h2 := every_len (t := t) h m
    show ((every t ws m).flatMap (ext1 t ws m)).length ≤ _
    rw [Nat.pow_succ]
    exact Nat.le_trans h1 (by rw [Nat.mul_comm]; exact Nat.mul_le_mul_right c h2)
end MT

/-! DLH: the data of the laws: trees, tables, windows, pairs; helpers. -/
namespace DL
open PySem PySem.Spec PyProof.Rows L2 MT
@[reducible] def rowD (p : Nat × Nat) : D := .tup [.int p.1, .int p.2]
@[reducible] def treeD (t : Tr) : D := .tup (t.map rowD)
@[reducible] def natD (n : Nat) : D := .int n
theorem tree_at {t : Tr} {i : Int} {k : Nat} (e : i = k) {p : Nat × Nat} (h : t[k]? = some p) : atI (t.map rowD) i = some (rowD p) := atI_of e (by rw [List.getElem?_map, h]; rfl)
theorem tree_get {t : Tr} {m : Nat} (ht : TreeOk t) (h0 : 0 < m) (h1 : m ≤ t.length) : ∃ p, t[m - 1]? = some p ∧ par t m = p.1 ∧ ln t m = p.2 ∧ p.1 < m := by
  have hl : m - 1 < t.length := by omega
  refine ⟨t[m - 1], List.getElem?_eq_getElem hl, ?_⟩
  have := par_of ht (List.getElem?_eq_getElem hl)
  rw [show m - 1 + 1 = m by omega] at this
  have hp := (ht.2 _ _ (List.getElem?_eq_getElem hl)).1
  exact ⟨this.1, this.2, by omega⟩
theorem tree_snoc {t : Tr} (ht : TreeOk t) (hl : t.length ≤ 10) {p l : Nat} (hp : p ≤ t.length) (h1 : 1 ≤ l) (h2 : l ≤ 1000000) : TreeOk (t ++ [(p, l)]) := by
  refine ⟨by rw [List.length_append, List.length_singleton]; omega, fun k q e => ?_⟩
  by_cases hk : k < t.length
  · rw [List.getElem?_append_left hk] at e
    exact ht.2 k q e
  · rw [List.getElem?_append_right (by omega)] at e
    have hk0 : k - t.length = 0 := by
      have := (List.getElem?_eq_some_iff.mp e).1
      rw [List.length_singleton] at this
      omega
    rw [hk0] at e
    cases e
    exact ⟨by show p ≤ k; omega, h1, h2⟩
theorem bels_tree (n : Nat) (t : Tr) : bels n (t.map rowD) = true := bels_of fun d hd => by
  obtain ⟨i, _, rfl⟩ := List.mem_map.mp hd
  rfl
theorem intsOf_ints (ns : List Int) : intsOf (ns.map D.int) = some ns := by
  induction ns with
  | nil => rfl
  | cons n ns ih => rw [List.map_cons, intsOf, ih]; rfl
theorem get_old {M : Sto} {n : Nat} {c : Cell} (d : Cell) (h : M[n]? = some c) : (M ++ [d])[n]? = some c := by
  rw [List.getElem?_append_left (List.getElem?_eq_some_iff.mp h).1]
  exact h
theorem bels_int (n : Nat) (xs : List Int) : bels n (xs.map D.int) = true := bels_of fun d hd => by
  obtain ⟨i, _, rfl⟩ := List.mem_map.mp hd
  rfl
theorem See.drop' {n : Nat} {Q : DK} {d : D} (M : Sto) {M' : Sto} (hn : M.length = n) (hd : bel n d = true) (hb : stoBel n M) (h : Q d M) : See n Q d (M ++ M') := by
  subst hn
  exact See.drop hd hb h
theorem ite_ndec {p : Prop} [Decidable p] {A B : Prop} (h1 : ¬ p → A) (h2 : p → B) : if (!decide p) = true then A else B := by
  by_cases h : p
  · rw [decide_eq_true h]
    exact h2 h
  · rw [decide_eq_false h]
    exact h1 h
theorem get_mid (M : Sto) (c : Cell) (G : Sto) : (M ++ c :: G)[M.length]? = some c := by rw [List.getElem?_append_right (Nat.le_refl _)]; simp
theorem set_mid (M : Sto) (c d : Cell) (G : Sto) : (M ++ c :: G).set M.length d = M ++ d :: G := by rw [List.set_append_right _ _ (Nat.le_refl _)]; simp
theorem ints_of {p : Int → Prop} : ∀ {ys : List D}, (∀ y ∈ ys, ∃ x : Int, y = .int x ∧ p x) → ∃ xs : List Int, ys = xs.map D.int ∧ ∀ x ∈ xs, p x
  | [], _ => ⟨[], rfl, fun x hx => by simp at hx⟩
  | y :: ys, h => by
    obtain ⟨x, rfl, hx⟩ := h _ (List.mem_cons_self ..)
    obtain ⟨xs, rfl, hxs⟩ := ints_of (ys := ys) fun z hz => h z (List.mem_cons_of_mem _ hz)
    exact ⟨x :: xs, rfl, fun z hz => by
      rcases List.mem_cons.mp hz with rfl | hz
      · exact hx
      · exact hxs z hz⟩
theorem ints_at' {xs : List Int} {i : Nat} {z : Int} (e : z = i) (h : i < xs.length) : atI (xs.map D.int) z = some (.int (xs.getD i 0)) :=
  atI_of e (by rw [List.getElem?_map, List.getElem?_eq_getElem h, List.getD_eq_getElem?_getD, List.getElem?_eq_getElem h]; rfl)
theorem rep_flat (k : Nat) (d : D) : (List.replicate k [d]).flatten = List.replicate k d := by
  induction k with
  | zero => rfl
  | succ k ih => rw [List.replicate_succ, List.flatten_cons, ih, List.replicate_succ]; rfl
theorem map_at {α : Type} {f : α → D} {xs : List α} {i : Int} {k : Nat} {x : α} (e : i = k) (h : xs[k]? = some x) : atI (xs.map f) i = some (f x) := atI_of e (by rw [List.getElem?_map, h]; rfl)
@[reducible] def optD : Option Int → D
  | none => .non
  | some i => .int i
@[reducible] def winD (w : Int × Option Int) : D := .tup [.int w.1, optD w.2]
@[reducible] def winsD (ws : Wn) : D := .tup (ws.map winD)
theorem bels_win (n : Nat) (ws : Wn) : bels n (ws.map winD) = true := bels_of fun d hd => by
  obtain ⟨⟨a, o⟩, _, rfl⟩ := List.mem_map.mp hd
  cases o <;> rfl
@[reducible] def pairD : Option (Nat × Nat) → D
  | none => .non
  | some p => .tup [natD p.1, natD p.2]
theorem bels_nat (n : Nat) (xs : List Nat) : bels n (xs.map natD) = true := bels_of fun d hd => by
  obtain ⟨i, _, rfl⟩ := List.mem_map.mp hd
  rfl
theorem bel_nat (n : Nat) (xs : List Nat) : bel n (.tup (xs.map natD)) = true := bels_nat n xs
theorem cut_1 {α : Type} (xs : List α) : cut xs (some 1) none = xs.drop 1 := by
  unfold cut
  rw [show HT.sIx xs.length 0 (some 1) = min 1 xs.length from HT.sIx_nat xs.length 0 1, HT.sIx_none]
  cases xs with
  | nil => rfl
  | cons x r =>
    rw [show min 1 (x :: r).length = 1 by rw [List.length_cons]; omega]
    show List.take (r.length + 1 - 1) r = r
    rw [Nat.add_sub_cancel, List.take_length]
theorem sh_nat {n : Nat} (h : n ≤ 100) : Sh 13 0 (natD n) := .int (by have : (n : Int).natAbs = n := rfl; omega)
theorem sh_tree {t : Tr} (ht : TreeOk t) : Sh 400 2 (treeD t) := by
  refine (Sh.tup (n := 33) (h := 1) (m := 11) (fun d hd => ?_) (by rw [List.length_map]; exact ht.1)).up (by decide) (by decide)
  obtain ⟨p, hp, rfl⟩ := List.mem_map.mp hd
  obtain ⟨k, hk, e⟩ := List.getElem_of_mem hp
  have hb := ht.2 k p (by rw [List.getElem?_eq_getElem hk, e])
  have ht1 := ht.1
  refine (Sh.tup (n := 13) (h := 0) (m := 2) (ds := [natD p.1, natD p.2]) (fun x hx => ?_) (Nat.le_refl 2)).up (by decide) (by decide)
  have : x = natD p.1 ∨ x = natD p.2 := by simpa using hx
  rcases this with rfl | rfl
  · exact .int (by have : ((p.1 : Nat) : Int).natAbs = p.1 := rfl; omega)
  · exact .int (by have : ((p.2 : Nat) : Int).natAbs = p.2 := rfl; omega)
theorem sh_pair {n h : Nat} {x : D} (hx : Sh n h x) : Sh (2 * (n + 2) + 3) (h + 1) (.lst [x, x]) := Sh.lst (fun d hd => by
  have : d = x := by simpa using hd
  rw [this]
  exact hx) (Nat.le_refl 2)
def spLaw : DSp := fun args M Q _ => ∃ ns, args = [.scr ns] ∧ M = [] ∧ ns.length ≤ 63 ∧ ∀ M', Q (.bl true) M'
theorem sh_two {n h : Nat} {x y : D} (hx : Sh n h x) (hy : Sh n h y) : Sh (2 * (n + 2) + 3) (h + 1) (.lst [x, y]) := Sh.lst (fun d hd => by
  have : d = x ∨ d = y := by simpa using hd
  rcases this with rfl | rfl
  · exact hx
  · exact hy) (Nat.le_refl 2)
theorem sh_win {w : Int × Option Int} (h : Win1 w) : Sh 33 1 (winD w) := by
  obtain ⟨h1, h2, h3⟩ := h
  refine (Sh.tup (n := 13) (h := 0) (m := 2) (ds := [.int w.1, optD w.2]) (fun z hz => ?_) (Nat.le_refl 2)).up (by decide) (by decide)
  have : z = .int w.1 ∨ z = optD w.2 := by simpa using hz
  rcases this with rfl | rfl
  · exact .int (by omega)
  · cases e : w.2 with
    | none => exact Sh.non.up (by decide) (by decide)
    | some l => have := h3 l e; exact .int (by omega)
theorem sh_wins {t : Tr} (ht : TreeOk t) {ws : Wn} (h : WinOk t ws) : Sh 500 2 (winsD ws) := by
  have ht1 := ht.1
  have hl := h.1
  refine (Sh.tup (n := 33) (h := 1) (m := 12) (fun d hd => ?_) (by rw [List.length_map]; omega)).up (by decide) (by decide)
  obtain ⟨p, hp, rfl⟩ := List.mem_map.mp hd
  exact sh_win (h.2 p hp)
theorem sh_pr {t : Tr} (ht : TreeOk t) {ws : Wn} (h : WinOk t ws) : Sh 40 1 (pairD (pairOf t ws)) := by
  have ht1 := ht.1
  cases e : pairOf t ws with
  | none => exact Sh.non.up (by decide) (by decide)
  | some p =>
    have hp := pair_le h e
    refine (Sh.tup (n := 13) (h := 0) (m := 2) (ds := [natD p.1, natD p.2]) (fun z hz => ?_) (Nat.le_refl 2)).up (by decide) (by decide)
    have : z = natD p.1 ∨ z = natD p.2 := by simpa using hz
    rcases this with rfl | rfl <;> exact sh_nat (by omega)
theorem wins_of : ∀ {ys : List D}, (∀ y ∈ ys, ∃ w, y = winD w ∧ Win1 w) → ∃ ws : Wn, ys = ws.map winD ∧ ∀ w ∈ ws, Win1 w
  | [], _ => ⟨[], rfl, fun x hx => by simp at hx⟩
  | y :: ys, h => by
    obtain ⟨x, rfl, hx⟩ := h _ (List.mem_cons_self ..)
    obtain ⟨xs, rfl, hxs⟩ := wins_of (ys := ys) fun z hz => h z (List.mem_cons_of_mem _ hz)
    exact ⟨x :: xs, rfl, fun z hz => by
      rcases List.mem_cons.mp hz with rfl | hz
      · exact hx
      · exact hxs z hz⟩
theorem getD_mem {xs : List Int} {j : Nat} (h : j < xs.length) : xs.getD j 0 ∈ xs := by
  rw [List.getD_eq_getElem?_getD, List.getElem?_eq_getElem h]
  exact List.getElem_mem h
theorem tyNm_non (M : Sto) : tyNm .non M = some "NoneType" := rfl
theorem tyNm_bl (b : Bool) (M : Sto) : tyNm (.bl b) M = some "bool" := rfl
theorem tyNm_int (i : Int) (M : Sto) : tyNm (.int i) M = some "int" := rfl
theorem tyNm_str (x : Str) (M : Sto) : tyNm (.str x) M = some "str" := rfl
theorem tyNm_tup (ds : List D) (M : Sto) : tyNm (.tup ds) M = some "tuple" := rfl
theorem tyNm_lst (ds : List D) (M : Sto) : tyNm (.lst ds) M = some "list" := rfl
theorem tyNm_dct (ks : List Key) (ds : List D) (M : Sto) : tyNm (.dct ks ds) M = some "dict" := rfl
theorem tabInt_NoneType : tabInt "NoneType" = false := by decide
theorem tabInt_bool : tabInt "bool" = true := by decide
theorem tabInt_int : tabInt "int" = true := by decide
theorem tabInt_str : tabInt "str" = false := by decide
theorem tabInt_tuple : tabInt "tuple" = false := by decide
theorem tabInt_list : tabInt "list" = false := by decide
theorem tabInt_dict : tabInt "dict" = false := by decide
theorem tabBool_NoneType : tabBool "NoneType" = false := by decide
theorem tabBool_bool : tabBool "bool" = true := by decide
theorem tabBool_int : tabBool "int" = false := by decide
theorem tabBool_str : tabBool "str" = false := by decide
theorem tabBool_tuple : tabBool "tuple" = false := by decide
theorem tabBool_list : tabBool "list" = false := by decide
theorem tabBool_dict : tabBool "dict" = false := by decide
theorem tabTuple_NoneType : tabTuple "NoneType" = false := by decide
theorem tabTuple_bool : tabTuple "bool" = false := by decide
theorem tabTuple_int : tabTuple "int" = false := by decide
theorem tabTuple_str : tabTuple "str" = false := by decide
theorem tabTuple_tuple : tabTuple "tuple" = true := by decide
theorem tabTuple_list : tabTuple "list" = false := by decide
theorem tabTuple_dict : tabTuple "dict" = false := by decide
theorem tabStr_NoneType : tabStr "NoneType" = false := by decide
theorem tabStr_bool : tabStr "bool" = false := by decide
theorem tabStr_int : tabStr "int" = false := by decide
theorem tabStr_str : tabStr "str" = true := by decide
theorem tabStr_tuple : tabStr "tuple" = false := by decide
theorem tabStr_list : tabStr "list" = false := by decide
theorem tabStr_dict : tabStr "dict" = false := by decide
theorem tabList_NoneType : tabList "NoneType" = false := by decide
theorem tabList_bool : tabList "bool" = false := by decide
theorem tabList_int : tabList "int" = false := by decide
theorem tabList_str : tabList "str" = false := by decide
theorem tabList_tuple : tabList "tuple" = false := by decide
theorem tabList_list : tabList "list" = true := by decide
theorem tabList_dict : tabList "dict" = false := by decide
theorem vw_tup (ds : List D) (M : Sto) : vw (.tup ds) M = .tup ds := rfl
theorem vw_lst (ds : List D) (M : Sto) : vw (.lst ds) M = .lst ds := rfl
theorem vw_int (i : Int) (M : Sto) : vw (.int i) M = .int i := rfl
theorem vw_str (x : Str) (M : Sto) : vw (.str x) M = .str x := rfl
theorem vw_bl (b : Bool) (M : Sto) : vw (.bl b) M = .bl b := rfl
theorem vw_non (M : Sto) : vw .non M = .non := rfl
theorem zipD_map {α β : Type} (f : α → D) (g : β → D) : ∀ (L : List α) (K : List β), zipD (L.map f) (K.map g) = (L.zip K).map fun q => D.tup [f q.1, g q.2]
  | [], K => rfl
  | a :: L, [] => rfl
  | a :: L, b :: K => by
    show D.tup [f a, g b] :: zipD (L.map f) (K.map g) = _
    rw [zipD_map f g L K]
    rfl
theorem pl_nil : Pl 1 (.lst []) := .lst fun d hd => by simp at hd
theorem dif_join {p : Prop} [Decidable p] {fa fb : DTE} {ρ : Dn} {M : Sto} {Q : DK} (d : D) (h1 : p → ∀ Q : DK, Q d M → fa ρ M Q) (h2 : ¬ p → ∀ Q : DK, Q d M → fb ρ M Q) (q : Q d M) : if decide p = true then fa ρ M Q else fb ρ M Q := ite_dec (fun h => h1 h Q q) (fun h => h2 h Q q)
theorem get_ga (M G : Sto) (a : Cell) (r : Sto) : (M ++ (G ++ a :: r))[M.length + G.length]? = some a := by
  rw [← List.append_assoc, ← List.length_append]
  exact get_mid (M ++ G) a r
theorem get_gb (M G : Sto) (a b : Cell) (r : Sto) : (M ++ (G ++ a :: b :: r))[M.length + G.length + 1]? = some b := by
  have := get_ga M (G ++ [a]) b r
  rw [List.append_assoc, List.length_append, List.length_singleton] at this
  exact this
theorem set_ga (M G : Sto) (a c : Cell) (r : Sto) : (M ++ (G ++ a :: r)).set (M.length + G.length) c = M ++ (G ++ c :: r) := by
  rw [← List.append_assoc, ← List.length_append, set_mid, List.append_assoc]
theorem set_gb (M G : Sto) (a b c : Cell) (r : Sto) : (M ++ (G ++ a :: b :: r)).set (M.length + G.length + 1) c = M ++ (G ++ a :: c :: r) := by
  have := set_ga M (G ++ [a]) b c r
  rw [List.append_assoc, List.append_assoc, List.length_append, List.length_singleton] at this
  exact this
theorem range_2 : List.range 2 = [0, 1] := rfl
theorem lc_filL {α : Type} {st : Sto → Prop} {step : D → Sto → (Option D → Sto → Prop) → Prop} (g : α → D) (f : α → Option D) {L : List α} {M : Sto} {Q : List D → Sto → Prop} (hst : st M) (hl : L.length ≤ 100000) (hs : ∀ x ∈ L, ∀ k : Option D → Sto → Prop, k (f x) M → step (g x) M k) (q : Q (L.filterMap f) M) : lcI st step (L.map g) M Q := by
  have lf : ∀ n, ((L.take n).filterMap f).length ≤ n := fun n => Nat.le_trans (List.length_filterMap_le _ _) (by rw [List.length_take]; omega)
  refine ⟨fun done todo acc M' => done ++ todo = L.map g ∧ M' = M ∧ acc = (L.take done.length).filterMap f, ⟨rfl, rfl, rfl⟩, fun _ _ _ M' h => by rw [h.2.1]; exact hst, ?_, ?_⟩
  · rintro done d todo acc M' ⟨e, rfl, rfl⟩
    obtain ⟨x, hx, rfl, hlt⟩ := map_mid e
    have hl2 := lf done.length
    refine hs x (List.mem_of_getElem? hx) _ ?_
    have e1 : (L.take (done ++ [g x]).length).filterMap f = (L.take done.length).filterMap f ++ (f x).toList := by
      rw [List.length_append, List.length_singleton, take_more hx, List.filterMap_append]
      cases e2 : f x with
      | none => simp [e2]
      | some y => simp [e2]
    cases e2 : f x with
    | none =>
      rw [e2] at e1
      exact ⟨by rw [List.append_assoc]; exact e, rfl, by rw [e1]; simp⟩
    | some y =>
      rw [e2] at e1
      exact ⟨by omega, by rw [List.append_assoc]; exact e, rfl, by rw [e1]; simp⟩
  · rintro done acc M' ⟨e, rfl, rfl⟩
    rw [map_done e]
    exact q
theorem lc_mapL {α : Type} {st : Sto → Prop} {step : D → Sto → (Option D → Sto → Prop) → Prop} (g : α → D) (f : α → D) {L : List α} {M : Sto} {Q : List D → Sto → Prop} (hst : st M) (hl : L.length ≤ 100000) (hs : ∀ x ∈ L, ∀ k : Option D → Sto → Prop, k (some (f x)) M → step (g x) M k) (q : Q (L.map f) M) : lcI st step (L.map g) M Q :=
  lc_filL g (fun x => some (f x)) hst hl hs (by
    have : L.filterMap (fun x => some (f x)) = L.map f := by induction L with
      | nil => rfl
      | cons a l ih => simp
    rw [this]
    exact q)
theorem rng_at {n : Nat} {done todo : List D} {d : D} (e : done ++ d :: todo = rng 0 n) : d = natD done.length ∧ done.length < n := by
  obtain ⟨h1, h2⟩ := rng_mid e
  exact ⟨by rw [h1, Int.zero_add], h2⟩
theorem rng_end {n : Nat} {done : List D} (e : done ++ [] = rng 0 n) : done.length = n := by
  have := congrArg List.length e
  rw [List.append_nil, rng_length] at this
  exact this
end DL

set_option maxHeartbeats 2000000
/-! DLJ: tuples of ints compared by >, is True, slices. -/
namespace L2
open PySem PySem.Spec PyProof.Rows
def rGtT (K : PySem.W.Frag) : R2 := fun x y H Q => ∃ (a b : Addr) (ns ms : List Int), x = .ref a ∧ y = .ref b ∧ SqT K H a (ns.map V.int) ∧ SqT K H b (ms.map V.int) ∧
  Q (.bl (Ob.lexAt (fun j => decide (ns.getD j 0 = ms.getD j 0)) (fun j => decide (ms.getD j 0 < ns.getD j 0)) (decide (ns.length > ms.length)) 0 (min ns.length ms.length))) H
theorem op_gtT {X : Cx} (hu : X.A.units < cLine) : OpR X (compareOp .Gt) (rGtT X.K) := by
  intro pins s σ H x y v u Q I rx ry h
  obtain ⟨a, b, ns, ms, rfl, rfl, ha, hb, q⟩ := h
  cases rx
  cases ry
  obtain ⟨its, r1, p1, _⟩ := I.tuple ha
  obtain ⟨its2, r2, p2, _⟩ := I.tuple hb
  have i1 : IntsAre its ns := Vals.ints r1
  have i2 : IntsAre its2 ms := Vals.ints r2
  have e1 : its.toArray.size = ns.length := by rw [List.size_toArray]; exact i1.length
  have e2 : its2.toArray.size = ms.length := by rw [List.size_toArray]; exact i2.length
  have at1 : ∀ j (h1 : j < its.toArray.size), ∃ t, its.toArray[j] = .int (ns.getD j 0) t := fun j h1 => PyProof.Rows.IntsAre.int_at i1 _ _ (by simp at h1; simp [h1])
  have at2 : ∀ j (h1 : j < its2.toArray.size), ∃ t, its2.toArray[j] = .int (ms.getD j 0) t := fun j h1 => PyProof.Rows.IntsAre.int_at i2 _ _ (by simp at h1; simp [h1])
  have R := Ob.RcOp.tuples_gt (A := X.A) (s := s) (e := fun j => decide (ns.getD j 0 = ms.getD j 0)) (r := fun j => decide (ms.getD j 0 < ns.getD j 0)) p1 p2 hu (fun j h1 h2 => by
    obtain ⟨t, et⟩ := at1 j h1
    obtain ⟨t', et'⟩ := at2 j h2
    rw [et, et']
    have z : (ns.getD j 0 == ms.getD j 0) = decide (ns.getD j 0 = ms.getD j 0) := by
      by_cases q : ns.getD j 0 = ms.getD j 0
      · rw [decide_eq_true q]; exact beq_iff_eq.mpr q
      · rw [decide_eq_false q]; exact beq_eq_false_iff_ne.mpr q
    rw [← z]
    exact SeqAt.EqAt.int_int _ _ _ _) (fun j h1 h2 _ => by
    obtain ⟨t, et⟩ := at1 j h1
    obtain ⟨t', et'⟩ := at2 j h2
    rw [et, et']
    exact Ob.RcOp.gt_int _ _ _ _)
  rw [e1, e2] at R
  have z : wpAny (model X.prog X.w) X.A (compareOp .Gt (.ref a) (.ref b)) (EP X pins σ Q) X.xe s := R X.prog X.w X.xe (EP X pins σ Q) ⟨.bl _, H, I, rfl, q⟩
  exact z
end L2
namespace DL
open PySem PySem.Spec PyProof.Rows L2
/-! ### tuple > tuple -/
def gtI (ns ms : List Int) : Bool := Ob.lexAt (fun j => decide (ns.getD j 0 = ms.getD j 0)) (fun j => decide (ms.getD j 0 < ns.getD j 0)) (decide (ns.length > ms.length)) 0 (min ns.length ms.length)
@[reducible] def gGtT : G2 := fun x y M Q => match x, y with
  | .tup xs, .tup ys => match intsOf xs, intsOf ys with
    | some ns, some ms => Q (.bl (gtI ns ms)) M
    | _, _ => False
  | _, _ => False
theorem gGtT_mono : Mono2 gGtT := fun x y M Q Q' w q => by
  unfold gGtT at q ⊢
  split at q
  · split at q
    · exact w _ _ q
    · exact q.elim
  · exact q.elim
theorem rps_ints {K : PySem.W.Frag} {F : Hp} {al : List Addr} : ∀ {ns : List Int} {vs : List V}, Rps K F al vs (ns.map D.int) → vs = ns.map V.int
  | [], _, .nil => rfl
  | n :: ns, _, .cons r rs => by
    cases r
    rw [rps_ints rs]
    rfl
section
variable {X : Cx}
theorem o_gtT (hu : X.A.units + 64 < cLine) : O2 X (compareOp .Gt) gGtT := O2.of (op_gtT (by omega)) gGtT_mono fun al F G H M x y dx dy Q W r1 r2 q => by
  unfold gGtT at q
  split at q
  · split at q
    · next ns ms e1 e2 =>
      cases intsOf_eq e1
      cases intsOf_eq e2
      cases r1 with
      | tup a ra =>
        cases r2 with
        | tup b rb =>
          cases rps_ints ra
          cases rps_ints rb
          exact ⟨_, _, ns, ms, rfl, rfl, SqT.of (W.sm _ _ a), SqT.of (W.sm _ _ b), kont.here q W (.bl _)⟩
    · exact q.elim
  · exact q.elim
/-! ### is True -/
@[reducible] def gIsB (neg : Bool) : G2 := fun x y M Q => match x, y with
  | .bl a, .bl b => Q (.bl (if neg then !decide (a = b) else decide (a = b))) M
  | _, _ => False
theorem gIsB_mono (neg : Bool) : Mono2 (gIsB neg) := fun x y M Q Q' w q => by
  unfold gIsB at q ⊢
  split at q
  · exact w _ _ q
  · exact q.elim
theorem o_isB : O2 X (compareOp .Is) (gIsB false) := O2.of op_is_bl (gIsB_mono _) fun al F G H M x y dx dy Q W r1 r2 q => by
  unfold gIsB at q
  split at q
  · cases r1
    cases r2
    exact ⟨_, _, rfl, rfl, kont.here q W (.bl _)⟩
  · exact q.elim
theorem o_notB : O2 X (compareOp .IsNot) (gIsB true) := O2.of op_isnot_bl (gIsB_mono _) fun al F G H M x y dx dy Q W r1 r2 q => by
  unfold gIsB at q
  split at q
  · cases r1
    cases r2
    exact ⟨_, _, rfl, rfl, kont.here q W (.bl _)⟩
  · exact q.elim
end
theorem gtI_pair (a b c d : Int) : gtI [a, b] [c, d] = decide (c < a ∨ (a = c ∧ d < b)) := by
  unfold gtI
  show Ob.lexAt _ _ _ 0 2 = _
  rw [Ob.lexAt_succ, Ob.lexAt_succ, Ob.lexAt_zero]
  by_cases h : a = c
  · subst h
    by_cases h2 : b = d
    · subst h2
      simp
    · simp [h2]
  · simp [h]
theorem cut_to {α : Type} (xs : List α) (k : Nat) : cut xs none (some (k : Int)) = xs.take k := by
  unfold cut
  rw [HT.sIx_none, HT.sIx_nat, List.drop_zero, Nat.sub_zero]
  by_cases h : k ≤ xs.length
  · rw [Nat.min_eq_left h]
  · rw [Nat.min_eq_right (by omega), List.take_of_length_le (by omega), List.take_of_length_le (by omega)]
theorem cut_from {α : Type} (xs : List α) (k : Nat) : cut xs (some (k : Int)) none = xs.drop k := by
  unfold cut
  rw [HT.sIx_none, HT.sIx_nat]
  by_cases h : k ≤ xs.length
  · rw [Nat.min_eq_left h, List.take_of_length_le (by rw [List.length_drop]; omega)]
  · rw [Nat.min_eq_right (by omega), List.drop_of_length_le (by omega), List.drop_of_length_le (by omega), List.take_nil]
end DL

set_option maxHeartbeats 1000000
/-! DLK: zip of any number of lists and tuples. -/
namespace PySem
theorem typeCall_zipN (as : List Value) : checkTypeCall "zip" ⟨as, []⟩ = pure () := by kernel_rfl
theorem newCall_zipN (as : List Value) : checkBuiltinCall "zip.__new__" ⟨.type "zip" :: as, []⟩ = pure () := by
  cases as with
  | nil => kernel_rfl
  | cons a l => kernel_rfl
theorem args_object_initN (a : Value) (as : List Value) : argsOk "object.__init__" ⟨a :: as, []⟩ := by
  unfold argsOk; rw [signature?_of (id := "object.__init__") (n := ['_', '_', 't', 'i', 'n', 'i', '_', '_']) (o := ['t', 'c', 'e', 'j', 'b', 'o']) (by kernel_rfl) F.owner_object]; kernel_rfl
/-- one of the iterators that zip draws from -/
structure Zd where
  it : Addr
  fp : List Addr
  n : Nat
  P : Nat → Value → Prop
  St : Nat → Heap → Prop
abbrev Zds (prog : Program) (w : World) (A : Around) (es : List Zd) : Prop := ∀ e ∈ es, Draws prog w A e.it e.fp e.n e.P e.St
/-- a zip object's cell -/
abbrev IsZipF (h : Heap) (z TI TO : Addr) (f0 : Value) (f1 : Bool) : Prop := h.get? z = some { cls := .type "zip", dict := none, data := .fields #[f0, .bool f1, .bool false, .ref TI, .ref TO], slots := #[] }
abbrev IsTupN (h : Heap) (T : Addr) (xs : List Value) : Prop := h.get? T = some { cls := .type "tuple", data := .seq xs.toArray }
section
variable {prog : Program} {w : World} {A : Around} {E : Value → Shared → Prop} {s : Shared} {z TI TO : Addr} {i : Nat}
structure ZSep (z TI TO : Addr) (es : List Zd) : Prop where
  TIz : TI ≠ z
  TOz : TO ≠ z
  TITO : TI ≠ TO
  TIi : ∀ e ∈ es, TI ≠ e.it
  mem : ∀ e ∈ es, e.it ∈ e.fp
  zf : ∀ e ∈ es, z ∉ e.fp
  Tf : ∀ e ∈ es, TO ∉ e.fp
  sep : es.Pairwise fun e f => e.it ∉ f.fp ∧ f.it ∉ e.fp
theorem free_none {f1 : Bool} (hz : IsZipF s.heap z TI TO .none f1) (Q : Bool → Shared → Prop) (E : Value → Shared → Prop) (h : Q true s) : wpAny (model prog w) A (Builtin.SmallTypes.ownedTupleIsFree (.ref z)) Q E s := by
  unfold Builtin.SmallTypes.ownedTupleIsFree
  exact wpAny_bind (wpAny_field hz rfl (x := .none) rfl (wpAny_pure h))
theorem free_dead {f1 : Bool} {T : Nat} (hz : IsZipF s.heap z TI TO (rawInt T) f1) (hT : s.heap.get? T = none) (Q : Bool → Shared → Prop) (E : Value → Shared → Prop) (h : Q true s) : wpAny (model prog w) A (Builtin.SmallTypes.ownedTupleIsFree (.ref z)) Q E s := by
  unfold Builtin.SmallTypes.ownedTupleIsFree
  refine wpAny_bind (wpAny_field hz rfl (x := rawInt T) rfl ?_)
  show wpAny _ _ (loadIfAlive ((T : Int).toNat) >>= _) _ _ _
  rw [Int.toNat_natCast]
  refine wpAny_bind ?_
  have h' : ∀ Q' : Option Obj → Shared → Prop, Q' none s → wpAny (model prog w) A (loadIfAlive T) Q' E s := fun Q' q => by
    have q' : Q' (s.heap.get? T) s := by rw [hT]; exact q
    exact fun _ _ _ => q'
  refine h' _ ?_
  simp only [Option.isNone_none, if_true]
  exact wpAny_pure h
theorem zipN_again {es : List Zd} {olds : List Value} {f0 : Value} {f1 : Bool} {Q : Value → Shared → Prop} (hD : Zds prog w A es) (S : ZSep z TI TO es) (hne : es ≠ []) (hz : IsZipF s.heap z TI TO f0 f1) (hfree : ∀ (Q : Bool → Shared → Prop) E, Q true s → wpAny (model prog w) A (Builtin.SmallTypes.ownedTupleIsFree (.ref z)) Q E s) (hTI : IsTupN s.heap TI (es.map fun e => .ref e.it)) (hTO : IsTupN s.heap TO olds) (hol : olds.length = es.length)
    (st : ∀ e ∈ es, e.St i s.heap) (hlt : ∀ e ∈ es, i < e.n) (hes : es.length ≤ sizeLine)
    (hQ : ∀ xs h' tk, xs.length = es.length → (∀ (m : Nat) e x, es[m]? = some e → xs[m]? = some x → e.P i x) → IsZipF h' z TI TO (rawInt s.heap.objs.size) false → IsTupN h' TO xs → (∀ e ∈ es, e.St (i + 1) h') → IsTupN h' s.heap.objs.size xs → h'.objs.size = s.heap.objs.size + 1 →
      (∀ c o, c ≠ z → c ≠ TO → (∀ e ∈ es, c ≠ e.it) → s.heap.get? c = some o → h'.get? c = some o) → Q (.ref s.heap.objs.size) { s with heap := h', toks := tk }) :
    wpAny (model prog w) A (Builtin.«zip.__next__» ⟨[.ref z], []⟩) (fun fin s' => ∃ v, fin = .done (.ret v) ∧ Q v s') E s := by
  obtain ⟨hp, g, d, tk0, os⟩ := s
  show wpAny _ _ (field (.ref z) 2 >>= _) _ _ _
  refine wpAny_bind (wpAny_field hz rfl (x := .bool false) rfl ?_)
  show wpAny _ _ (field (.ref z) 3 >>= _) _ _ _
  refine wpAny_bind (wpAny_field hz rfl (x := .ref TI) rfl ?_)
  refine wpAny_bind (wpAny_seqItems hTI rfl ?_)
  have hem : (List.map (fun e => Value.ref e.it) es).toArray.isEmpty = false := by
    cases es with
    | nil => exact absurd rfl hne
    | cons e es => rfl
  simp only [hem]
  show wpAny _ _ (Builtin.SmallTypes.ownedTupleIsFree (.ref z) >>= _) _ _ _
  refine wpAny_bind (hfree _ _ ?_)
  simp only [if_true]
  refine wpAny_bind (wpAny_rule ?_)
  refine wpAny_bind (wpAny_field hz rfl (x := .ref TO) rfl ?_)
  refine wpAny_bind (wpAny_setField_rec hz (by simp) fun h₁ hz₁ hs₁ => ?_)
  replace hz₁ : IsZipF h₁ z TI TO .ellipsis f1 := hz₁
  refine wpAny_bind (wpAny_forIn_list _ (fun rest b s' => ∃ (pre post : List Zd) (xs : List Value) (h' : Heap) (tk : Nat), es = pre ++ post ∧ rest = (post.map fun e => Value.ref e.it).zipIdx pre.length ∧ b = (none, ()) ∧ s' = ⟨h', g, d, tk, os⟩ ∧ xs.length = pre.length ∧ (∀ (m : Nat) e x, pre[m]? = some e → xs[m]? = some x → e.P i x) ∧
      IsZipF h' z TI TO .ellipsis f1 ∧ IsTupN h' TO (xs ++ olds.drop pre.length) ∧ (∀ e ∈ pre, e.St (i + 1) h') ∧ (∀ e ∈ post, e.St i h') ∧ h'.objs.size = hp.objs.size ∧ (∀ c o, c ≠ z → c ≠ TO → (∀ e ∈ es, c ≠ e.it) → hp.get? c = some o → h'.get? c = some o)) _ ?_ ?_ _ _ ⟨[], es, [], h₁, tk0, rfl, rfl, rfl, rfl, rfl, fun m e x h => by simp at h, hz₁, hs₁.extBut _ _ S.TOz hTO, fun e h => by simp at h, fun e h => (hD e h).over (st e h) hs₁ (S.zf e h), hs₁.1, fun c o c1 _ _ x => hs₁.extBut _ _ c1 x⟩)
  · rintro x rest b s' ⟨pre, post, xs, h', tk, e0, er, rfl, rfl, hl, hP, hz', hTO', hpre, hpost, hsz, hk⟩
    cases post with
    | nil => simp at er
    | cons e post =>
      rw [List.map_cons, List.zipIdx_cons] at er
      cases er
      have he : e ∈ es := by rw [e0]; simp
      have hsep := S.sep
      rw [e0, List.pairwise_append, List.pairwise_cons] at hsep
      obtain ⟨_, ⟨hs1, _⟩, hs2⟩ := hsep
      refine wpAny_bind (wpAny_onRaise ?_)
      show wpAny _ _ (Builtin.SmallTypes.nextOf (.ref e.it) >>= _) _ _ _
      refine wpAny_bind ((hD e he).item i ⟨h', g, d, tk, os⟩ _ _ (hlt e he) (hpost e (by simp)) fun y h₂ tk₂ hy st₂ hs₂ => wpAny_pure ?_)
      have hTi : TO ≠ e.it := fun q => S.Tf e he (by rw [q]; exact S.mem e he)
      have hzi : z ≠ e.it := fun q => S.zf e he (by rw [q]; exact S.mem e he)
      have hTO₂ : IsTupN h₂ TO (xs ++ olds.drop pre.length) := hs₂.extBut _ _ hTi hTO'
      refine wpAny_bind (wpAny_seqItems hTO₂ rfl ?_)
      have hle : pre.length < es.length := by rw [e0, List.length_append, List.length_cons]; omega
      have hln : (xs ++ List.drop pre.length olds).length = es.length := by rw [List.length_append, List.length_drop]; omega
      have hset : (xs ++ List.drop pre.length olds).toArray.setIfInBounds pre.length y = ((xs ++ [y]) ++ List.drop (pre ++ [e]).length olds).toArray := by
        rw [List.setIfInBounds_toArray, List.set_append_right _ _ (by omega), hl, Nat.sub_self, List.append_assoc, List.length_append, List.length_singleton]
        have hlo : pre.length < olds.length := by omega
        rw [List.drop_eq_getElem_cons hlo, List.set_cons_zero]
        rfl
      refine wpAny_bind (wpAny_updateSeq hTO₂ rfl ?_ (hz := by rw [List.size_toArray, hln]; exact hes) (_hz' := by rw [Array.size_setIfInBounds, List.size_toArray, hln]; omega))
      refine wpAny_bind (wpAny_letGo (wpAny_pure ?_))
      have hs₃ : Heap.SameBut TO h₂ (h₂.update TO fun o => o.mapSeq fun x => x.setIfInBounds pre.length y) := Heap.SameBut.update ..
      have hTO₃ : IsTupN (h₂.update TO fun o => o.mapSeq fun x => x.setIfInBounds pre.length y) TO ((xs ++ [y]) ++ List.drop (pre ++ [e]).length olds) := by
        unfold IsTupN
        rw [Heap.get?_update_self _ hTO₂ rfl, ← hset]
        simp [Obj.mapSeq]
      refine ⟨pre ++ [e], post, xs ++ [y], _, tk₂, by rw [e0]; simp, by rw [List.length_append, List.length_singleton], rfl, rfl, by simp [hl], fun m f x hm hx => ?_, hs₃.extBut _ _ S.TOz.symm (hs₂.extBut _ _ hzi hz'), hTO₃, fun f hf => ?_, fun f hf => ?_, by rw [hs₃.1, hs₂.1, hsz], fun c o c1 c2 c3 x => hs₃.extBut _ _ c2 (hs₂.extBut _ _ (c3 e he) (hk c o c1 c2 c3 x))⟩
      · by_cases hm2 : m < pre.length
        · rw [List.getElem?_append_left hm2] at hm
          rw [List.getElem?_append_left (by omega)] at hx
          exact hP m f x hm hx
        · have hm3 := (List.getElem?_eq_some_iff.mp hm).1
          rw [List.length_append, List.length_singleton] at hm3
          have : m = pre.length := by omega
          subst this
          rw [List.getElem?_append_right (Nat.le_refl _)] at hm
          rw [List.getElem?_append_right (by omega)] at hx
          simp at hm
          simp [hl] at hx
          subst hm
          subst hx
          exact hy
      · rcases List.mem_append.mp hf with q | q
        · have hf2 : f ∈ es := by rw [e0]; simp [q]
          exact (hD f hf2).over ((hD f hf2).over (hpre f q) hs₂ (hs2 f q e (by simp)).2) hs₃ (S.Tf f hf2)
        · rw [List.mem_singleton.mp q]
          exact (hD e he).over st₂ hs₃ (S.Tf e he)
      · have hf2 : f ∈ es := by rw [e0]; simp [hf]
        exact (hD f hf2).over ((hD f hf2).over (hpost f (by simp [hf])) hs₂ (hs1 f hf).1) hs₃ (S.Tf f hf2)
  · rintro b s' ⟨pre, post, xs, h₅, tk, e0, er, rfl, rfl, hl, hP, hz₅, hTO₅, hpre, hpost, hsz, hk⟩
    have hpo : post = [] := by
      cases post with
      | nil => rfl
      | cons e post => simp at er
    subst hpo
    rw [List.append_nil] at e0
    subst e0
    rw [List.drop_of_length_le (by omega), List.append_nil] at hTO₅
    refine wpAny_bind (wpAny_seqItems hTO₅ rfl ?_)
    refine wpAny_bind (wpAny_newTuple ?_ (hsz := by simp; omega))
    show wpAny _ _ (Builtin.SmallTypes.ownedTupleHandOut (.ref z) (.ref h₅.objs.size) >>= _) _ _ _
    refine wpAny_bind ?_
    unfold Builtin.SmallTypes.ownedTupleHandOut
    have hz₆ : IsZipF (h₅.push { cls := .type "tuple", data := .seq xs.toArray }) z TI TO .ellipsis f1 := Heap.get?_push_of_some _ hz₅
    refine wpAny_bind (wpAny_setField_rec hz₆ (by simp) fun h₇ hz₇ hs₇ => ?_)
    replace hz₇ : IsZipF h₇ z TI TO (rawInt h₅.objs.size) f1 := hz₇
    refine wpAny_setField_rec hz₇ (by simp) fun h₈ hz₈ hs₈ => ?_
    replace hz₈ : IsZipF h₈ z TI TO (rawInt h₅.objs.size) false := hz₈
    have up : ∀ c o, c ≠ z → h₅.get? c = some o → h₈.get? c = some o := fun c o c1 e => hs₈.extBut _ _ c1 (hs₇.extBut _ _ c1 (Heap.get?_push_of_some _ e))
    have hzlt : z < h₅.objs.size := Heap.lt_size hz₅
    have hT₈ : IsTupN h₈ h₅.objs.size xs := hs₈.extBut _ _ (Nat.ne_of_gt hzlt) (hs₇.extBut _ _ (Nat.ne_of_gt hzlt) (Heap.get?_push_size _ rfl))
    have hz8 : h₈.objs.size = h₅.objs.size + 1 := by rw [hs₈.1, hs₇.1, Heap.size_push]
    rw [hsz] at hz₈ hT₈ hz8
    refine wpAny_pure ⟨_, rfl, ?_⟩
    show Q (.ref h₅.objs.size) _
    rw [hsz]
    exact hQ xs h₈ tk hl hP hz₈ (up _ _ S.TOz hTO₅) (fun e he => (hD e he).frame _ _ _ (hpre e he) fun b hb o x => up b o (fun q => S.zf e he (q ▸ hb)) x) hT₈ hz8 fun c o c1 c2 c3 x => up c o c1 (hk c o c1 c2 c3 x)
theorem zipN_held {es : List Zd} {f1 : Bool} {T : Nat} {oT : Obj} {Q : Value → Shared → Prop} (hD : Zds prog w A es) (S : ZSep z TI TO es) (hne : es ≠ []) (hz : IsZipF s.heap z TI TO (rawInt T) f1) (hT : s.heap.get? T = some oT) (hTI : IsTupN s.heap TI (es.map fun e => .ref e.it))
    (st : ∀ e ∈ es, e.St i s.heap) (hlt : ∀ e ∈ es, i < e.n) (hes : es.length ≤ sizeLine)
    (hQ : ∀ xs h' tk, xs.length = es.length → (∀ (m : Nat) e x, es[m]? = some e → xs[m]? = some x → e.P i x) → IsZipF h' z TI TO (rawInt T) true → (∀ e ∈ es, e.St (i + 1) h') → IsTupN h' s.heap.objs.size xs → h'.objs.size = s.heap.objs.size + 1 →
      (∀ c o, c ≠ z → (∀ e ∈ es, c ≠ e.it) → s.heap.get? c = some o → h'.get? c = some o) → Q (.ref s.heap.objs.size) { s with heap := h', toks := tk }) :
    wpAny (model prog w) A (Builtin.«zip.__next__» ⟨[.ref z], []⟩) (fun fin s' => ∃ v, fin = .done (.ret v) ∧ Q v s') E s := by
  obtain ⟨hp, g, d, tk0, os⟩ := s
  show wpAny _ _ (field (.ref z) 2 >>= _) _ _ _
  refine wpAny_bind (wpAny_field hz rfl (x := .bool false) rfl ?_)
  show wpAny _ _ (field (.ref z) 3 >>= _) _ _ _
  refine wpAny_bind (wpAny_field hz rfl (x := .ref TI) rfl ?_)
  refine wpAny_bind (wpAny_seqItems hTI rfl ?_)
  have hem : (List.map (fun e => Value.ref e.it) es).toArray.isEmpty = false := by
    cases es with
    | nil => exact absurd rfl hne
    | cons e es => rfl
  simp only [hem]
  show wpAny _ _ (Builtin.SmallTypes.ownedTupleIsFree (.ref z) >>= _) _ _ _
  refine wpAny_bind (wpAny_tupleHeld_zip hz hT fun h₁ hz₁ hs₁ => ?_)
  simp only [Bool.false_eq_true, if_false]
  refine wpAny_bind (_root_.PySem.MeetsSeq2.wpAny_forIn_array _ (fun rest b s' => ∃ (pre post : List Zd) (xs : List Value) (h' : Heap) (tk : Nat), es = pre ++ post ∧ rest = (post.map fun e => Value.ref e.it) ∧ b = (none, xs.toArray) ∧ s' = ⟨h', g, d, tk, os⟩ ∧ xs.length = pre.length ∧ (∀ (m : Nat) e x, pre[m]? = some e → xs[m]? = some x → e.P i x) ∧
      IsZipF h' z TI TO (rawInt T) true ∧ (∀ e ∈ pre, e.St (i + 1) h') ∧ (∀ e ∈ post, e.St i h') ∧ h'.objs.size = hp.objs.size ∧ (∀ c o, c ≠ z → (∀ e ∈ es, c ≠ e.it) → hp.get? c = some o → h'.get? c = some o)) _ ?_ ?_ _ _ ⟨[], es, [], h₁, tk0, rfl, by simp, rfl, rfl, rfl, fun m e x h => by simp at h, hz₁, fun e h => by simp at h, fun e h => (hD e h).over (st e h) hs₁ (S.zf e h), hs₁.1, fun c o c1 _ x => hs₁.extBut _ _ c1 x⟩)
  · rintro x rest b s' ⟨pre, post, xs, h', tk, e0, er, rfl, rfl, hl, hP, hz', hpre, hpost, hsz, hk⟩
    cases post with
    | nil => simp at er
    | cons e post =>
      rw [List.map_cons] at er
      cases er
      have he : e ∈ es := by rw [e0]; simp
      have hsep := S.sep
      rw [e0, List.pairwise_append, List.pairwise_cons] at hsep
      obtain ⟨_, ⟨hs1, _⟩, hs2⟩ := hsep
      refine wpAny_bind (wpAny_holding ?_)
      show wpAny _ _ (Builtin.SmallTypes.nextOf (.ref e.it) >>= _) _ _ _
      refine wpAny_bind ((hD e he).item i ⟨h', g, d, tk, os⟩ _ _ (hlt e he) (hpost e (by simp)) fun y h₂ tk₂ hy st₂ hs₂ => wpAny_pure (wpAny_pure ?_))
      have hzi : z ≠ e.it := fun q => S.zf e he (by rw [q]; exact S.mem e he)
      refine ⟨pre ++ [e], post, xs ++ [y], _, tk₂, by rw [e0]; simp, rfl, by simp, rfl, by simp [hl], fun m f x hm hx => ?_, hs₂.extBut _ _ hzi hz', fun f hf => ?_, fun f hf => ?_, by rw [hs₂.1, hsz], fun c o c1 c3 x => hs₂.extBut _ _ (c3 e he) (hk c o c1 c3 x)⟩
      · by_cases hm2 : m < pre.length
        · rw [List.getElem?_append_left hm2] at hm
          rw [List.getElem?_append_left (by omega)] at hx
          exact hP m f x hm hx
        · have hm3 := (List.getElem?_eq_some_iff.mp hm).1
          rw [List.length_append, List.length_singleton] at hm3
          have : m = pre.length := by omega
          subst this
          rw [List.getElem?_append_right (Nat.le_refl _)] at hm
          rw [List.getElem?_append_right (by omega)] at hx
          simp at hm
          simp [hl] at hx
          subst hm
          subst hx
          exact hy
      · rcases List.mem_append.mp hf with q | q
        · exact (hD f (by rw [e0]; simp [q])).over (hpre f q) hs₂ (hs2 f q e (by simp)).2
        · rw [List.mem_singleton.mp q]
          exact st₂
      · exact (hD f (by rw [e0]; simp [hf])).over (hpost f (by simp [hf])) hs₂ (hs1 f hf).1
  · rintro b s' ⟨pre, post, xs, h₅, tk, e0, er, rfl, rfl, hl, hP, hz₅, hpre, hpost, hsz, hk⟩
    have hpo : post = [] := by
      cases post with
      | nil => rfl
      | cons e post => simp at er
    subst hpo
    rw [List.append_nil] at e0
    subst e0
    refine wpAny_bind (wpAny_newTuple ?_ (hsz := by simp; omega))
    have up : ∀ c o, h₅.get? c = some o → (h₅.push { cls := .type "tuple", data := .seq xs.toArray }).get? c = some o := fun c o e => Heap.get?_push_of_some _ e
    have hT₈ : IsTupN (h₅.push { cls := .type "tuple", data := .seq xs.toArray }) h₅.objs.size xs := Heap.get?_push_size _ rfl
    have hz8 : (h₅.push { cls := .type "tuple", data := .seq xs.toArray }).objs.size = h₅.objs.size + 1 := by rw [Heap.size_push]
    rw [hsz] at hT₈ hz8
    refine wpAny_pure ⟨_, rfl, ?_⟩
    show Q (.ref h₅.objs.size) _
    rw [hsz]
    exact hQ xs _ tk hl hP (up _ _ hz₅) (fun e he => (hD e he).frame _ _ _ (hpre e he) fun b hb o x => up b o x) hT₈ hz8 fun c o c1 c3 x => up c o (hk c o c1 c3 x)
theorem zipN_end {e : Zd} {rest : List Value} {olds : List Value} {f0 : Value} {f1 : Bool} {Q : Fin → Shared → Prop} (hD : Zds prog w A [e]) (S : ZSep z TI TO [e]) (hz : IsZipF s.heap z TI TO f0 f1) (hf : f0 = .none ∨ ∃ T : Nat, f0 = rawInt T) (hTI : IsTupN s.heap TI (.ref e.it :: rest))
    (st : e.St i s.heap) (hend : ∀ (s : Shared) (Q E : Value → Shared → Prop), e.St i s.heap → (∀ h' x, Heap.ExtBut e.it s.heap h' → (∃ o, h'.get? x = some o ∧ o.cls = .type "StopIteration") → E (.ref x) { s with heap := h' }) → wpAny (model prog w) A (Builtin.SmallTypes.nextOf (.ref e.it)) Q E s)
    (hE : ∀ h' x, (∀ c o, c ≠ z → c ≠ e.it → s.heap.get? c = some o → h'.get? c = some o) → (∃ o, h'.get? x = some o ∧ o.cls = .type "StopIteration") → E (.ref x) { s with heap := h' }) :
    wpAny (model prog w) A (Builtin.«zip.__next__» ⟨[.ref z], []⟩) Q E s := by
  obtain ⟨hp, g, d, tk0, os⟩ := s
  have hzi : z ≠ e.it := fun q => S.zf e (by simp) (by rw [q]; exact S.mem e (by simp))
  show wpAny _ _ (field (.ref z) 2 >>= _) _ _ _
  refine wpAny_bind (wpAny_field hz rfl (x := .bool false) rfl ?_)
  show wpAny _ _ (field (.ref z) 3 >>= _) _ _ _
  refine wpAny_bind (wpAny_field hz rfl (x := .ref TI) rfl ?_)
  refine wpAny_bind (wpAny_seqItems hTI rfl ?_)
  have hem : (Value.ref e.it :: rest).toArray.isEmpty = false := rfl
  simp only [hem]
  show wpAny _ _ (Builtin.SmallTypes.ownedTupleIsFree (.ref z) >>= _) _ _ _
  have go : (∀ (Q : Bool → Shared → Prop) E, Q true ⟨hp, g, d, tk0, os⟩ → wpAny (model prog w) A (Builtin.SmallTypes.ownedTupleIsFree (.ref z)) Q E ⟨hp, g, d, tk0, os⟩) ∨ ∃ (T : Nat) (oT : Obj), f0 = rawInt T ∧ hp.get? T = some oT := by
    rcases hf with rfl | ⟨T, rfl⟩
    · exact .inl fun Q E q => free_none hz Q E q
    · cases hT : hp.get? T with
      | none => exact .inl fun Q E q => free_dead hz hT Q E q
      | some oT => exact .inr ⟨T, oT, rfl, hT⟩
  rcases go with hfree | ⟨T, oT, rfl, hT⟩
  · refine wpAny_bind (hfree _ _ ?_)
    simp only [if_true]
    refine wpAny_bind (wpAny_rule ?_)
    refine wpAny_bind (wpAny_field hz rfl (x := .ref TO) rfl ?_)
    refine wpAny_bind (wpAny_setField_rec hz (by simp) fun h₁ hz₁ hs₁ => ?_)
    replace hz₁ : IsZipF h₁ z TI TO .ellipsis f1 := hz₁
    simp only [List.zipIdx_cons, List.forIn_cons]
    refine wpAny_bind (wpAny_bind (wpAny_bind (wpAny_onRaise ?_)))
    show wpAny _ _ (Builtin.SmallTypes.nextOf (.ref e.it) >>= _) _ _ _
    refine wpAny_bind (hend ⟨h₁, g, d, tk0, os⟩ _ _ ((hD e (by simp)).over st hs₁ (S.zf e (by simp))) fun h₂ x hs₂ hx => ?_)
    obtain ⟨oe, hoe, hce⟩ := hx
    have hz₂ : IsZipF h₂ z TI TO .ellipsis f1 := hs₂ _ _ hzi hz₁
    have hez : x ≠ z := fun q => by subst q; rw [hz₂] at hoe; cases hoe; simp at hce
    exact wpAny_setField_rec hz₂ (by simp) fun h₃ _ hs₃ => hE h₃ x (fun c o c1 c2 q => hs₃.extBut _ _ c1 (hs₂ _ _ c2 (hs₁.extBut _ _ c1 q))) ⟨oe, hs₃.extBut _ _ hez hoe, hce⟩
  · refine wpAny_bind (wpAny_tupleHeld_zip hz hT fun h₁ hz₁ hs₁ => ?_)
    simp only [Bool.false_eq_true, if_false]
    rw [← Array.forIn_toList]
    simp only [List.forIn_cons]
    refine wpAny_bind (wpAny_bind (wpAny_bind (wpAny_holding ?_)))
    show wpAny _ _ (Builtin.SmallTypes.nextOf (.ref e.it) >>= _) _ _ _
    refine wpAny_bind (hend ⟨h₁, g, d, tk0, os⟩ _ _ ((hD e (by simp)).over st hs₁ (S.zf e (by simp))) fun h₂ x hs₂ hx => ?_)
    exact hE h₂ x (fun c o c1 c2 q => hs₂ _ _ c2 (hs₁.extBut _ _ c1 q)) hx
/-- one turn, whatever was handed out -/
theorem pyNext_zipN_item {es : List Zd} {olds : List Value} {f0 : Value} {f1 : Bool} {Q : Option Value → Shared → Prop} (hD : Zds prog w A.in1 es) (S : ZSep z TI TO es) (hne : es ≠ []) (hz : IsZipF s.heap z TI TO f0 f1) (hf : f0 = .none ∨ ∃ T : Nat, f0 = rawInt T) (hTI : IsTupN s.heap TI (es.map fun e => .ref e.it)) (hTO : IsTupN s.heap TO olds) (hol : olds.length = es.length)
    (st : ∀ e ∈ es, e.St i s.heap) (hlt : ∀ e ∈ es, i < e.n) (hes : es.length ≤ sizeLine)
    (hQ : ∀ xs h' tk, xs.length = es.length → (∀ (m : Nat) e x, es[m]? = some e → xs[m]? = some x → e.P i x) → (∃ f0' f1', IsZipF h' z TI TO f0' f1' ∧ (f0' = .none ∨ ∃ T : Nat, f0' = rawInt T) ∧ (f0 = .none → f0' = rawInt s.heap.objs.size ∧ f1' = false)) → (∃ olds', olds'.length = es.length ∧ IsTupN h' TO olds') → (∀ e ∈ es, e.St (i + 1) h') → IsTupN h' s.heap.objs.size xs → h'.objs.size = s.heap.objs.size + 1 →
      (∀ c o, c ≠ z → c ≠ TO → (∀ e ∈ es, c ≠ e.it) → s.heap.get? c = some o → h'.get? c = some o) → Q (some (.ref s.heap.objs.size)) { s with heap := h', toks := tk }) :
    wpAny (model prog w) A (pyNext (.ref z)) Q E s := by
  have hT : s.TypeIs (.ref z) "zip" := ⟨_, hz, rfl⟩
  unfold pyNext
  have go : (∀ (Q : Bool → Shared → Prop) E, Q true s → wpAny (model prog w) A.in1 (Builtin.SmallTypes.ownedTupleIsFree (.ref z)) Q E s) ∨ ∃ (T : Nat) (oT : Obj), f0 = rawInt T ∧ s.heap.get? T = some oT := by
    rcases hf with rfl | ⟨T, rfl⟩
    · exact .inl fun Q E q => free_none hz Q E q
    · cases hT : s.heap.get? T with
      | none => exact .inl fun Q E q => free_dead hz hT Q E q
      | some oT => exact .inr ⟨T, oT, rfl, hT⟩
  rcases go with hfree | ⟨T, oT, rfl, hT2⟩
  · exact wpAny_bind (wpAny_attempt (wpAny_callSpecial?_slot (name := Str.ofString "__next__") hT F.slot_zip_next
      (wpAny_call_entry F.slot_zip_next hT F.entry_zip_next
        (zipN_again hD S hne hz hfree hTI hTO hol st hlt hes fun xs h' tk a1 a2 a3 a4 a5 a6 a7 a8 => wpAny_pure (hQ xs h' tk a1 a2 ⟨_, _, a3, .inr ⟨_, rfl⟩, fun _ => ⟨rfl, rfl⟩⟩ ⟨xs, a1, a4⟩ a5 a6 a7 a8)) (F.args_zip_next_1 _))))
  · exact wpAny_bind (wpAny_attempt (wpAny_callSpecial?_slot (name := Str.ofString "__next__") hT F.slot_zip_next
      (wpAny_call_entry F.slot_zip_next hT F.entry_zip_next
        (zipN_held hD S hne hz hT2 hTI st hlt hes fun xs h' tk a1 a2 a3 a5 a6 a7 a8 => wpAny_pure (hQ xs h' tk a1 a2 ⟨_, _, a3, .inr ⟨_, rfl⟩, fun q => by cases q⟩ ⟨olds, hol, a8 _ _ S.TOz (fun e he q => S.Tf e he (by rw [q]; exact S.mem e he)) hTO⟩ a5 a6 a7 fun c o c1 _ c3 x => a8 c o c1 c3 x)) (F.args_zip_next_1 _))))
theorem pyNext_zipN_end {e : Zd} {rest : List Value} {f0 : Value} {f1 : Bool} {Q : Option Value → Shared → Prop} (hD : Zds prog w A.in1 [e]) (S : ZSep z TI TO [e]) (hz : IsZipF s.heap z TI TO f0 f1) (hf : f0 = .none ∨ ∃ T : Nat, f0 = rawInt T) (hTI : IsTupN s.heap TI (.ref e.it :: rest))
    (st : e.St i s.heap) (hend : ∀ (s : Shared) (Q E : Value → Shared → Prop), e.St i s.heap → (∀ h' x, Heap.ExtBut e.it s.heap h' → (∃ o, h'.get? x = some o ∧ o.cls = .type "StopIteration") → E (.ref x) { s with heap := h' }) → wpAny (model prog w) A.in1 (Builtin.SmallTypes.nextOf (.ref e.it)) Q E s) (hQ : ∀ h', (∀ c o, c ≠ z → c ≠ e.it → s.heap.get? c = some o → h'.get? c = some o) → Q none { s with heap := h' }) :
    wpAny (model prog w) A (pyNext (.ref z)) Q E s := by
  have hT : s.TypeIs (.ref z) "zip" := ⟨_, hz, rfl⟩
  unfold pyNext
  refine wpAny_bind (wpAny_attempt (wpAny_callSpecial?_slot (name := Str.ofString "__next__") hT F.slot_zip_next
    (wpAny_call_entry F.slot_zip_next hT F.entry_zip_next (zipN_end (olds := []) hD S hz hf hTI st hend fun h' x hk hx => ?_) (F.args_zip_next_1 _))))
  obtain ⟨o, ho, hc⟩ := hx
  refine wpAny_bind (wpAny_isInstance (T := "StopIteration") (b := true) ⟨o, ho, hc⟩ isSubtype_stop ?_)
  exact wpAny_pure (hQ _ hk)
end
end PySem

set_option maxHeartbeats 1000000
namespace PySem
/-- a list (false) or a tuple (true) that zip walks -/
structure Zq where
  t : Bool
  l : Addr
  xs : Array Value
def Zq.At (q : Zq) (h : Heap) : Prop := if q.t = true then h.IsTuple q.l q.xs else h.IsList q.l q.xs
def Zq.It (q : Zq) (it : Addr) (i : Nat) (h : Heap) : Prop := if q.t = true then h.IsTupleIter it q.l i else h.IsListIter it q.l i
theorem Zq.At.up {q : Zq} {h h' : Heap} (a : q.At h) (k : ∀ o, h.get? q.l = some o → h'.get? q.l = some o) : q.At h' := by
  unfold Zq.At at a ⊢
  split at a
  · next e => rw [if_pos e]; exact a.at k
  · next e => rw [if_neg e]; exact a.at k
theorem Zq.It.up {q : Zq} {it : Addr} {i : Nat} {h h' : Heap} (a : q.It it i h) (k : ∀ o, h.get? it = some o → h'.get? it = some o) : q.It it i h' := by
  unfold Zq.It at a ⊢
  split at a
  · next e => rw [if_pos e]; exact a.at k
  · next e => rw [if_neg e]; exact a.at k
section
variable {prog : Program} {w : World} {A : Around} {E : Value → Shared → Prop} {s : Shared}
theorem Zq.iter {q : Zq} {Q : Value → Shared → Prop} (a : q.At s.heap) (h : ∀ h', q.It s.heap.objs.size 0 h' → h'.objs.size = s.heap.objs.size + 1 → (∀ c o, s.heap.get? c = some o → h'.get? c = some o) → Q (.ref s.heap.objs.size) { s with heap := h' }) : wpAny (model prog w) A (pyIter (.ref q.l)) Q E s := by
  unfold Zq.At at a
  split at a
  · next e => exact wpAny_pyIter_tuple a (h _ (by unfold Zq.It; rw [if_pos e]; exact ⟨_, Heap.get?_push_size _ rfl, rfl, rfl⟩) (Heap.size_push ..) fun c o x => Heap.get?_push_of_some _ x)
  · next e => exact wpAny_pyIter_list a (h _ (by unfold Zq.It; rw [if_neg e]; exact ⟨_, Heap.get?_push_size _ rfl, rfl, rfl⟩) (Heap.size_push ..) fun c o x => Heap.get?_push_of_some _ x)
end
theorem meets_zipN_new (qs : List Zq) (hes : qs.length ≤ sizeLine) :
    Meets (Builtin.«zip.__new__» ⟨.type "zip" :: qs.map (fun q => .ref q.l), []⟩) (fun _ R s => (∀ q ∈ qs, q.At s.heap) ∧
      ∀ h', (∀ (j : Nat) q, qs[j]? = some q → q.It (s.heap.objs.size + j) 0 h') → IsTupN h' (s.heap.objs.size + qs.length) ((List.range qs.length).map fun j => .ref (s.heap.objs.size + j)) → IsTupN h' (s.heap.objs.size + qs.length + 1) (qs.map fun _ => .none) →
        IsZipF h' (s.heap.objs.size + qs.length + 2) (s.heap.objs.size + qs.length) (s.heap.objs.size + qs.length + 1) .none false → h'.objs.size = s.heap.objs.size + qs.length + 3 → (∀ c o, s.heap.get? c = some o → h'.get? c = some o) → R (.ok (.ret (.ref (s.heap.objs.size + qs.length + 2)))) { s with heap := h' }) :=
  .of_wp fun prog w A R s h => by
    obtain ⟨hp, g, d, tk, os⟩ := s; obtain ⟨hq, h⟩ := h
    have hsub := sub_zip
    wp_walk using wpAny_forIn_list _ (fun rest b s' => ∃ (pre post : List Zq) (h' : Heap), qs = pre ++ post ∧ rest = (post.map fun q => Value.ref q.l) ∧ b = ((List.range pre.length).map fun j => Value.ref (hp.objs.size + j)).toArray ∧ s' = ⟨h', g, d, tk, os⟩ ∧ (∀ (j : Nat) q, pre[j]? = some q → q.It (hp.objs.size + j) 0 h') ∧ h'.objs.size = hp.objs.size + pre.length ∧ (∀ c o, hp.get? c = some o → h'.get? c = some o)) _
    case turn =>
      rintro x rest b s' ⟨pre, post, h', e0, er, rfl, rfl, hi, hsz, hk⟩
      cases post with
      | nil => simp at er
      | cons q post =>
        rw [List.map_cons] at er
        cases er
        have hqm : q ∈ qs := by rw [e0]; simp
        refine wpAny_bind (wpAny_holding (Zq.iter (s := ⟨h', g, d, tk, os⟩) ((hq q hqm).up fun o x => hk _ _ x) fun h₂ i₂ z₂ k₂ => wpAny_pure ?_))
        refine ⟨pre ++ [q], post, h₂, by rw [e0]; simp, rfl, ?_, rfl, fun j r hj => ?_, by rw [z₂]; show h'.objs.size + 1 = _; rw [hsz, List.length_append, List.length_singleton]; rfl, fun c o x => k₂ c o (hk c o x)⟩
        · rw [List.length_append, List.length_singleton, List.range_succ, List.map_append]
          show Array.push _ (Value.ref h'.objs.size) = _
          rw [hsz]
          simp
        · by_cases hj2 : j < pre.length
          · rw [List.getElem?_append_left hj2] at hj
            exact (hi j r hj).up fun o x => k₂ _ _ x
          · have hj3 := (List.getElem?_eq_some_iff.mp hj).1
            rw [List.length_append, List.length_singleton] at hj3
            have : j = pre.length := by omega
            subst this
            rw [List.getElem?_append_right (Nat.le_refl _)] at hj
            simp at hj
            subst hj
            rw [← hsz]
            exact i₂
    case fin =>
      rintro b s' ⟨pre, post, h', e0, er, rfl, rfl, hi, hsz, hk⟩
      have hpo : post = [] := by
        cases post with
        | nil => rfl
        | cons e post => simp at er
      subst hpo
      rw [List.append_nil] at e0
      subst e0
      refine wpAny_pure ?_
      have hl : (List.map (fun j => Value.ref (hp.objs.size + j)) (List.range qs.length)).length = qs.length := by simp
      refine wpAny_bind (wpAny_newTuple ?_ (hsz := by simpa using hes))
      refine wpAny_bind (wpAny_newTuple ?_ (hsz := by simpa using hes))
      show wpAny _ _ (newObj (.type "zip") (.fields #[.none, .bool false, .bool false, .ref h'.objs.size, .ref (h'.push { cls := .type "tuple", data := .seq (List.map (fun j => Value.ref (hp.objs.size + j)) (List.range qs.length)).toArray }).objs.size]) >>= _) _ _ _
      refine wpAny_bind (wpAny_newObj_type ?_ (by size_fits))
      refine wpAny_pure ⟨_, rfl, ?_⟩
      have en : List.map (fun x => Value.none) (List.map (fun j => Value.ref (hp.objs.size + j)) (List.range qs.length)) = qs.map fun _ => Value.none := by
        rw [List.map_map]
        refine List.ext_getElem (by simp) fun i h1 h2 => by simp
      have z1 : (h'.push { cls := .type "tuple", data := .seq (List.map (fun j => Value.ref (hp.objs.size + j)) (List.range qs.length)).toArray }).objs.size = hp.objs.size + qs.length + 1 := by rw [Heap.size_push, hsz]
      show R (.ok (.ret (.ref ((h'.push { cls := .type "tuple", data := .seq (List.map (fun j => Value.ref (hp.objs.size + j)) (List.range qs.length)).toArray }).push { cls := .type "tuple", data := .seq (List.map (fun x => Value.none) (List.map (fun j => Value.ref (hp.objs.size + j)) (List.range qs.length))).toArray }).objs.size))) ⟨((h'.push { cls := .type "tuple", data := .seq (List.map (fun j => Value.ref (hp.objs.size + j)) (List.range qs.length)).toArray }).push { cls := .type "tuple", data := .seq (List.map (fun x => Value.none) (List.map (fun j => Value.ref (hp.objs.size + j)) (List.range qs.length))).toArray }).push { cls := .type "zip", data := .fields #[.none, .bool false, .bool false, .ref h'.objs.size, .ref (h'.push { cls := .type "tuple", data := .seq (List.map (fun j => Value.ref (hp.objs.size + j)) (List.range qs.length)).toArray }).objs.size] }, g, d, tk, os⟩
      rw [en]
      have z2 : ((h'.push { cls := .type "tuple", data := .seq (List.map (fun j => Value.ref (hp.objs.size + j)) (List.range qs.length)).toArray }).push { cls := .type "tuple", data := .seq (List.map (fun _ => Value.none) qs).toArray }).objs.size = hp.objs.size + qs.length + 2 := by rw [Heap.size_push, z1]
      rw [z2]
      refine h _ (fun j q hj => (hi j q hj).up fun o x => Heap.get?_push_of_some _ (Heap.get?_push_of_some _ (Heap.get?_push_of_some _ x))) ?_ ?_ ?_ (by rw [Heap.size_push, z2]) fun c o x => Heap.get?_push_of_some _ (Heap.get?_push_of_some _ (Heap.get?_push_of_some _ (hk c o x)))
      · have := Heap.get?_push_size h' (o := { cls := .type "tuple", data := .seq (List.map (fun j => Value.ref (hp.objs.size + j)) (List.range qs.length)).toArray }) rfl
        rw [hsz] at this
        exact Heap.get?_push_of_some _ (Heap.get?_push_of_some _ this)
      · have := Heap.get?_push_size (h'.push { cls := .type "tuple", data := .seq (List.map (fun j => Value.ref (hp.objs.size + j)) (List.range qs.length)).toArray }) (o := { cls := .type "tuple", data := .seq (List.map (fun _ => Value.none) qs).toArray }) rfl
        rw [z1] at this
        exact Heap.get?_push_of_some _ this
      · rw [z1, hsz]
        have := Heap.get?_push_size ((h'.push { cls := .type "tuple", data := .seq (List.map (fun j => Value.ref (hp.objs.size + j)) (List.range qs.length)).toArray }).push { cls := .type "tuple", data := .seq (List.map (fun _ => Value.none) qs).toArray }) (o := { cls := .type "zip", data := .fields #[.none, .bool false, .bool false, .ref (hp.objs.size + qs.length), .ref (hp.objs.size + qs.length + 1)] }) rfl
        rw [z2] at this
        exact this
    · exact ⟨[], qs, hp, rfl, rfl, rfl, rfl, fun j q hj => by simp at hj, rfl, fun c o x => x⟩
section
variable {prog : Program} {w : World} {A : Around} {E : Value → Shared → Prop} {s : Shared}
theorem call_zipN {qs : List Zq} (hes : qs.length ≤ sizeLine) {Q : Value → Shared → Prop} (hq : ∀ q ∈ qs, q.At s.heap)
    (h : ∀ h', (∀ (j : Nat) q, qs[j]? = some q → q.It (s.heap.objs.size + j) 0 h') → IsTupN h' (s.heap.objs.size + qs.length) ((List.range qs.length).map fun j => .ref (s.heap.objs.size + j)) → IsTupN h' (s.heap.objs.size + qs.length + 1) (qs.map fun _ => .none) →
        IsZipF h' (s.heap.objs.size + qs.length + 2) (s.heap.objs.size + qs.length) (s.heap.objs.size + qs.length + 1) .none false → h'.objs.size = s.heap.objs.size + qs.length + 3 → (∀ c o, s.heap.get? c = some o → h'.get? c = some o) → Q (.ref (s.heap.objs.size + qs.length + 2)) { s with heap := h' }) :
    wpAny (model prog w) A (call (.type "zip") (qs.map fun q => .ref q.l)) Q E s :=
  callType_new F.called_zip (by decide) (typeCall_zipN _) (newCall_zipN _) (fun obj => args_object_initN obj _) F.entry_zip_new (meets_zipN_new qs hes) ⟨hq, fun h' a1 a2 a3 a4 a5 a6 => ⟨⟨_, a4, rfl⟩, h h' a1 a2 a3 a4 a5 a6⟩⟩
end
end PySem

set_option maxHeartbeats 1000000
namespace PySem
def zd (t : Bool) (it l : Addr) (items : Array Value) : Zd := ⟨it, [it, l], items.size, fun i v => items[i]? = some v, fun i h => (⟨t, l, items⟩ : Zq).It it i h ∧ (⟨t, l, items⟩ : Zq).At h⟩
section
variable {prog : Program} {w : World} {A : Around}
theorem zd_draws (hh : A.handled = none) {t : Bool} {it l : Addr} {items : Array Value} (hne : l ≠ it) : Draws prog w A (zd t it l items).it (zd t it l items).fp (zd t it l items).n (zd t it l items).P (zd t it l items).St := by
  cases t
  · exact Draws.list hh it l hne items
  · exact Draws.tuple hh it l hne items
theorem zd_end (hh : A.handled = none) {t : Bool} {it l : Addr} {items : Array Value} {i : Nat} (hx : items[i]? = none) (s : Shared) (Q E : Value → Shared → Prop) (st : (zd t it l items).St i s.heap) (hE : ∀ h' x, Heap.ExtBut it s.heap h' → (∃ o, h'.get? x = some o ∧ o.cls = .type "StopIteration") → E (.ref x) { s with heap := h' }) : wpAny (model prog w) A (Builtin.SmallTypes.nextOf (.ref it)) Q E s := by
  cases t
  · exact wpAny_nextOf_list_end hh st.1 st.2 hx hE
  · exact wpAny_nextOf_tuple_end hh st.1 st.2 hx hE
end
end PySem
namespace L2
open PySem PySem.Spec PyProof.Rows
def SqK (K : PySem.W.Frag) (H : Hp) (a : Bool × Addr) (xs : List V) : Prop := if a.1 = true then SqT K H a.2 xs else SqL K H a.2 xs
def ItzN (K : PySem.W.Frag) (as : List (Bool × Addr)) : It := ⟨
  fun i H => ∀ a ∈ as, ∃ xs x, SqK K H a xs ∧ xs[i]? = some x,
  fun i H v H' => ∃ T us, v = .ref T ∧ H T = none ∧ H' = upd H T (.tup us) ∧ us.length = as.length ∧ ∀ (j : Nat) a u, as[j]? = some a → us[j]? = some u → ∀ xs, SqK K H a xs → xs[i]? = some u,
  fun i H => ∃ a xs, as.head? = some a ∧ SqK K H a xs ∧ xs.length ≤ i⟩
def tnN (as : List (Bool × Addr)) (b : Addr) (free : Bool) (i : Nat) (h : Heap) : Prop := ∃ f0 f1 olds, IsZipF h (b + as.length + 2) (b + as.length) (b + as.length + 1) f0 f1 ∧ (f0 = .none ∨ ∃ T : Nat, f0 = rawInt T) ∧ (free = true → f0 = .none ∧ f1 = false) ∧ IsTupN h (b + as.length) ((List.range as.length).map fun j => .ref (b + j)) ∧ olds.length = as.length ∧ IsTupN h (b + as.length + 1) olds ∧ ∀ (j : Nat) a, as[j]? = some a → (⟨a.1, a.2, #[]⟩ : Zq).It (b + j) i h
theorem SqK.at {X : Cx} {pins : List (Addr × Obj)} {σ : L2.St} {H : Hp} {s : Shared} (I : Inv X pins σ H s) {a : Bool × Addr} {xs : List V} (h : SqK X.K H a xs) : ∃ its : List Value, Vals xs its ∧ (⟨a.1, a.2, its.toArray⟩ : Zq).At s.heap ∧ xs.length ≤ sizeLine := by
  unfold SqK at h
  split at h
  · next e =>
    obtain ⟨its, r, p, z⟩ := I.tuple h
    exact ⟨its, r, by unfold Zq.At; rw [if_pos e]; exact p, z⟩
  · next e =>
    obtain ⟨its, r, p, z⟩ := I.list h
    exact ⟨its, r, by unfold Zq.At; rw [if_neg e]; exact p.isList, z⟩
theorem SqK.inj {X : Cx} {pins : List (Addr × Obj)} {σ : L2.St} {H : Hp} {s : Shared} (I : Inv X pins σ H s) {a : Bool × Addr} {xs ys : List V} (h : SqK X.K H a xs) (h' : SqK X.K H a ys) : xs = ys := by
  unfold SqK at h h'
  split at h
  · next e => rw [if_pos e] at h'; exact I.tuple_inj h h'
  · next e => rw [if_neg e] at h'; exact I.list_inj h h'
theorem pick_list {α β : Type} {p : α → β → Prop} : ∀ {as : List α}, (∀ a ∈ as, ∃ b, p a b) → ∃ bs : List β, bs.length = as.length ∧ ∀ (j : Nat) a b, as[j]? = some a → bs[j]? = some b → p a b
  | [], _ => ⟨[], rfl, fun j a b h => by simp at h⟩
  | a :: as, h => by
    obtain ⟨b, hb⟩ := h a (by simp)
    obtain ⟨bs, hl, hbs⟩ := pick_list (as := as) fun x hx => h x (by simp [hx])
    refine ⟨b :: bs, by simp [hl], fun j x y hx hy => ?_⟩
    cases j with
    | zero => cases hx; cases hy; exact hb
    | succ j => exact hbs j x y (by simpa using hx) (by simpa using hy)
theorem vals_of : ∀ {us : List V} {xs : List Value}, us.length = xs.length → (∀ (j : Nat) u x, us[j]? = some u → xs[j]? = some x → RelV u x) → Vals us xs
  | [], [], _, _ => .nil
  | u :: us, x :: xs, hl, h => .cons (h 0 u x rfl rfl) (vals_of (by simpa using hl) fun j a b ha hb => h (j + 1) a b (by simpa using ha) (by simpa using hb))
theorem notin2 {x a b : Nat} (h1 : x ≠ a) (h2 : x ≠ b) : x ∉ [a, b] := fun h => by
  rcases List.mem_cons.mp h with q | q
  · exact h1 q
  · exact h2 (List.mem_singleton.mp q)
theorem turn_zipN {P : Program} {w : World} {K : PySem.W.Frag} {tg : Expr} {as : List (Bool × Addr)} {b : Addr} {free : Bool} (hb : ∀ a ∈ as, a.2 < b) (hne : as ≠ []) (hes : as.length ≤ sizeLine)
    (ht : (free = false ∧ ∀ it u, letOwnedTupleGo tg it u = pure ()) ∨ (free = true ∧ ∃ elts kk tpos, tg = .Tuple elts kk tpos)) :
    Turn P w K tg (ItzN K as) ((List.range (as.length + 3)).map (b + ·)) (b + as.length + 2) (tnN as b free) where
  mem := List.mem_map.mpr ⟨as.length + 2, List.mem_range.mpr (by omega), rfl⟩
  obj := fun i h st c hc => by
    obtain ⟨f0, f1, olds, hz, _, _, hTI, _, hTO, hit⟩ := st
    obtain ⟨j, hj, rfl⟩ := List.mem_map.mp hc
    have hj := List.mem_range.mp hj
    rcases Nat.lt_or_ge j as.length with h1 | h1
    · have := hit j _ (List.getElem?_eq_getElem h1)
      unfold Zq.It at this
      split at this
      · obtain ⟨o, e, _, d⟩ := this; exact ⟨o, e, fun v q => by rw [d] at q; cases q⟩
      · obtain ⟨o, e, _, d⟩ := this; exact ⟨o, e, fun v q => by rw [d] at q; cases q⟩
    · have : @Eq Nat j as.length ∨ @Eq Nat j (as.length + 1) ∨ @Eq Nat j (as.length + 2) := by omega
      rcases this with rfl | rfl | rfl
      · exact ⟨_, hTI, fun v q => nomatch q⟩
      · exact ⟨_, hTO, fun v q => nomatch q⟩
      · exact ⟨_, hz, fun v q => nomatch q⟩
  keep := fun i h h' st k => by
    obtain ⟨f0, f1, olds, hz, a1, a2, hTI, a3, hTO, hit⟩ := st
    have mem : ∀ j, j < as.length + 3 → b + j ∈ (List.range (as.length + 3)).map (b + ·) := fun j hj => List.mem_map.mpr ⟨j, List.mem_range.mpr hj, rfl⟩
    exact ⟨f0, f1, olds, k _ (mem (as.length + 2) (by omega)) _ hz, a1, a2, k _ (mem as.length (by omega)) _ hTI, a3, k _ (mem (as.length + 1) (by omega)) _ hTO, fun j a hj => (hit j a hj).up fun o q => k _ (mem j (by have := (List.getElem?_eq_some_iff.mp hj).1; omega)) o q⟩
  item := by
    intro X hP hw hK hc i pins s σ H E I hf st hg
    subst hP hw hK
    obtain ⟨f0, f1, olds, hz, hf0, hfr, hTI, hol, hTO, hit⟩ := st
    obtain ⟨bs, hbl, hbs⟩ := pick_list (p := fun (a : Bool × Addr) (q : List V × V × List Value) => SqK X.K H a q.1 ∧ q.1[i]? = some q.2.1 ∧ Vals q.1 q.2.2 ∧ (⟨a.1, a.2, q.2.2.toArray⟩ : Zq).At s.heap) (as := as) fun a ha => by
      obtain ⟨xs, x, h1, h2⟩ := hg a ha
      obtain ⟨its, h3, h4, _⟩ := SqK.at I h1
      exact ⟨(xs, x, its), h1, h2, h3, h4⟩
    have hzlt : b + as.length + 2 < s.heap.objs.size := Heap.lt_size hz
    have hh : X.A.handled = none := I.ok.hd hc
    let es : List Zd := (as.zip bs).zipIdx.map fun q => zd q.1.1.1 (b + q.2) q.1.1.2 q.1.2.2.2.toArray
    have get : ∀ (j : Nat) e, es[j]? = some e → ∃ a q, as[j]? = some a ∧ bs[j]? = some q ∧ e = zd a.1 (b + j) a.2 q.2.2.toArray := fun j e he => by
      have he : ((as.zip bs).zipIdx.map fun q => zd q.1.1.1 (b + q.2) q.1.1.2 q.1.2.2.2.toArray)[j]? = some e := he
      rw [List.getElem?_map, List.getElem?_zipIdx] at he
      cases e1 : (as.zip bs)[j]? with
      | none => rw [e1] at he; cases he
      | some q =>
        rw [e1] at he
        obtain ⟨e2, e3⟩ := List.getElem?_zip_eq_some.mp e1
        refine ⟨q.1, q.2, e2, e3, ?_⟩
        have he : some (zd q.1.1 (b + (0 + j)) q.1.2 q.2.2.2.toArray) = some e := he
        rw [Nat.zero_add] at he
        exact (Option.some.inj he).symm
    have hel : es.length = as.length := by simp [es, hbl]
    clear_value es
    have mem : ∀ e ∈ es, ∃ (j : Nat) (a : Bool × Addr) (q : List V × V × List Value), es[j]? = some e ∧ as[j]? = some a ∧ bs[j]? = some q ∧ e = zd a.1 (b + j) a.2 q.2.2.toArray := fun e he => by
      obtain ⟨j, hj, e1⟩ := List.getElem_of_mem he
      have e2 : es[j]? = some e := by rw [List.getElem?_eq_getElem hj, e1]
      obtain ⟨a, q, h1, h2, h3⟩ := get j e e2
      exact ⟨j, a, q, e2, h1, h2, h3⟩
    have lt : ∀ {j : Nat} {a : Bool × Addr}, as[j]? = some a → @LT.lt Nat _ a.2 b ∧ @LT.lt Nat _ j as.length := fun h => ⟨hb _ (List.mem_of_getElem? h), (List.getElem?_eq_some_iff.mp h).1⟩
    have hD : Zds X.prog X.w X.A.in1 es := fun e he => by
      obtain ⟨j, a, q, _, h1, _, rfl⟩ := mem e he
      have := lt h1
      exact zd_draws (show X.A.in1.handled = none from hh) (by show a.2 ≠ b + j; exact Nat.ne_of_lt (Nat.lt_of_lt_of_le this.1 (Nat.le_add_right _ _)))
    have S : ZSep (b + as.length + 2) (b + as.length) (b + as.length + 1) es := by
      refine ⟨by show @Ne Nat _ _; omega, by show @Ne Nat _ _; omega, by show @Ne Nat _ _; omega, fun e he => ?_, fun e he => ?_, fun e he => ?_, fun e he => ?_, ?_⟩
      · obtain ⟨j, a, q, _, h1, _, rfl⟩ := mem e he
        have := lt h1
        show @Ne Nat (b + as.length) (b + j)
        omega
      · obtain ⟨j, a, q, _, h1, _, rfl⟩ := mem e he
        show b + j ∈ [b + j, a.2]
        simp
      · obtain ⟨j, a, q, _, h1, _, rfl⟩ := mem e he
        have := lt h1
        show b + as.length + 2 ∉ [b + j, a.2]
        have z1 : @Ne Nat (b + as.length + 2) (b + j) := by omega
        have z2 : @Ne Nat (b + as.length + 2) a.2 := by omega
        exact notin2 z1 z2
      · obtain ⟨j, a, q, _, h1, _, rfl⟩ := mem e he
        have := lt h1
        show b + as.length + 1 ∉ [b + j, a.2]
        have z1 : @Ne Nat (b + as.length + 1) (b + j) := by omega
        have z2 : @Ne Nat (b + as.length + 1) a.2 := by omega
        exact notin2 z1 z2
      · rw [List.pairwise_iff_getElem]
        intro j k hj hk hjk
        obtain ⟨a, q, h1, _, e1⟩ := get j _ (List.getElem?_eq_getElem hj)
        obtain ⟨a', q', h1', _, e1'⟩ := get k _ (List.getElem?_eq_getElem hk)
        have := lt h1
        have := lt h1'
        rw [e1, e1']
        show b + j ∉ [b + k, a'.2] ∧ b + k ∉ [b + j, a.2]
        have z1 : @Ne Nat (b + j) (b + k) := by omega
        have z2 : @Ne Nat (b + j) a'.2 := by omega
        have z3 : @Ne Nat (b + k) (b + j) := by omega
        have z4 : @Ne Nat (b + k) a.2 := by omega
        exact ⟨notin2 z1 z2, notin2 z3 z4⟩
    have hne2 : es ≠ [] := fun q => hne (List.length_eq_zero_iff.mp (by rw [← hel, q]; rfl))
    have hits : es.map (fun e => Value.ref e.it) = (List.range as.length).map fun j => Value.ref (b + j) := by
      refine List.ext_getElem? fun j => ?_
      rw [List.getElem?_map, List.getElem?_map]
      rcases Nat.lt_or_ge j as.length with hj | hj
      · have hj2 : j < es.length := by omega
        obtain ⟨a, q, _, _, e1⟩ := get j _ (List.getElem?_eq_getElem hj2)
        rw [List.getElem?_eq_getElem hj2, List.getElem?_range hj, e1]
        rfl
      · rw [List.getElem?_eq_none (by omega), List.getElem?_eq_none (by simpa using hj)]
        rfl
    have hst : ∀ e ∈ es, e.St i s.heap := fun e he => by
      obtain ⟨j, a, q, _, h1, h2, rfl⟩ := mem e he
      exact ⟨hit j a h1, (hbs j a q h1 h2).2.2.2⟩
    have hlt : ∀ e ∈ es, i < e.n := fun e he => by
      obtain ⟨j, a, q, _, h1, h2, rfl⟩ := mem e he
      obtain ⟨_, g2, g3, _⟩ := hbs j a q h1 h2
      show i < q.2.2.toArray.size
      rw [List.size_toArray, ← g3.length]
      exact (List.getElem?_eq_some_iff.mp g2).1
    refine pyNext_zipN_item hD S hne2 hz hf0 (by rw [hits]; exact hTI) hTO (by rw [hol, hel]) hst hlt (by rw [hel]; exact hes) fun xs h' tk hxl hxP hzip hTO2 hst2 hT hsz hk => ⟨_, rfl, ?_⟩
    obtain ⟨f0', f1', hz', hf0', hfr'⟩ := hzip
    obtain ⟨olds', hol', hTO'⟩ := hTO2
    let us : List V := bs.map fun q => q.2.1
    have hul : us.length = as.length := by simp [us, hbl]
    have uget : ∀ (j : Nat) u, us[j]? = some u → ∃ a q, as[j]? = some a ∧ bs[j]? = some q ∧ u = q.2.1 := fun j u hu => by
      have hu : (bs.map fun q => q.2.1)[j]? = some u := hu
      rw [List.getElem?_map] at hu
      cases e1 : bs[j]? with
      | none => rw [e1] at hu; cases hu
      | some q =>
        rw [e1] at hu
        have hj := (List.getElem?_eq_some_iff.mp e1).1
        exact ⟨_, q, List.getElem?_eq_getElem (show j < as.length by omega), rfl, (Option.some.inj hu).symm⟩
    clear_value us
    have hv : Vals us xs := vals_of (by omega) fun j u x hu hx => by
      obtain ⟨a, q, h1, h2, rfl⟩ := uget j u hu
      obtain ⟨_, g2, g3, _⟩ := hbs j a q h1 h2
      have hj : j < es.length := by have := (List.getElem?_eq_some_iff.mp h1).1; omega
      have hp := hxP j _ x (List.getElem?_eq_getElem hj) hx
      obtain ⟨a', q', h1', h2', e1⟩ := get j _ (List.getElem?_eq_getElem hj)
      rw [h1] at h1'
      cases h1'
      rw [h2] at h2'
      cases h2'
      rw [e1] at hp
      have hp : q.2.2.toArray[i]? = some x := hp
      obtain ⟨v, hv1, hv2⟩ := g3.get g2
      rw [List.getElem?_toArray, hv1] at hp
      cases hp
      exact hv2
    have fpm : ∀ {c : Addr}, c ∉ (List.range (as.length + 3)).map (b + ·) → c ≠ b + as.length + 2 ∧ c ≠ b + as.length + 1 ∧ c ≠ b + as.length ∧ ∀ e ∈ es, c ≠ e.it := fun hc => by
      refine ⟨fun q => hc (List.mem_map.mpr ⟨as.length + 2, List.mem_range.mpr (by omega), q.symm⟩), fun q => hc (List.mem_map.mpr ⟨as.length + 1, List.mem_range.mpr (by omega), q.symm⟩), fun q => hc (List.mem_map.mpr ⟨as.length, List.mem_range.mpr (by omega), q.symm⟩), fun e he q => ?_⟩
      obtain ⟨j, a, r, _, h1, _, rfl⟩ := mem e he
      exact hc (List.mem_map.mpr ⟨j, List.mem_range.mpr (by have := lt h1; omega), q.symm⟩)
    have fin : ∀ (h'' : Heap), Heap.SameBut (b + as.length + 2) h' h'' → (∃ f0 f1, IsZipF h'' (b + as.length + 2) (b + as.length) (b + as.length + 1) f0 f1 ∧ (f0 = .none ∨ ∃ T : Nat, f0 = rawInt T) ∧ (free = true → f0 = .none ∧ f1 = false)) →
        ∃ x H', Inv X pins σ H' { s with heap := h'', toks := tk } ∧ RelV x (.ref s.heap.objs.size) ∧ (ItzN X.K as).yld i H x H' ∧ tnN as b free (i + 1) h'' ∧ ∀ c ∈ (List.range (as.length + 3)).map (b + ·), H' c = none := fun h'' sb ⟨g0, g1, q1, q2, q3⟩ => by
      have hzl : @LT.lt Nat _ (b + as.length + 2) s.heap.objs.size := hzlt
      have up : ∀ c o, c ≠ b + as.length + 2 → h'.get? c = some o → h''.get? c = some o := fun c o c1 x => sb.extBut _ _ c1 x
      have hT2 : IsTupN h'' s.heap.objs.size xs := up _ _ (Nat.ne_of_gt hzl) hT
      have new : ObjOk X.prog X.w (upd H s.heap.objs.size (.tup us)) h'' s.heap.objs.size (.tup us) :=
        ⟨by show us.length ≤ sizeLine; omega, xs, hv, ⟨_, hT2, rfl, _, rfl⟩⟩
      have I1 : Inv X pins σ (upd H s.heap.objs.size (.tup us)) { s with heap := h'', toks := tk } :=
        I.turnedNew (t' := tk) (ch := (List.range (as.length + 3)).map (b + ·)) (fun c o hb q => by
          obtain ⟨c1, c2, c3, c4⟩ := fpm hb
          exact up c o c1 (hk c o c1 c2 c4 q)) hf (Nat.le_refl _) new
      refine ⟨.ref s.heap.objs.size, _, I1, rfl, ⟨_, us, rfl, I.hok.fresh (Nat.le_refl _), rfl, hul, fun j a u h1 h2 ys hy => ?_⟩, ⟨g0, g1, olds', q1, q2, q3, ?_, by omega, up _ _ (by show @Ne Nat _ _; omega) hTO', fun j a hj => ?_⟩, fun c hcm => ?_⟩
      · obtain ⟨a', q, h1', h2', rfl⟩ := uget j u h2
        rw [h1] at h1'
        cases h1'
        obtain ⟨g1, g2, _⟩ := hbs j a q h1 h2'
        rw [SqK.inj I hy g1]
        exact g2
      · refine up _ _ (by show @Ne Nat _ _; omega) (hk _ _ (by show @Ne Nat _ _; omega) (by show @Ne Nat _ _; omega) (fun e he => ?_) hTI)
        obtain ⟨j, a, r, _, h1, _, rfl⟩ := mem e he
        have := lt h1
        show @Ne Nat (b + as.length) (b + j)
        omega
      · have hj2 := lt hj
        have hj3 : j < es.length := by omega
        obtain ⟨a', q', h1', h2', e1⟩ := get j _ (List.getElem?_eq_getElem hj3)
        rw [hj] at h1'
        cases h1'
        have h5 := hst2 _ (List.getElem_mem hj3)
        rw [e1] at h5
        exact h5.1.up fun o x => up _ _ (by show @Ne Nat (b + j) _; omega) x
      · obtain ⟨j, hj, rfl⟩ := List.mem_map.mp hcm
        have hj := List.mem_range.mp hj
        rw [upd_ne (by show @Ne Nat (b + j) _; omega)]
        exact (hf _ hcm).1
    rcases ht with ⟨rfl, hgo⟩ | ⟨rfl, elts, kk, tpos, rfl⟩
    · rw [hgo]
      exact wpAny_pure (fin h' (Heap.SameBut.refl _ _) ⟨f0', f1', hz', hf0', fun q => by cases q⟩)
    · obtain ⟨rfl, rfl⟩ := hfr rfl
      obtain ⟨rfl, rfl⟩ := hfr' rfl
      exact wpAny_letOwnedTupleGo_zip (s := { s with heap := h', toks := tk }) hz' fun h'' hz'' sb => fin h'' sb ⟨_, _, hz'', .inl rfl, fun _ => ⟨rfl, rfl⟩⟩
  done := by
    intro X hP hw hK hc i pins s σ H E I hf st hg
    subst hP hw hK
    obtain ⟨f0, f1, olds, hz, hf0, hfr, hTI, hol, hTO, hit⟩ := st
    obtain ⟨a0, xs0, ha0, hq0, hend⟩ := hg
    obtain ⟨its, hv, hat, _⟩ := SqK.at I hq0
    have hh : X.A.handled = none := I.ok.hd hc
    have h0 : as[0]? = some a0 := by rw [← List.head?_eq_getElem?]; exact ha0
    have hb0 : @LT.lt Nat _ a0.2 b := hb _ (List.mem_of_getElem? h0)
    have hl0 : 0 < as.length := (List.getElem?_eq_some_iff.mp h0).1
    have hx : its.toArray[i]? = none := by
      have := hv.length
      rw [List.getElem?_toArray]
      exact List.getElem?_eq_none (by omega)
    have hD : Zds X.prog X.w X.A.in1 [zd a0.1 b a0.2 its.toArray] := fun e he => by
      rw [List.mem_singleton.mp he]
      exact zd_draws (show X.A.in1.handled = none from hh) (by show @Ne Nat a0.2 b; omega)
    have S : ZSep (b + as.length + 2) (b + as.length) (b + as.length + 1) [zd a0.1 b a0.2 its.toArray] := by
      refine ⟨by show @Ne Nat _ _; omega, by show @Ne Nat _ _; omega, by show @Ne Nat _ _; omega, fun e he => ?_, fun e he => ?_, fun e he => ?_, fun e he => ?_, List.pairwise_singleton ..⟩
      · rw [List.mem_singleton.mp he]
        show @Ne Nat (b + as.length) b
        omega
      · rw [List.mem_singleton.mp he]
        show b ∈ [b, a0.2]
        simp
      · rw [List.mem_singleton.mp he]
        exact notin2 (by show @Ne Nat _ b; omega) (by show @Ne Nat _ a0.2; omega)
      · rw [List.mem_singleton.mp he]
        exact notin2 (by show @Ne Nat _ b; omega) (by show @Ne Nat _ a0.2; omega)
    have hTI' : IsTupN s.heap (b + as.length) (.ref (zd a0.1 b a0.2 its.toArray).it :: ((List.range (as.length - 1)).map fun j => Value.ref (b + (j + 1)))) := by
      have e : (List.range as.length).map (fun j => Value.ref (b + j)) = .ref b :: ((List.range (as.length - 1)).map fun j => Value.ref (b + (j + 1))) := by
        conv => lhs; rw [show as.length = (as.length - 1) + 1 by omega, List.range_succ_eq_map, List.map_cons, List.map_map]
        rfl
      rw [e] at hTI
      exact hTI
    refine pyNext_zipN_end hD S hz hf0 hTI' ⟨hit 0 a0 h0, hat⟩ (fun s' Q E' st hE => zd_end (show X.A.in1.handled = none from hh) hx s' Q E' st hE) fun h' hk => ⟨rfl, I.turnedL (t' := s.toks) (ch := (List.range (as.length + 3)).map (b + ·)) (fun c o hb q => hk c o (fun z => hb (List.mem_map.mpr ⟨as.length + 2, List.mem_range.mpr (by omega), z.symm⟩)) (fun z => hb (List.mem_map.mpr ⟨0, List.mem_range.mpr (by omega), z.symm⟩)) q) hf⟩
  self := fun A i s Q E st h => by
    obtain ⟨f0, f1, olds, hz, _⟩ := st
    have hT : s.TypeIs (.ref (b + as.length + 2)) "zip" := ⟨_, hz, rfl⟩
    refine wpAny_pyIter_slot hT F.slot_zip_iter (wpAny_call_entry F.slot_zip_iter hT F.entry_zip_iter ?_ (F.args_zip_iter_1 _))
    show wpAny _ _ (ret (.ref (b + as.length + 2))) _ _ s
    exact wpAny_pure ⟨_, rfl, "zip", _, hT, F.slot_zip_next.lookup, h⟩
end L2

set_option maxHeartbeats 1000000
namespace L2
open PySem PySem.Spec PyProof.Rows
theorem callWith_typeS {M : Model} {A : Around} {E : Value → Shared → Prop} {s : Shared} {env : Env} {pos p : Pos} {T : String} {e : Expr} {Q : Value → Shared → Prop}
    (h : wpAny M A (eval e env) (fun v s₁ => PySem.W.StarOf M A E v (fun vs s₂ => wpAny M A (call (.type T) vs) Q E s₂) s₁) E s)
    (he : starEach [.Starred e p] env = [(true, eval e env)] := by rfl) : wpAny M A (callWith pos (.type T) [] (backTo pos (starEach [.Starred e p] env)) []) Q E s := by
  rw [he]
  unfold callWith
  refine wpAny_bind (wpAny_holding (wpAny_mono (PySem.W.ks_lone (Q := fun a s₂ => wpAny M A (call (.type T) a.pos a.kw) Q E s₂) h) (fun a s₁ h₁ => wpAny_bind (wpAny_standAt ?_)) fun _ _ x => x))
  refine wpAny_bind (wpAny_pure ?_)
  have h₂ : wpAny M A (call (.type T) ([] ++ a.pos) a.kw) Q E s₁ := h₁
  exact wpAny_bind (wpAny_mono (wpAny_operate' h₂) (fun r s₂ hr => wpAny_bind (wpAny_holding (wpAny_point (wpAny_pure hr)))) fun _ _ x => x)
def ZOk (K : PySem.W.Frag) (vs : List V) (H : Hp) (R : It → Hp → Prop) : Prop := ∃ as : List (Bool × Addr), vs = as.map (fun a => V.ref a.2) ∧ as ≠ [] ∧ as.length ≤ sizeLine ∧ (∀ a ∈ as, ∃ xs, SqK K H a xs) ∧ R (ItzN K as) H
theorem vals_zrefs : ∀ {as : List (Bool × Addr)} {us : List Value}, Vals (as.map fun a => V.ref a.2) us → us = as.map fun a => Value.ref a.2
  | [], _, .nil => rfl
  | a :: as, _, .cons r rs => by
    rw [vals_zrefs rs, show _ = Value.ref a.2 from r]
    rfl
theorem made_zipN {X : Cx} {pins : List (Addr × Obj)} {σ : L2.St} {H : Hp} {s : Shared} {vs : List V} {us : List Value} {R : It → Hp → Prop} {tg : Expr} {free : Bool} (ht : (free = false ∧ ∀ it u, letOwnedTupleGo tg it u = pure ()) ∨ (free = true ∧ ∃ elts kk tpos, tg = .Tuple elts kk tpos))
    (I : Inv X pins σ H s) (r : Vals vs us) (q : ZOk X.K vs H R) : wpAny (model X.prog X.w) X.A (call (.type "zip") us) (fun v s1 => wpAny (model X.prog X.w) X.A (pyIter v) (PIE X pins σ tg R) X.xe s1) X.xe s := by
  obtain ⟨as, rfl, hne, hes, hsq, hR⟩ := q
  rw [vals_zrefs r]
  obtain ⟨qs, hql, hqs⟩ := pick_list (p := fun (a : Bool × Addr) (q : Zq) => q.t = a.1 ∧ q.l = a.2 ∧ q.At s.heap) (as := as) fun a ha => by
    obtain ⟨xs, hx⟩ := hsq a ha
    obtain ⟨its, _, hat, _⟩ := SqK.at I hx
    exact ⟨⟨a.1, a.2, its.toArray⟩, rfl, rfl, hat⟩
  have get : ∀ (j : Nat) q, qs[j]? = some q → ∃ a, as[j]? = some a ∧ q.t = a.1 ∧ q.l = a.2 ∧ q.At s.heap := fun j q hq => by
    have hj : j < as.length := by have := (List.getElem?_eq_some_iff.mp hq).1; omega
    exact ⟨_, List.getElem?_eq_getElem hj, hqs j _ q (List.getElem?_eq_getElem hj) hq⟩
  have el : as.map (fun a => Value.ref a.2) = qs.map fun q => Value.ref q.l := by
    refine List.ext_getElem? fun j => ?_
    rw [List.getElem?_map, List.getElem?_map]
    cases e : qs[j]? with
    | none =>
      have := List.getElem?_eq_none_iff.mp e
      rw [List.getElem?_eq_none (by omega)]
      rfl
    | some q =>
      obtain ⟨a, h1, _, h3, _⟩ := get j q e
      rw [h1]
      show some (Value.ref a.2) = some (Value.ref q.l)
      rw [h3]
  rw [el]
  refine call_zipN (by omega) (fun q hq => ?_) fun h' hi hTI hTO hz hsz hk => ?_
  · obtain ⟨j, hj, e⟩ := List.getElem_of_mem hq
    obtain ⟨a, _, _, _, h⟩ := get j q (by rw [List.getElem?_eq_getElem hj, e])
    exact h
  · rw [hql] at hTI hTO hz hsz
    rw [hql]
    have hb : ∀ a ∈ as, a.2 < s.heap.objs.size := fun a ha => by
      obtain ⟨j, hj, e⟩ := List.getElem_of_mem ha
      have hj2 : j < qs.length := by omega
      obtain ⟨a', h1, _, h3, h4⟩ := get j _ (List.getElem?_eq_getElem hj2)
      rw [List.getElem?_eq_getElem hj, e] at h1
      cases h1
      rw [← h3]
      unfold Zq.At at h4
      split at h4
      · obtain ⟨o, ho, _⟩ := h4; exact Heap.lt_size ho
      · obtain ⟨o, ho, _⟩ := h4; exact Heap.lt_size ho
    have T := turn_zipN (P := X.prog) (w := X.w) (K := X.K) hb hne hes ht
    have t0 : tnN as s.heap.objs.size free 0 h' := ⟨.none, false, qs.map fun _ => .none, hz, .inl rfl, fun _ => ⟨rfl, rfl⟩, hTI, by rw [List.length_map]; exact hql, hTO, fun j a hj => by
      have hj2 : j < qs.length := by have := (List.getElem?_eq_some_iff.mp hj).1; omega
      obtain ⟨a', h1, h2, h3, _⟩ := get j _ (List.getElem?_eq_getElem hj2)
      rw [hj] at h1
      cases h1
      have h4 := hi j _ (List.getElem?_eq_getElem hj2)
      unfold Zq.It at h4 ⊢
      rw [h2, h3] at h4
      exact h4⟩
    have I2 : Inv X pins σ H { s with heap := h' } := I.kept (t' := s.toks) hk
    refine T.self X.A 0 { s with heap := h' } _ _ t0 ⟨_, _, _, _, H, rfl, I2, T, t0, fun c hc => ?_, hR⟩
    obtain ⟨j, _, rfl⟩ := List.mem_map.mp hc
    exact I.fpOk (Nat.le_add_right _ _) (I.hok.fresh (Nat.le_add_right _ _))
theorem pi_zipN {X : Cx} {e : Expr} {es : List Expr} {ta : TA} {p pos tpos : Pos} {elts : List Expr} {kk : Nat} (hg : Gl X "zip") (hm : X.mg "zip" = none) (ha : PA X (e :: es) ta)
    (hs : starEach (e :: es) X.env = (false, eval e X.env) :: starEach es X.env := by rfl) (hpl : (backTo pos (starEach es X.env)).any (·.1) = false := by rfl) :
    PI X (.Tuple elts kk tpos) (.Call (.Name "zip" p) (e :: es) [] pos) (fun σ H R => ta σ H fun vs H1 => ZOk X.K vs H1 R) := by
  refine ⟨fun pins s σ H R I h => ?_⟩
  refine Call_ (ld_blt I hg hm PyProof.Rows.boot_zip (PyProof.Rows.callWith_type1 (thn (ha.run pos pins s σ H _ I h) fun us s1 ⟨vs, H1, I1, r1, q1⟩ => ?_) hs hpl))
  exact made_zipN (.inr ⟨rfl, _, _, _, rfl⟩) I1 r1 q1
theorem pi_zipS {X : Cx} {e : Expr} {te : TE} {p p2 p3 pos : Pos} {y : Str} (hg : Gl X "zip") (hm : X.mg "zip" = none) (he : PE X e te) (hst : starEach [.Starred e p3] X.env = [(true, eval e X.env)] := by rfl) :
    PI X (.Name y p2) (.Call (.Name "zip" p) [.Starred e p3] [] pos) (fun σ H R => te σ H fun v H1 => ∃ a vs, v = .ref a ∧ (SqT X.K H1 a vs ∨ SqL X.K H1 a vs) ∧ ZOk X.K vs H1 R) := by
  refine ⟨fun pins s σ H R I h => ?_⟩
  refine Call_ (ld_blt I hg hm PyProof.Rows.boot_zip (callWith_typeS (thn (he.run pins s σ H _ I h) fun v s1 ⟨x, H1, I1, rx, a, vs, ex, hsq, q⟩ => ?_) hst))
  subst ex
  obtain rfl : v = Value.ref a := rx
  exact StX.star_any I1 hsq fun us s2 I2 rv => made_zipN (.inl ⟨rfl, fun _ _ => rfl⟩) I2 rv q
end L2

set_option maxHeartbeats 1000000
namespace DL
open PySem PySem.Spec PyProof.Rows L2
/-- zip of lists of one length -/
def zipND (n : Nat) (dss : List (List D)) : List D := (List.range n).map fun i => D.tup (dss.map fun ds => ds.getD i .non)
def seqD : D → Option (Bool × List D)
  | .tup xs => some (true, xs)
  | .lst xs => some (false, xs)
  | _ => none
def seqDs : List D → Option (List (Bool × List D))
  | [] => some []
  | d :: ds => match seqD d, seqDs ds with
    | some q, some qs => some (q :: qs)
    | _, _ => none
def sqF (F : Hp) (a : Bool × Addr) (xs : List V) : Prop := F a.2 = some (if a.1 = true then .tup xs else .lst xs)
theorem sqF.sqK {K : PySem.W.Frag} {F : Hp} {a : Bool × Addr} {xs : List V} (h : sqF F a xs) : SqK K F a xs := by
  unfold sqF at h
  unfold SqK
  split
  · next e => rw [if_pos e] at h; exact SqT.of h
  · next e => rw [if_neg e] at h; exact SqL.of h
theorem rps_of {K : PySem.W.Frag} {F : Hp} {al : List Addr} : ∀ {us : List V} {ds : List D}, us.length = ds.length → (∀ (j : Nat) u d, us[j]? = some u → ds[j]? = some d → Rp K F al u d) → Rps K F al us ds
  | [], [], _, _ => .nil
  | u :: us, d :: ds, hl, h => .cons (h 0 u d rfl rfl) (rps_of (by simpa using hl) fun j a b ha hb => h (j + 1) a b (by simpa using ha) (by simpa using hb))
theorem seqD_ok {K : PySem.W.Frag} {F : Hp} {al : List Addr} {v : V} {d : D} {q : Bool × List D} (r : Rp K F al v d) (h : seqD d = some q) : ∃ a xs, v = .ref a ∧ sqF F (q.1, a) xs ∧ Rps K F al xs q.2 := by
  cases d with
  | tup ds => cases h; cases r with | tup a b => exact ⟨_, _, rfl, a, b⟩
  | lst ds => cases h; cases r with | lst a b => exact ⟨_, _, rfl, a, b⟩
  | _ => cases h
theorem seqDs_ok {K : PySem.W.Frag} {F : Hp} {al : List Addr} : ∀ {ds : List D} {vs : List V} {qs : List (Bool × List D)}, Rps K F al vs ds → seqDs ds = some qs → ∃ as : List (Bool × Addr), vs = as.map (fun a => V.ref a.2) ∧ as.length = qs.length ∧ ∀ (j : Nat) a q, as[j]? = some a → qs[j]? = some q → ∃ xs, sqF F a xs ∧ Rps K F al xs q.2
  | [], _, _, .nil, h => by cases h; exact ⟨[], rfl, rfl, fun j a q h => by simp at h⟩
  | d :: ds, _, qs, .cons r rs, h => by
    unfold seqDs at h
    split at h
    · next q qs e1 e2 =>
      cases h
      obtain ⟨a, xs, rfl, h1, h2⟩ := seqD_ok r e1
      obtain ⟨as, rfl, hl, h3⟩ := seqDs_ok rs e2
      refine ⟨(q.1, a) :: as, rfl, by simp [hl], fun j a' q' ha hq => ?_⟩
      cases j with
      | zero => cases ha; cases hq; exact ⟨xs, h1, h2⟩
      | succ j => exact h3 j a' q' (by simpa using ha) (by simpa using hq)
    · cases h
theorem itzN_ok {K : PySem.W.Frag} {al : List Addr} {F G : Hp} {st : Sto → Prop} {n : Nat} {as : List (Bool × Addr)} {qs : List (Bool × List D)} (hne : as ≠ []) (hl : as.length = qs.length) (hn : ∀ q ∈ qs, q.2.length = n) (h : ∀ (j : Nat) a q, as[j]? = some a → qs[j]? = some q → ∃ xs, sqF F a xs ∧ Rps K F al xs q.2) : ItOk K (ItzN K as) (zipND n (qs.map (·.2))) st al F G := by
  intro al' F' G' H' M' e sg W hst i
  have at' : ∀ (j : Nat) a, as[j]? = some a → ∃ xs q, qs[j]? = some q ∧ SqK K H' a xs ∧ Rps K F' al' xs q.2 ∧ q.2.length = n := fun j a ha => by
    have hj : j < qs.length := by have := (List.getElem?_eq_some_iff.mp ha).1; omega
    obtain ⟨xs, h1, h2⟩ := h j a _ ha (List.getElem?_eq_getElem hj)
    exact ⟨xs, _, List.getElem?_eq_getElem hj, sqF.sqK (W.sm _ _ (e.sm _ _ h1)), h2.ext e, hn _ (List.getElem_mem hj)⟩
  refine ⟨fun d hd => ?_, fun hlen => ?_⟩
  · unfold zipND at hd
    rw [List.getElem?_map] at hd
    have hi : i < n := by
      by_cases hi : i < n
      · exact hi
      · rw [List.getElem?_eq_none (by rw [List.length_range]; omega)] at hd
        cases hd
    rw [List.getElem?_range hi] at hd
    cases hd
    refine ⟨fun a ha => ?_, fun z H'' hy => ?_⟩
    · obtain ⟨j, hj, ej⟩ := List.getElem_of_mem ha
      obtain ⟨xs, q, _, h1, h2, h3⟩ := at' j a (by rw [List.getElem?_eq_getElem hj, ej])
      have : i < xs.length := by rw [h2.length]; omega
      exact ⟨xs, _, h1, List.getElem?_eq_getElem this⟩
    · obtain ⟨T, us, rfl, nT, rfl, hul, hu⟩ := hy
      obtain ⟨W1, e1⟩ := W.newF (o := .tup us) nT
      refine ⟨_, e1.sm, W1, .tup upd_same (rps_of (by simp; omega) fun j u d hu2 hd2 => ?_)⟩
      have hj : j < as.length := by have := (List.getElem?_eq_some_iff.mp hu2).1; omega
      obtain ⟨xs, q, hq, h1, h2, h3⟩ := at' j _ (List.getElem?_eq_getElem hj)
      have hx := hu j _ u (List.getElem?_eq_getElem hj) hu2 xs h1
      rw [List.map_map, List.getElem?_map, hq] at hd2
      have hd2 : some (q.2.getD i .non) = some d := hd2
      have hg : q.2[i]? = some d := by
        have hi2 : i < q.2.length := by omega
        rw [List.getElem?_eq_getElem hi2]
        rw [List.getD_eq_getElem?_getD, List.getElem?_eq_getElem hi2] at hd2
        exact hd2
      exact (it_of h2 hg hx).ext e1
  · have hz : n ≤ i := by unfold zipND at hlen; simpa using hlen
    cases as with
    | nil => exact absurd rfl hne
    | cons a as =>
      obtain ⟨xs, q, _, h1, h2, h3⟩ := at' 0 a rfl
      exact ⟨a, xs, rfl, h1, by rw [h2.length]; omega⟩
@[reducible] def gZN (ds : List D) (M1 : Sto) (R : List D → (Sto → Prop) → Sto → Prop) : Prop := match seqDs ds with
  | some qs => ∃ n, qs ≠ [] ∧ qs.length ≤ 100000 ∧ (∀ q ∈ qs, q.2.length = n) ∧ R (zipND n (qs.map (·.2))) stYes M1
  | none => False
@[reducible] def diZipN (fr : DTA) : DTI := fun ρ M R => fr ρ M fun ds M1 => gZN ds M1 R
section
variable {X : Cx} {a : Expr} {es : List Expr} {fa : DTE} {fr : DTA} {pos : Pos}
theorem gZN_mono {ds : List D} {M : Sto} {R R' : List D → (Sto → Prop) → Sto → Prop} (w : ∀ ds st M, R ds st M → R' ds st M) (q : gZN ds M R) : gZN ds M R' := by
  unfold gZN at q ⊢
  split at q
  · obtain ⟨n, q1, q2, q3, q4⟩ := q
    exact ⟨n, q1, q2, q3, w _ _ _ q4⟩
  · exact q.elim
theorem gZN_ok {al : List Addr} {F G H : Hp} {M : Sto} {vs : List V} {ds : List D} {R : List D → (Sto → Prop) → Sto → Prop} {R' : It → Hp → Prop} (W : Wd X.K al F G H M) (r : Rps X.K F al vs ds) (q : gZN ds M R) (k : ∀ J ds st, R ds st M → ItOk X.K J ds st al F G → R' J H) : ZOk X.K vs H R' := by
  unfold gZN at q
  split at q
  · next qs e =>
    obtain ⟨n, q1, q2, q3, q4⟩ := q
    obtain ⟨as, rfl, hl, h3⟩ := seqDs_ok r e
    have hne : as ≠ [] := fun z => q1 (List.length_eq_zero_iff.mp (by rw [← hl, z]; rfl))
    refine ⟨as, rfl, hne, Nat.le_trans (by omega) (show 100000 ≤ sizeLine by decide), fun a ha => ?_, k _ _ _ q4 (itzN_ok hne hl q3 h3)⟩
    obtain ⟨j, hj, ej⟩ := List.getElem_of_mem ha
    have hj2 : j < qs.length := by omega
    obtain ⟨xs, h1, _⟩ := h3 j a _ (by rw [List.getElem?_eq_getElem hj, ej]) (List.getElem?_eq_getElem hj2)
    exact ⟨xs, sqF.sqK (W.sm _ _ h1)⟩
  · exact q.elim
theorem di_zipN {p tpos : Pos} {elts : List Expr} {kk : Nat} (hg : Gl X "zip") (hm : X.mg "zip" = none) (h : DA X (a :: es) fr) (hs : starEach (a :: es) X.env = (false, eval a X.env) :: starEach es X.env := by rfl) (hpl : (backTo pos (starEach es X.env)).any (·.1) = false := by rfl) :
    DI X (.Tuple elts kk tpos) (.Call (.Name "zip" p) (a :: es) [] pos) (diZipN fr) := by
  refine ⟨PI.of (pi_zipN hg hm h.pa hs hpl) fun σ H R ⟨ρ, M, al, F, G, W, es, q⟩ => ?_, fun ρ M Q Q' w q => h.mono _ _ _ _ (fun ds M1 q1 => gZN_mono w q1) q⟩
  exact h.seq W es q fun ds M1 al1 F1 H1 vs q1 e1 W1 r1 s1 => gZN_ok W1 r1 q1 fun J ds st q2 ok => q2 al1 F1 H1 J e1 W1 ok
@[reducible] def diZipS (fa : DTE) : DTI := fun ρ M R => fa ρ M fun d M1 => match seqD d with
  | some q => gZN q.2 M1 R
  | none => False
theorem di_zipS {p p2 p3 : Pos} {y : Str} (hg : Gl X "zip") (hm : X.mg "zip" = none) (h : DE X a fa) (hst : starEach [.Starred a p3] X.env = [(true, eval a X.env)] := by rfl) :
    DI X (.Name y p2) (.Call (.Name "zip" p) [.Starred a p3] [] pos) (diZipS fa) := by
  refine ⟨PI.of (pi_zipS hg hm h.pe hst) fun σ H R ⟨ρ, M, al, F, G, W, es, q⟩ => ?_, fun ρ M Q Q' w q => h.mono _ _ _ _ (fun d M1 q1 => ?_) q⟩
  · refine h.seq W es q fun d M1 al1 F1 H1 v q1 e1 W1 r1 s1 => ?_
    split at q1
    · next q e =>
      obtain ⟨a, xs, rfl, h1, h2⟩ := seqD_ok r1 e
      refine ⟨a, xs, rfl, ?_, gZN_ok W1 h2 q1 fun J ds st q2 ok => q2 al1 F1 H1 J e1 W1 ok⟩
      unfold sqF at h1
      split at h1
      · exact .inl (SqT.of (W1.sm _ _ h1))
      · exact .inr (SqL.of (W1.sm _ _ h1))
    · exact q1.elim
  · try dsimp only at q1 ⊢
    split at q1
    · exact gZN_mono w q1
    · exact q1.elim
end
end DL

set_option maxHeartbeats 1000000
/-! DLL: in, not in, of data in a list. -/
namespace DL
open PySem PySem.Spec PyProof.Rows L2
@[reducible] def gInD (neg : Bool) : G2 := fun x y M Q => match y with
  | .lst ds => eqOk x M ∧ eqOk (.lst ds) M ∧ Q (.bl (if neg then !((toPys ds).any fun z => PyData.eqv z (toPy (vw x M))) else (toPys ds).any fun z => PyData.eqv z (toPy (vw x M)))) M
  | _ => False
theorem gInD_mono (neg : Bool) : Mono2 (gInD neg) := fun x y M Q Q' w q => by
  unfold gInD at q ⊢
  split at q
  · exact ⟨q.1, q.2.1, w _ _ q.2.2⟩
  · exact q.elim
theorem room65 {k : Nat} {A : Around} (r : Room k A) : A.units + 65 < cLine := by have := r.un; omega
section
variable {X : Cx}
theorem o_inD (hu : X.A.units + 65 < cLine) : O2 X (compareOp .In) (gInD false) := O2.of (op_inD hu) (gInD_mono _) fun al F G H M x y dx dy Q W r1 r2 q => by
  unfold gInD at q
  split at q
  · exact ⟨_, _, dp_vw W r1 q.1.1, dp_vw W r2 q.2.1.1, q.1.2, q.2.1.2, kont.here q.2.2 W (.bl _)⟩
  · exact q.elim
theorem o_notinD (hu : X.A.units + 65 < cLine) : O2 X (compareOp .NotIn) (gInD true) := O2.of (op_notInD hu) (gInD_mono _) fun al F G H M x y dx dy Q W r1 r2 q => by
  unfold gInD at q
  split at q
  · exact ⟨_, _, dp_vw W r1 q.1.1, dp_vw W r2 q.2.1.1, q.1.2, q.2.1.2, kont.here q.2.2 W (.bl _)⟩
  · exact q.elim
end
end DL

set_option maxHeartbeats 1000000
/-! DLM: def f(*v), called with plain arguments. -/
namespace DL
open PySem PySem.Spec PyProof.Rows L2
theorem upN {P : Program} {w : World} : StX.CXUp (L2N.CX P w) := by
  intro outer s H s2 H2 E e s' un kp ho z
  obtain ⟨a, B, H', cls, d, e1, fl, hok, ub, na, os, ag, he⟩ := z
  refine ⟨a, B, H', cls, d, e1, fl, hok, ?_, na, os.trans ho, ag, he⟩
  constructor
  · exact fun b o q n hb => ub.keep b o (kp b o q) (un.free b o q n (by simp)) hb
  · exact fun b o q hb => ub.slot b o (kp b o q) hb
  · exact fun b o q n => ub.free b o (kp b o q) (un.free b o q n (by simp))
  · exact fun b o q hb => ub.there b o (kp b o q) hb
  · exact fun b xs q => ub.tups b xs (un.tups b xs q)
  · exact fun b o xs q => ub.frzs b o xs (un.frzs b o xs q)
  · intro b ps q
    obtain ⟨m1, q1⟩ := un.tbls b ps q
    obtain ⟨m2, q2⟩ := ub.tbls b _ q1
    exact ⟨m1 ++ m2, by rw [q2, Array.append_assoc]⟩
section
variable {P : Program} {w : World} {K : PySem.W.Frag} {mg : Str → Option Value} {base : Heap}
theorem kontX_ext {al al1 : List Addr} {F F1 G : Hp} {E : XK} {c : Value} {fs : List (Str × D)} {M : Sto} (h : kontX K al F G E c fs M) (e : Ext al F al1 F1) : kontX K al1 F1 G E c fs M := fun al' F' H' o e' W r => h al' F' H' o (e.trans e') W r
/-- what a starred def may be told: its one name holds all the arguments -/
def spStar (K : PySem.W.Frag) (ds : DSp) : Sp := fun vs H Q E => ∃ args M al F G, Wd K al F G H M ∧ Rps K F al vs [.tup args] ∧ ds args M (kont K al F G Q) (kontX K al F G E)
theorem fnS {k : Nat} {f : Addr} {x qual pv : Str} {st : Stmt} {fd : FuncData} {N : List Str} {ds : DSp} (F : Fun K x qual st f fd) (S : FnScope N [pv] (defScope st)) (len : ∀ args M Q E, ds args M Q E → args.length ≤ sizeLine) (hmono : MonoSp ds)
    (hb : ∀ (kV doc pm cdv ct : Value) (an : Option Addr) (rest : List Value), bindArgs (PySem.W.fnOf x qual (defArgs st) (defBody st) (defScope st) .none kV doc pm an cdv ct) ⟨rest, []⟩ = (newTuple rest >>= fun t => pure [(pv, t)]))
    (body : ∀ (cdv : Value) (A : Around) (outer : List Env) (s : Shared) (H : Hp) (E : XK), Room k (cx0 P w K mg base N qual st f cdv A outer s H E).A →
      ∃ fb, DSs (cx0 P w K mg base N qual st f cdv A outer s H E) (defBody st) fb ∧ ∀ args M Q E', stoBel M.length M → bels M.length args = true → ds args M Q E' → fb { nx := fun _ M' => See M.length Q .non M', rt := See M.length Q } ⟨startD N [.tup args], noX⟩ M) :
    FnR P w K mg base (L2N.CX P w) (k + 1) f (spOf K ds) := by
  obtain ⟨oc, od, kV, doc, pm, an, cdv, ct, osl, rfl, lk, hcd⟩ := F.ex
  refine FnR.imp (StX.fn_star (ps := []) (pv := pv) (sp := spStar K ds) lk hcd S upN (fun us rest hl => ?_) fun A outer s H vs Q E hr hsp => ?_) fun vs H Q E hq => ?_
  · obtain rfl : us = [] := List.length_eq_zero_iff.mp hl
    exact hb kV doc pm cdv ct an rest
  · obtain ⟨args, M, al, F, G, W, r, q⟩ := hsp
    obtain ⟨fb, pb, h⟩ := body cdv A outer s H E hr
    have W0' : al.length = M.length := W.len
    have hbl : bels M.length args = true := by
      have z := r.bels
      rw [W0'] at z
      simpa [bels, bel] using z
    refine ⟨_, pb.ps, ⟨startD N [.tup args], noX⟩, M, al, F, G, W, Es.none (start_es r) rfl, MonoS.up pb.mono (h args M _ _ W.bels hbl q) ⟨fun ρ' M' k al' F' H' σ' e' W' s' _ => ?_, fun d M' k al' F' H' v e' W' r' => ?_, fun _ _ z => z.elim, fun _ _ z => z.elim⟩⟩
    · exact See.ok e' W' .non (by rw [W0']; exact k)
    · exact See.ok e' W' r' (by rw [W0']; exact k)
  · obtain ⟨args, M, al, F, G, W, r, q⟩ := hq
    refine ⟨[], vs, rfl, rfl, by rw [r.length]; exact len _ _ _ _ q, fun p hp => ?_⟩
    obtain ⟨W', e⟩ := W.newF (o := .tup vs) hp
    exact ⟨args, M, al, _, G, W', .cons (.tup upd_same (r.ext e)) .nil, hmono _ _ _ _ _ _ (fun d M2 k => k.ext e) (fun c fs M2 z => kontX_ext z e) q⟩
structure ClS (P : Program) (w : World) (K : PySem.W.Frag) (mg : Str → Option Value) (base : Heap) (x : Str) (k : Nat) (ds : DSp) : Prop where
  ex : ∃ f : Addr, FnR P w K mg base (L2N.CX P w) k f (spOf K ds) ∧ mg x = some (.ref f) ∧ PySem.W.keepIn K (.ref f) = true
  mono : MonoSp ds
end
section
variable {X : Cx} {a : Expr} {es : List Expr} {fr : DTA} {pos p : Pos} {x : Str} {k : Nat} {f : Addr} {sp : Sp}
theorem runR {CX : CXT} {pins : List (Addr × Obj)} {σ : L2.St} {H : Hp} {s : Shared} {Q : VK} {us : List Value} {vs : List V} {E : L2.St → XK} (F : FnR X.prog X.w X.K X.mg X.base CX k f sp) (hr : Room k X.A) (hx : PassesAt CX X σ (E σ))
    (I : Inv X pins σ H s) (r : Vals vs us) (h : sp vs H Q (E σ)) : wpAny (model X.prog X.w) X.A (call (.ref f) us) (EP X pins σ Q) X.xe s := by
  refine wpAny_call (codeAny_mono (F X.A X.stack s H us vs Q (E σ) hr I.env0 r h) fun res s' z => ?_)
  match res, z with
  | .error e, z => exact hx pins H s e s' I z
  | .ok (.ret u), z => exact I.after z
  | .ok .next, z => exact z.elim
  | .ok .brk, z => exact z.elim
  | .ok .cont, z => exact z.elim
theorem peR_call {CX : CXT} {t : TA} {E : L2.St → XK} (F : FnR X.prog X.w X.K X.mg X.base CX k f sp) (hr : Room k X.A) (hg : Gl X x) (hm : X.mg x = some (.ref f)) (hk : PySem.W.keepIn X.K (.ref f) = true) (hx : ∀ σ, PassesAt CX X σ (E σ))
    (ha : PA X (a :: es) t) (hdb : (x == ("__debug__" : Str)) = false := by decide) (he : starEach (a :: es) X.env = (false, eval a X.env) :: starEach es X.env := by rfl) (hpl : (backTo pos (starEach es X.env)).any (·.1) = false := by rfl) :
    PE X (.Call (.Name x p) (a :: es) [] pos) (fun σ H Q => t σ H fun vs H1 => sp vs H1 Q (E σ)) :=
  ⟨fun pins s σ H Q I h => wpAny_Call_Name_kw (ld_glob I hg hm (PySem.W.callWith_K (h₀ := X.base) I.ok.mod.kin hk (thn (ha.run pos pins s σ H _ I h) fun us s1 ⟨vs, H1, I1, r, q⟩ => ⟨I1.kIn, runR F hr (hx σ) I1 r q⟩) he hpl) hdb)⟩
theorem d_clS {ds : DSp} (C : ClS X.prog X.w X.K X.mg X.base x k ds) (hr : Room k X.A) (ha : DA X (a :: es) fr) (hg : Gl X x := by rfl) (hdb : (x == ("__debug__" : Str)) = false := by decide)
    (he : starEach (a :: es) X.env = (false, eval a X.env) :: starEach es X.env := by rfl) (hpl : (backTo pos (starEach es X.env)).any (·.1) = false := by rfl) : DE X (.Call (.Name x p) (a :: es) [] pos) (dCall ds fr) := by
  obtain ⟨f, G, hm, hk⟩ := C.ex
  have hmono := C.mono
  refine ⟨PE.of (peR_call G hr hg hm hk (L2N.passAt (takesW X)) ha.pa hdb he hpl) fun σ H Q ⟨ρ, M, al, F, Gg, W, s, q⟩ => ?_, fun ρ M Q Q' w q => ha.mono _ _ _ _ (fun args M1 q1 => hmono _ _ _ _ _ _ w (fun _ _ _ z => z) q1) q⟩
  refine ha.seq W s q fun args M1 al1 F1 H1 vs q1 e1 W1 r1 s1 => ?_
  exact ⟨args, M1, al1, F1, Gg, W1, r1, hmono _ _ _ _ _ _ (fun d M2 k => kont.ext k e1) (fun c fs M2 z al2 F2 H2 o e2 W2 f2 => s1.xo c fs ρ.v M2 al2 F2 H2 o σ e2 W2 (s1.sl.ext e2) f2 z) q1⟩
end
/-! a comprehension that makes a place of the store, set to a name -/
section
variable {X : Cx} {pos : Pos}
theorem ds_setLcMI {i : Nat} {y : Str} {py spos : Pos} {elt tg iter : Expr} {ifs : List Expr} {scope : Scope} {own : List (Str × Nat)} {fi : DTI} {g : DTG} {t : DTT} {fe : DTE} {js : List Nat} (hc : X.calm = true) (hN : X.N.Nodup) (hy : X.N[i]? = some y) (hl : X.env.scope.names.lookup y = some .local)
    (hsw : swapsWith (.ListComp elt [⟨tg, iter, ifs, 0⟩] scope pos) (some (.Name y py)) spos.line X.env = pure true) (hi : DI X tg iter fi) (ok : BlkOk X.N X.env.scope scope own) (hj : ∀ j ∈ js, j ∈ own.map (·.2))
    (hg : ∀ (s : Shared) (H : Hp) (C : Addr) (cl : List (Str × Addr)) (fp : List Addr), DG (X.blk s H scope (compEnvC scope cl C X.env) fp) tg g js)
    (ht : ∀ (s : Shared) (H : Hp) (C : Addr) (cl : List (Str × Addr)) (fp : List Addr), DTTs (X.blk s H scope (compEnvC scope cl C X.env) fp) ifs t)
    (he : ∀ (s : Shared) (H : Hp) (C : Addr) (cl : List (Str × Addr)) (fp : List Addr), DE (X.blk s H scope (compEnvC scope cl C X.env) fp) elt fe)
    (hfs : ∀ x : Value, foldedSetIterable iter X.env x = pure x := by intro _; rfl) : DS X (.Assign [.Name y py] (.ListComp elt [⟨tg, iter, ifs, 0⟩] scope pos) spos) (dAsg (dLcMI fi g t fe (own.map (·.2))) (dgName i)) := by
  have g0 := (hg X.s_0 (fun _ => none) 0 [] []).mono
  have t0 := (ht X.s_0 (fun _ => none) 0 [] []).2
  have e0 := (he X.s_0 (fun _ => none) 0 [] []).mono
  have hd := d_lcMI (pos := pos) hc hN hi ok hj hg ht he hfs
  refine ⟨PS.of (ps_setLc (g := LiftGN X.K g js) (tt := LiftTN X.K t) (te := LiftN X.K fe) hc hN hy hl hsw hi.pi ok (fun s H C cl fp => PG.of (hg s H C cl fp).pg fun _ _ _ _ z => LiftGN.of (hg s H C cl fp).mono z) (fun s H C cl fp => PTs.of (ht s H C cl fp).1 fun _ _ _ z => LiftTN.of z) (fun s H C cl fp => PE.of (he s H C cl fp).pe fun _ _ _ z => LiftN.of z) hfs) fun E σ H ⟨ρ, M, al, F, G, W, es, q⟩ => ?_, fun D D' ρ M w q => hd.mono _ _ _ _ (fun d M1 q1 => w.nx _ _ q1) q⟩
  refine lcM_ok (Y := X) hi.mono g0 t0 e0 hj ?_
  have hd' := d_lcM (pos := pos) hc hN hi ok hj hg ht he hfs
  have q' : dLcMI fi g t fe (own.map (·.2)) ρ M (fun d M1 => dgName i d ρ M1 (kontS X.K al F G ρ.x E).nx) := q
  exact hd'.seq W es (R := fun d M1 => dgName i d ρ M1 (kontS X.K al F G ρ.x E).nx) (hi.mono _ _ _ _ (fun ds st M1 q1 => lcI_go (lcStep_mono g0 t0 e0) q1) q') fun d M1 al1 F1 H1 v q1 e1 W1 r1 s1 => q1 al1 F1 H1 _ e1 W1 (s1.sl.set r1 i) rfl
end
end DL

set_option maxHeartbeats 1000000
/-! DLN: zip of tables; least and greatest numbers of some tables. -/
namespace DL
open PySem PySem.Spec PyProof.Rows L2 MT
@[reducible] def tabD (xs : List Int) : D := .tup (xs.map D.int)
theorem seqD_tup (ds : List D) : seqD (.tup ds) = some (true, ds) := rfl
theorem seqD_lst (ds : List D) : seqD (.lst ds) = some (false, ds) := rfl
theorem seqDs_lt (a b : List D) : seqDs [.lst a, .tup b] = some [(false, a), (true, b)] := rfl
theorem seqDs_tt (a b : List D) : seqDs [.tup a, .tup b] = some [(true, a), (true, b)] := rfl
theorem seqDs_tl (a b : List D) : seqDs [.tup a, .lst b] = some [(true, a), (false, b)] := rfl
theorem seqDs_ll (a b : List D) : seqDs [.lst a, .lst b] = some [(false, a), (false, b)] := rfl
theorem seqDs_tabs (L : List (List Int)) : seqDs (L.map tabD) = some (L.map fun xs => (true, xs.map D.int)) := by
  induction L with
  | nil => rfl
  | cons x L ih => rw [List.map_cons, seqDs, ih]; rfl
theorem intsD_getD {ns : List Int} {i : Nat} (h : i < ns.length) : (ns.map D.int).getD i .non = .int (ns.getD i 0) := by
  rw [List.getD_eq_getElem?_getD, List.getElem?_map, List.getElem?_eq_getElem h, List.getD_eq_getElem?_getD, List.getElem?_eq_getElem h]
  rfl
theorem zipND_tabs {n : Nat} {L : List (List Int)} (h : ∀ xs ∈ L, xs.length = n) : zipND n ((L.map fun xs => (true, xs.map D.int)).map (·.2)) = (List.range n).map fun i => D.tup ((L.map fun xs => xs.getD i 0).map D.int) := by
  unfold zipND
  refine List.map_congr_left fun i hi => ?_
  have hi := List.mem_range.mp hi
  congr 1
  rw [List.map_map, List.map_map, List.map_map]
  exact List.map_congr_left fun xs hx => intsD_getD (by rw [h xs hx]; exact hi)
theorem zipND_two {n : Nat} {xs ys : List Int} (h1 : xs.length = n) (h2 : ys.length = n) : zipND n [xs.map D.int, ys.map D.int] = (List.range n).map fun i => D.tup [.int (xs.getD i 0), .int (ys.getD i 0)] := by
  unfold zipND
  refine List.map_congr_left fun i hi => ?_
  have hi := List.mem_range.mp hi
  show D.tup [(xs.map D.int).getD i .non, (ys.map D.int).getD i .non] = _
  rw [intsD_getD (by omega), intsD_getD (by omega)]
def lowsOf (n : Nat) (L : List (List Int)) : List Int := (List.range n).map fun i => minI (L.map fun xs => xs.getD i 0)
def highsOf (n : Nat) (L : List (List Int)) : List Int := (List.range n).map fun i => maxI (L.map fun xs => xs.getD i 0)
theorem lowsOf_len (n : Nat) (L : List (List Int)) : (lowsOf n L).length = n := by unfold lowsOf; simp
theorem highsOf_len (n : Nat) (L : List (List Int)) : (highsOf n L).length = n := by unfold highsOf; simp
theorem rng_getD {n : Nat} (f : Nat → Int) {i : Nat} (h : i < n) : ((List.range n).map f).getD i 0 = f i := by rw [List.getD_eq_getElem?_getD, List.getElem?_map, List.getElem?_range h]; rfl
theorem minI_snoc {L : List Int} (h : L ≠ []) (x : Int) : minI (L ++ [x]) = if x < minI L then x else minI L := by
  have h1 := minI_mem (ns := L ++ [x]) (by simp)
  have h2 := minI_mem h
  have h3 : ∀ y ∈ L, minI (L ++ [x]) ≤ y := fun y hy => minI_le (by simp [hy])
  have h4 : minI (L ++ [x]) ≤ x := minI_le (by simp)
  have h5 := h3 _ h2
  rcases List.mem_append.mp h1 with q | q
  · have := minI_le q
    split <;> omega
  · have := List.mem_singleton.mp q
    split <;> omega
theorem maxI_snoc {L : List Int} (h : L ≠ []) (x : Int) : maxI (L ++ [x]) = if x > maxI L then x else maxI L := by
  have h1 := maxI_mem (ns := L ++ [x]) (by simp)
  have h2 := maxI_mem h
  have h3 : ∀ y ∈ L, y ≤ maxI (L ++ [x]) := fun y hy => le_maxI (by simp [hy])
  have h4 : x ≤ maxI (L ++ [x]) := le_maxI (by simp)
  have h5 := h3 _ h2
  rcases List.mem_append.mp h1 with q | q
  · have := le_maxI q
    split <;> omega
  · have := List.mem_singleton.mp q
    split <;> omega
theorem lows_snoc {n : Nat} {L : List (List Int)} (h : L ≠ []) (xs : List Int) : lowsOf n (L ++ [xs]) = (List.range n).map fun i => if xs.getD i 0 < (lowsOf n L).getD i 0 then xs.getD i 0 else (lowsOf n L).getD i 0 := by
  unfold lowsOf
  refine List.map_congr_left fun i hi => ?_
  rw [rng_getD _ (List.mem_range.mp hi), List.map_append, List.map_cons, List.map_nil, minI_snoc (fun z => h (List.map_eq_nil_iff.mp z))]
theorem highs_snoc {n : Nat} {L : List (List Int)} (h : L ≠ []) (xs : List Int) : highsOf n (L ++ [xs]) = (List.range n).map fun i => if xs.getD i 0 > (highsOf n L).getD i 0 then xs.getD i 0 else (highsOf n L).getD i 0 := by
  unfold highsOf
  refine List.map_congr_left fun i hi => ?_
  rw [rng_getD _ (List.mem_range.mp hi), List.map_append, List.map_cons, List.map_nil, maxI_snoc (fun z => h (List.map_eq_nil_iff.mp z))]
theorem minI_perm {L K : List Int} (h0 : L ≠ []) (h : ∀ x, x ∈ L ↔ x ∈ K) : minI L = minI K := by
  have hk : K ≠ [] := fun z => by
    have := (h _).mp (minI_mem h0)
    rw [z] at this
    cases this
  have a := minI_le ((h _).mpr (minI_mem hk))
  have b := minI_le ((h _).mp (minI_mem h0))
  omega
/-- a comprehension over a list that lambda_ draws -/
theorem lowsOf_same {n : Nat} {L K : List (List Int)} (h0 : L ≠ []) (h : ∀ x, x ∈ L ↔ x ∈ K) : lowsOf n L = lowsOf n K := by
  unfold lowsOf
  refine List.map_congr_left fun i hi => minI_perm (fun z => h0 (List.map_eq_nil_iff.mp z)) fun x => ?_
  constructor
  · intro q
    obtain ⟨y, hy, e⟩ := List.mem_map.mp q
    exact List.mem_map.mpr ⟨y, (h y).mp hy, e⟩
  · intro q
    obtain ⟨y, hy, e⟩ := List.mem_map.mp q
    exact List.mem_map.mpr ⟨y, (h y).mpr hy, e⟩
theorem Pl.same {h : Nat} {d : D} (s : DL.Pl h d) : PyData.eqv (toPy d) (toPy d) = true := PySem.SeqAt.eqv_refl _ s.ok'.2.1
theorem pl_ints (xs : List Int) : Pl 1 (.tup (xs.map D.int)) := .tup fun d hd => by
  obtain ⟨i, _, rfl⟩ := List.mem_map.mp hd
  exact Pl.int i
theorem pl_tabs (L : List (List Int)) : Pl 2 (.lst (L.map tabD)) := .lst fun d hd => by
  obtain ⟨i, _, rfl⟩ := List.mem_map.mp hd
  exact pl_ints i
theorem eqvAll_ints : ∀ xs ys : List Int, PyData.eqvAll (toPys (xs.map D.int)) (toPys (ys.map D.int)) = decide (xs = ys)
  | [], [] => rfl
  | [], _ :: _ => rfl
  | _ :: _, [] => rfl
  | x :: xs, y :: ys => by
    show (x == y && PyData.eqvAll (toPys (xs.map D.int)) (toPys (ys.map D.int))) = _
    rw [eqvAll_ints xs ys]
    by_cases h : x = y <;> by_cases h2 : xs = ys <;> simp [h, h2]
theorem eqv_tabs (xs ys : List Int) : PyData.eqv (toPy (.tup (xs.map D.int))) (toPy (.tup (ys.map D.int))) = decide (xs = ys) := eqvAll_ints xs ys
theorem any_tabs (L : List (List Int)) (ys : List Int) : ((toPys (L.map tabD)).any fun z => PyData.eqv z (toPy (.tup (ys.map D.int)))) = decide (ys ∈ L) := by
  induction L with
  | nil => simp [toPys]
  | cons x L ih =>
    show (PyData.eqv (toPy (tabD x)) (toPy (.tup (ys.map D.int))) || (toPys (L.map tabD)).any fun z => PyData.eqv z (toPy (.tup (ys.map D.int)))) = _
    rw [ih, eqv_tabs]
    by_cases h : x = ys
    · simp [h]
    · have : ¬ ys = x := fun z => h z.symm
      by_cases h2 : ys ∈ L <;> simp [h, h2, this]
/-- [::-1] -/
theorem pick_rev {α : Type} (xs : List α) : pick xs none none (some (-1)) = xs.reverse := by
  unfold pick
  have hb : sliceBounds none none (some (-1)) xs.length = ((xs.length : Int) - 1, -1, -1) := by
    unfold sliceBounds
    simp only [Option.getD_some]
    rw [if_neg (by decide), if_neg (by decide)]
  rw [hb]
  have hr : sliceRange ((xs.length : Int) - 1) (-1) (-1) = (List.range xs.length).map fun k => xs.length - 1 - k := PySem.W.krv_sliceRange xs.length
  show (sliceRange ((xs.length : Int) - 1) (-1) (-1)).filterMap (xs[·]?) = _
  rw [hr, PySem.W.krv_range, List.filterMap_reverse, fm_range, List.take_length]
theorem show_ref {n : Nat} {ds : List D} {M : Sto} (e : M[n]? = some (.lst ds)) (h : showOk (.lst ds) M) : showOk (.ref n) M := by
  unfold showOk at h ⊢
  rw [vw_ref e]
  exact h
theorem tabs_of {p : List Int → Prop} : ∀ {ys : List D}, (∀ y ∈ ys, ∃ x : List Int, y = tabD x ∧ p x) → ∃ xs : List (List Int), ys = xs.map tabD ∧ ∀ x ∈ xs, p x
  | [], _ => ⟨[], rfl, fun x hx => by simp at hx⟩
  | y :: ys, h => by
    obtain ⟨x, rfl, hx⟩ := h _ (List.mem_cons_self ..)
    obtain ⟨xs, rfl, hxs⟩ := tabs_of (ys := ys) fun z hz => h z (List.mem_cons_of_mem _ hz)
    exact ⟨x :: xs, rfl, fun z hz => by
      rcases List.mem_cons.mp hz with rfl | hz
      · exact hx
      · exact hxs z hz⟩
end DL

set_option maxHeartbeats 1000000
/-! DLO: the laws' deck in the store, and what draws from it. -/
namespace DL
open PySem PySem.Spec PyProof.Rows L2 MT
def dk (cs : List Int) (n : Int) : Sto := [.lst (cs.map D.int), .lst [.ref 0, .int n]]
def Good (b : Nat) (cs : List Int) (n : Int) : Prop := cs.length ≤ 63 ∧ (∀ c ∈ cs, 0 ≤ c) ∧ 0 ≤ n ∧ n + b ≤ 1000000
theorem Good.le {b b' : Nat} {cs : List Int} {n : Int} (g : Good b cs n) (h : b' ≤ b) : Good b' cs n := ⟨g.1, g.2.1, g.2.2.1, by have := g.2.2.2; omega⟩
def spDraw : DSp := fun args M Q _ => ∃ (cs : List Int) (n : Int) (R : Sto) (lim : Int) (b : Nat), args = [.ref 1, .int lim] ∧ M = dk cs n ++ R ∧ Good (b + 1) cs n ∧ 0 < lim ∧ lim < 1073741824 ∧ ∀ r cs' n', 0 ≤ r → r < lim → Good b cs' n' → Q (.int r) (dk cs' n' ++ R)
def spDeck : DSp := fun args M Q _ => ∃ ns, args = [.scr ns] ∧ M = [] ∧ ns.length ≤ 63 ∧ ∀ cs, Good 1000000 cs 0 → Q (.ref 1) (dk cs 0)
theorem dr {cs : List Int} {n : Int} {R : Sto} {lim : Int} {b : Nat} {Q : DK} {E : DXK} (g : Good (b + 1) cs n) (h0 : 0 < lim) (h1 : lim < 1073741824) (k : ∀ (r : Nat) (cs' : List Int) (n' : Int), (r : Int) < lim → Good b cs' n' → Q (.int r) (dk cs' n' ++ R)) : spDraw [.ref 1, .int lim] (dk cs n ++ R) Q E :=
  ⟨cs, n, R, lim, b, rfl, rfl, g, h0, h1, fun r cs' n' r0 r1 g' => by
    obtain ⟨r, rfl⟩ := Int.eq_ofNat_of_zero_le r0
    exact k r cs' n' r1 g'⟩
theorem dk_len (cs : List Int) (n : Int) (R : Sto) : (dk cs n ++ R).length = R.length + 2 := by unfold dk; simp
theorem get_dk (cs : List Int) (n : Int) (R : Sto) (c : Cell) : (dk cs n ++ (R ++ [c]))[R.length + 2]? = some c := by
  have := get_new (dk cs n ++ R) c
  rw [dk_len, List.append_assoc] at this
  exact this
theorem set_dk (cs : List Int) (n : Int) (R : Sto) (c d : Cell) : (dk cs n ++ (R ++ [c])).set (R.length + 2) d = dk cs n ++ (R ++ [d]) := by
  have := set_new (dk cs n ++ R) c d
  rw [dk_len, List.append_assoc, List.append_assoc] at this
  exact this
theorem dk_bel {m : Nat} {cs cs' : List Int} {n n' : Int} {R : Sto} (h : stoBel m (dk cs n ++ R)) : stoBel m (dk cs' n' ++ R) := fun c hc => by
  rcases List.mem_append.mp hc with z | z
  · have h2 := h _ (List.mem_append_left _ (show Cell.lst [.ref 0, .int n] ∈ dk cs n by unfold dk; simp))
    unfold dk at z
    have z : c = .lst (cs'.map D.int) ∨ c = .lst [.ref 0, .int n'] := by simpa using z
    rcases z with rfl | rfl
    · exact bels_int _ _
    · exact h2
  · exact h c (List.mem_append_right _ z)
theorem see_dk {cs cs' : List Int} {n n' : Int} {R M' : Sto} {Q : DK} {d : D} (hM : stoBel (List.length (dk cs n ++ R)) (dk cs n ++ R)) (hd : bel (R.length + 2) d = true) (q : Q d (dk cs' n' ++ R)) : See (List.length (dk cs n) + List.length R) Q d (dk cs' n' ++ (R ++ M')) := by
  rw [← List.append_assoc, ← List.length_append]
  exact See.drop' (dk cs' n' ++ R) (by rw [dk_len, dk_len]) (by rw [dk_len]; exact hd) (dk_bel hM) q
theorem dk_two (cs : List Int) (n : Int) (R : Sto) : List.length (dk cs n) + List.length R = R.length + 2 := by rw [← List.length_append, dk_len]
theorem lc_dk {st : Sto → Prop} {step : D → Sto → (Option D → Sto → Prop) → Prop} {m : Nat} {cs : List Int} {n : Int} {R : Sto} {Q : List D → Sto → Prop} (b c : Nat) (P : Nat → D → Prop) (hst : ∀ M, st M) (g : Good (b + c * m) cs n) (hm : m ≤ 100000)
    (hs : ∀ (j : Nat) (cs : List Int) (n : Int) (rest : Nat), j < m → Good (b + c * rest + c) cs n → ∀ k : Option D → Sto → Prop, (∀ (y : D) (cs' : List Int) (n' : Int), P j y → Good (b + c * rest) cs' n' → k (some y) (dk cs' n' ++ R)) → step (.int (j : Int)) (dk cs n ++ R) k)
    (q : ∀ (ys : List D) (cs' : List Int) (n' : Int), ys.length = m → (∀ (j : Nat) (y : D), ys[j]? = some y → P j y) → Good b cs' n' → Q ys (dk cs' n' ++ R)) : lcI st step (rng 0 m) (dk cs n ++ R) Q := by
  refine ⟨fun done todo acc M => done ++ todo = rng 0 m ∧ acc.length = done.length ∧ (∀ (j : Nat) (y : D), acc[j]? = some y → P j y) ∧ ∃ (cs : List Int) (n : Int), M = dk cs n ++ R ∧ Good (b + c * todo.length) cs n, ⟨rfl, rfl, fun j y e => by simp at e, cs, n, rfl, by rw [rng_length]; exact g⟩, fun _ _ _ M _ => hst M, ?_, ?_⟩
  · rintro done d todo acc M ⟨e, hl, hp, cs, n, rfl, g⟩
    obtain ⟨rfl, hlt⟩ := rng_mid e
    rw [List.length_cons, Nat.mul_add, Nat.mul_one, ← Nat.add_assoc] at g
    rw [Int.zero_add]
    refine hs done.length cs n todo.length hlt g _ fun y cs' n' hy g' => ?_
    refine ⟨by omega, by rw [List.append_assoc, ← Int.zero_add (done.length : Int)]; exact e, by simp [hl], fun j z ez => ?_, cs', n', rfl, g'⟩
    by_cases hj : j < acc.length
    · rw [List.getElem?_append_left hj] at ez
      exact hp j z ez
    · have hj2 := (List.getElem?_eq_some_iff.mp ez).1
      rw [List.length_append, List.length_singleton] at hj2
      have hj3 : j = acc.length := by omega
      subst hj3
      rw [List.getElem?_append_right (Nat.le_refl _)] at ez
      simp at ez
      subst ez
      rw [hl]
      exact hy
  · rintro done acc M ⟨e, hl, hp, cs, n, rfl, g⟩
    rw [List.append_nil] at e
    have hd := congrArg List.length e
    rw [rng_length] at hd
    exact q acc cs n (by omega) hp g
theorem lc_dkL {st : Sto → Prop} {step : D → Sto → (Option D → Sto → Prop) → Prop} {ds : List D} {cs : List Int} {n : Int} {R : Sto} {Q : List D → Sto → Prop} (b c : Nat) (P : Nat → D → Prop) (hst : ∀ M, st M) (g : Good (b + c * ds.length) cs n) (hm : ds.length ≤ 100000)
    (hs : ∀ (j : Nat) (d : D) (cs : List Int) (n : Int) (rest : Nat), ds[j]? = some d → Good (b + c * rest + c) cs n → ∀ k : Option D → Sto → Prop, (∀ (y : D) (cs' : List Int) (n' : Int), P j y → Good (b + c * rest) cs' n' → k (some y) (dk cs' n' ++ R)) → step d (dk cs n ++ R) k)
    (q : ∀ (ys : List D) (cs' : List Int) (n' : Int), ys.length = ds.length → (∀ (j : Nat) (y : D), ys[j]? = some y → P j y) → Good b cs' n' → Q ys (dk cs' n' ++ R)) : lcI st step ds (dk cs n ++ R) Q := by
  refine ⟨fun done todo acc M => done ++ todo = ds ∧ acc.length = done.length ∧ (∀ (j : Nat) (y : D), acc[j]? = some y → P j y) ∧ ∃ (cs : List Int) (n : Int), M = dk cs n ++ R ∧ Good (b + c * todo.length) cs n, ⟨rfl, rfl, fun j y e => by simp at e, cs, n, rfl, g⟩, fun _ _ _ M _ => hst M, ?_, ?_⟩
  · rintro done d todo acc M ⟨e, hl, hp, cs, n, rfl, g⟩
    have hlen := congrArg List.length e
    rw [List.length_append, List.length_cons] at hlen
    rw [List.length_cons, Nat.mul_add, Nat.mul_one, ← Nat.add_assoc] at g
    refine hs done.length d cs n todo.length (by rw [← e]; simp) g _ fun y cs' n' hy g' => ?_
    refine ⟨by omega, by rw [List.append_assoc]; exact e, by simp [hl], fun j z ez => ?_, cs', n', rfl, g'⟩
    by_cases hj : j < acc.length
    · rw [List.getElem?_append_left hj] at ez
      exact hp j z ez
    · have hj2 := (List.getElem?_eq_some_iff.mp ez).1
      rw [List.length_append, List.length_singleton] at hj2
      have hj3 : j = acc.length := by omega
      subst hj3
      rw [List.getElem?_append_right (Nat.le_refl _)] at ez
      simp at ez
      subst ez
      rw [hl]
      exact hy
  · rintro done acc M ⟨e, hl, hp, cs, n, rfl, g⟩
    rw [List.append_nil] at e
    have hd := congrArg List.length e
    exact q acc cs n (by omega) hp g

theorem get_dkA (cs : List Int) (n : Int) (R : Sto) (a : Cell) (r : Sto) : (dk cs n ++ (R ++ a :: r))[R.length + 2]? = some a := by
  have := get_mid (dk cs n ++ R) a r
  rw [dk_len, List.append_assoc] at this
  exact this
theorem get_dkB (cs : List Int) (n : Int) (R : Sto) (a b : Cell) (r : Sto) : (dk cs n ++ (R ++ a :: b :: r))[R.length + 3]? = some b := by
  have := get_dkA cs n (R ++ [a]) b r
  rw [List.length_append, List.length_singleton, List.append_assoc] at this
  exact this
theorem get_dkC (cs : List Int) (n : Int) (R : Sto) (a b c : Cell) (r : Sto) : (dk cs n ++ (R ++ a :: b :: c :: r))[R.length + 4]? = some c := by
  have := get_dkB cs n (R ++ [a]) b c r
  rw [List.length_append, List.length_singleton, List.append_assoc] at this
  exact this
theorem set_dkA (cs : List Int) (n : Int) (R : Sto) (a z : Cell) (r : Sto) : (dk cs n ++ (R ++ a :: r)).set (R.length + 2) z = dk cs n ++ (R ++ z :: r) := by
  have := set_mid (dk cs n ++ R) a z r
  rw [dk_len, List.append_assoc, List.append_assoc] at this
  exact this
theorem set_dkB (cs : List Int) (n : Int) (R : Sto) (a b z : Cell) (r : Sto) : (dk cs n ++ (R ++ a :: b :: r)).set (R.length + 3) z = dk cs n ++ (R ++ a :: z :: r) := by
  have := set_dkA cs n (R ++ [a]) b z r
  rw [List.length_append, List.length_singleton, List.append_assoc, List.append_assoc] at this
  exact this
theorem set_dkC (cs : List Int) (n : Int) (R : Sto) (a b c z : Cell) (r : Sto) : (dk cs n ++ (R ++ a :: b :: c :: r)).set (R.length + 4) z = dk cs n ++ (R ++ a :: b :: z :: r) := by
  have := set_dkB cs n (R ++ [a]) b c z r
  rw [List.length_append, List.length_singleton, List.append_assoc, List.append_assoc] at this
  exact this
@[reducible] def pushD (p : Nat × Int) : D := .tup [natD p.1, .int p.2]
def PushOk (t : Tr) (p : Nat × Int) : Prop := p.1 ≤ t.length ∧ 0 ≤ p.2 ∧ p.2 ≤ 1000000000
def PsOk (t : Tr) (ps : List (Nat × Int)) : Prop := ps ≠ [] ∧ ps.length ≤ 20 ∧ ∀ p ∈ ps, PushOk t p
def fallT (t : Tr) (ps : List (Nat × Int)) (m : Nat) : Int := minI (ps.map fun p => p.2 + dist t p.1 m)
def fallsT (t : Tr) (ps : List (Nat × Int)) : List Int := (List.range (t.length + 1)).map (fallT t ps)
theorem fallsT_len (t : Tr) (ps : List (Nat × Int)) : (fallsT t ps).length = t.length + 1 := by unfold fallsT; simp
theorem fallsT_getD (t : Tr) (ps : List (Nat × Int)) {m : Nat} (h : m ≤ t.length) : (fallsT t ps).getD m 0 = fallT t ps m := rng_getD _ (by omega)
theorem fallT_le {t : Tr} {ps : List (Nat × Int)} {p : Nat × Int} (h : p ∈ ps) (m : Nat) : fallT t ps m ≤ p.2 + dist t p.1 m := minI_le (List.mem_map.mpr ⟨p, h, rfl⟩)
theorem fallT_mem {t : Tr} {ps : List (Nat × Int)} (h : ps ≠ []) (m : Nat) : ∃ p ∈ ps, fallT t ps m = p.2 + dist t p.1 m := by
  obtain ⟨p, hp, e⟩ := List.mem_map.mp (minI_mem (ns := ps.map fun p => p.2 + dist t p.1 m) (fun z => h (List.map_eq_nil_iff.mp z)))
  exact ⟨p, hp, e.symm⟩
theorem ext_getD {xs ys : List Int} (hl : xs.length = ys.length) (h : ∀ i, i < xs.length → xs.getD i 0 = ys.getD i 0) : xs = ys := by
  refine List.ext_getElem hl fun i h1 h2 => ?_
  have := h i h1
  rw [List.getD_eq_getElem?_getD, List.getElem?_eq_getElem h1, List.getD_eq_getElem?_getD, List.getElem?_eq_getElem h2] at this
  exact this
end DL

set_option maxHeartbeats 1000000
/-! DLP: [::-1] of a tuple; in, not in, of data in a tuple. -/
namespace DL
open PySem PySem.Spec PyProof.Rows L2 MT
section
variable {prog : Program} {w : World} {A : Around} {E : Value → Shared → Prop} {s : Shared}
theorem adjust_rev (n : Nat) : Builtin.Slice.sliceAdjust none none (-1) (n : Int) = ((n : Int) - 1, -1) := rfl
theorem places_rev (n : Nat) : Builtin.Slice.slicePlaces ((n : Int) - 1) (-1) (-1) = n := by
  unfold Builtin.Slice.slicePlaces
  rw [if_neg (by decide), Int.neg_neg, Int.ediv_one]
  split <;> omega
theorem applied_rev {sl : Addr} {n : Nat} {u : Tok} {Q : Int × Int × Nat → Shared → Prop} (hsl : s.heap.IsSliceOf sl .none .none (.int (-1) u)) (q : Q ((n : Int) - 1, -1, n) s) :
    wpAny (model prog w) A (Builtin.Slice.sliceApplied (.ref sl) (pure (n : Int))) Q E s := by
  obtain ⟨ob, hob, hcl, hda⟩ := id hsl
  unfold Builtin.Slice.sliceApplied Builtin.Slice.sliceFields
  refine wpAny_bind (wpAny_bind (wpAny_field hob hda (x := .none) rfl (wpAny_bind (wpAny_field hob hda (x := .none) rfl (wpAny_bind (wpAny_field hob hda (x := .int (-1) u) rfl (wpAny_pure ?_)))))))
  refine wpAny_bind (slicePart_int ?_)
  show wpAny _ _ (if ((-1 : Int) == 0) = true then _ else _) _ _ s
  rw [if_neg (by decide)]
  refine wpAny_bind (slicePart_none (wpAny_bind (slicePart_none (wpAny_bind (wpAny_pure ?_)))))
  show wpAny _ _ (match Builtin.Slice.sliceAdjust none none (-1) (n : Int) with | (a, b) => pure (a, (-1 : Int), Builtin.Slice.slicePlaces a b (-1))) _ _ s
  rw [adjust_rev n]
  show wpAny _ _ (pure ((n : Int) - 1, (-1 : Int), Builtin.Slice.slicePlaces ((n : Int) - 1) (-1) (-1))) _ _ s
  rw [places_rev n]
  exact wpAny_pure q
theorem fm_congr {α β : Type} {f g : α → Option β} : ∀ {l : List α}, (∀ x ∈ l, f x = g x) → l.filterMap f = l.filterMap g
  | [], _ => rfl
  | x :: l, h => by rw [List.filterMap_cons, List.filterMap_cons, h x (List.mem_cons_self ..), fm_congr fun y hy => h y (List.mem_cons_of_mem _ hy)]
theorem picked_rev (xs : Array Value) : ((List.range xs.size).filterMap fun (k : Nat) => xs[((xs.size : Int) - 1 + (k : Int) * -1).toNat]?).toArray = xs.toList.reverse.toArray := by
  congr 1
  have e : (List.range xs.size).filterMap (fun (k : Nat) => xs[((xs.size : Int) - 1 + (k : Int) * -1).toNat]?) = ((List.range xs.size).map fun k => xs.size - 1 - k).filterMap (xs.toList[·]?) := by
    rw [List.filterMap_map]
    refine fm_congr fun k hk => ?_
    have hk := List.mem_range.mp hk
    show xs[((xs.size : Int) - 1 + (k : Int) * -1).toNat]? = xs.toList[xs.size - 1 - k]?
    rw [show ((xs.size : Int) - 1 + (k : Int) * -1).toNat = xs.size - 1 - k by omega]
    simp
  rw [e]
  have h2 := PySem.W.krv_range xs.size
  rw [h2, List.filterMap_reverse, fm_range, List.take_of_length_le (by simp)]
theorem getItem_rev {t sl : Addr} {items : Array Value} {u : Tok} {Q : Value → Shared → Prop} (hT : IsTup s.heap t items) (hsl : s.heap.IsSliceOf sl .none .none (.int (-1) u))
    (q : Q (.ref s.heap.objs.size) { s with heap := s.heap.push { cls := .type "tuple", data := .seq items.toList.reverse.toArray } })
    (hsz : items.size ≤ sizeLine) : wpAny (model prog w) A (getItem (.ref t) (.ref sl)) Q E s := by
  have hrv : sizeOk (.seq items.toList.reverse.toArray) := by
    show items.toList.reverse.toArray.size ≤ sizeLine
    simpa using hsz
  obtain ⟨ob, hob, hcl, hda⟩ := id hsl
  have hTy : s.TypeIs (.ref sl) "slice" := ⟨ob, hob, hcl⟩
  unfold getItem
  try with_reducible refine wpAny_holding ?_
  first | refine wpAny_bind (wpAny_pure ?_) | skip
  refine wpAny_bind (wpAny_sequenceKey hT.typeIs (by decide) ?_)
  refine wpAny_bind (wpAny_callSpecial?_slot (name := Str.ofString "__getitem__") hT.typeIs slot_tuple_getitem
    (wpAny_call_entry slot_tuple_getitem hT.typeIs entry_tuple_getitem ?_ (args_tuple_getitem _ _)))
  show wpAny _ _ (Builtin.Tuple.tupleItemsOf (.ref t) >>= _) _ _ s
  refine wpAny_bind (tupleItemsOf_ hT ?_)
  refine wpAny_bind (wpAny_typeOf hTy ?_)
  rw [if_pos (by decide)]
  refine wpAny_bind (applied_rev hsl ?_)
  show wpAny _ _ (if ((items.size : Int) - 1 == 0 && (-1 : Int) == 1 && items.size == items.size) = true then _ else _) _ _ s
  rw [if_neg (by simp), picked_rev items]
  first
    | exact wpAny_bind (m := Builtin.Tuple.tupleExact _) (wpAny_newObj_type (wpAny_pure ⟨_, rfl, wpAny_pure q⟩) hrv)
    | exact wpAny_bind (m := Builtin.Tuple.tupleExact _) (wpAny_newObj_type (wpAny_bind (wpAny_pure (wpAny_pure ⟨_, rfl, wpAny_pure q⟩))) hrv)
    | exact wpAny_bind (wpAny_bind (m := Builtin.Tuple.tupleExact _) (wpAny_newObj_type (wpAny_pure (wpAny_pure ⟨_, rfl, wpAny_pure q⟩)) hrv))
    | exact wpAny_bind (wpAny_bind (m := Builtin.Tuple.tupleExact _) (wpAny_newObj_type (wpAny_pure ⟨_, rfl, wpAny_pure q⟩) hrv))
end
theorem vals_rev {xs : List V} {us : List Value} (h : Vals xs us) : Vals xs.reverse us.reverse := by
  induction h with
  | nil => exact .nil
  | cons a r ih => rw [List.reverse_cons, List.reverse_cons]; exact ih.append (.cons a .nil)
section
variable {X : Cx} {a : Expr} {fa : DTE} {pos : Pos}
@[reducible] def dRevT (fa : DTE) (st : DTO) : DTE := fun ρ M Q => fa ρ M fun x M1 => st ρ M1 fun k M2 => match x with
  | .tup ds => k = some (-1) ∧ Q (.tup ds.reverse) M2
  | _ => False
theorem d_revT {st : Expr} {fs : DTO} {p2 : Pos} (ha : DE X a fa) (hs : DO X (some st) fs) (ht : ∀ o r, letTemporaryGo a o r = pure () := by intro _ _; rfl) : DE X (.Subscript a (.Slice none none (some st) p2) pos) (dRevT fa fs) := by
  refine ⟨⟨fun pins s σ H Q I q => ?_⟩, fun ρ M Q Q' w q => ha.mono _ _ _ _ (fun d M1 q1 => hs.mono _ _ _ _ (fun k M4 q4 => ?_) q1) q⟩
  · obtain ⟨ρ, M, al, F, G, W, es, q⟩ := q
    have r0 : Lift X fa σ H (fun v H1 => LiftO X dNoPart σ H1 fun l H2 => LiftO X dNoPart σ H2 fun h H3 => LiftO X fs σ H3 fun k H4 => ∃ p xs, v = .ref p ∧ SqT X.K H4 p xs ∧ l = none ∧ h = none ∧ k = some (-1) ∧ ∀ z, H4 z = none → Q (.ref z) (upd H4 z (.tup xs.reverse))) := by
      refine ha.seq W es q fun d M1 al1 F1 H1 v q1 e1 W1 r1 s1 => ?_
      refine (do_none (X := X)).seq W1 s1 (R := fun l M2 => l = none ∧ M2 = M1) ⟨rfl, rfl⟩ fun l M2 al2 F2 H2 q2 e2 W2 s2 => ?_
      obtain ⟨rfl, rfl⟩ := q2
      refine (do_none (X := X)).seq W2 s2 (R := fun l M3 => l = none ∧ M3 = M2) ⟨rfl, rfl⟩ fun l M3 al3 F3 H3 q3 e3 W3 s3 => ?_
      obtain ⟨rfl, rfl⟩ := q3
      refine hs.seq W3 s3 q1 fun k M4 al4 F4 H4 q4 e4 W4 s4 => ?_
      have r4 := r1.ext (e2.trans (e3.trans e4))
      split at q4
      · cases r4 with
        | tup a1 b1 =>
          exact ⟨_, _, rfl, SqT.of (W4.sm _ _ a1), rfl, rfl, q4.1, fun z hz => kont.tup (kont.ext q4.2 (e1.trans (e2.trans (e3.trans e4)))) W4 b1.rev hz⟩
      · exact q4.elim
    refine wpAny_Subscript_Slice_step slot_tuple_getitem.lookup (thn (ha.pe.run pins s σ H _ I r0) fun v s1 ⟨x, H1, I1, r1, q1⟩ => ?_) ht
    refine wpAny_Slice (thn ((do_none (X := X)).po.run pins s1 σ H1 _ I1 q1) fun vl s2 ⟨l, H2, I2, pl, q2⟩ => ?_)
    refine thn ((do_none (X := X)).po.run pins s2 σ H2 _ I2 q2) fun vu s3 ⟨u, H3, I3, pu, q3⟩ => ?_
    refine thn (hs.po.run pins s3 σ H3 _ I3 q3) fun vs s4 ⟨k, H4, I4, pk, p, xs, ex, hx, el, eu, ek, q4⟩ => ?_
    subst ex el eu ek
    cases r1
    cases pl
    cases pu
    obtain ⟨tk, rfl⟩ : ∃ tk, vs = Value.int (-1) tk := by
      cases pk
      exact ⟨_, rfl⟩
    have I5 : L2.Inv X pins σ H4 { s4 with heap := s4.heap.push { cls := .type "slice", data := .fields #[Value.none, Value.none, .int (-1) tk] } } := I4.kept (t' := s4.toks) fun b ob q => Heap.get?_push_of_some _ q
    obtain ⟨its, rv, pl5, hz5⟩ := I5.tuple hx
    refine ⟨pl5.typeIs, getItem_rev pl5 (Heap.IsSliceOf.new _ Value.none Value.none (.int (-1) tk)) ?_ (by rw [List.size_toArray, ← rv.length]; exact hz5)⟩
    refine ⟨.ref _, _, I5.laid (t' := s4.toks) (o := .tup xs.reverse) (fun b ob q => Heap.get?_push_of_some _ q) (Nat.le_refl _) ?_, rfl, q4 _ (I5.hok.fresh (Nat.le_refl _))⟩
    refine ⟨by rw [List.length_reverse]; exact hz5, its.reverse, ?_, ⟨_, Heap.get?_push_size _ rfl, rfl, 0, by simp⟩⟩
    exact vals_rev rv
  · try dsimp only at q4 ⊢
    split at q4
    · exact ⟨q4.1, w _ _ q4.2⟩
    · exact q4.elim
end
section
variable {X : Cx}
def rInT (K : PySem.W.Frag) (neg : Bool) : R2 := fun x y H Q => ∃ d ds, Dp K H x d ∧ Dp K H y (.tuple ds) ∧ SeqAt.shaped d = true ∧ SeqAt.shaped (.tuple ds) = true ∧ Q (.bl (if neg then !(ds.any fun z => PyData.eqv z d) else ds.any fun z => PyData.eqv z d)) H
theorem op_inT (hu : X.A.units + 65 < cLine) : OpR X (compareOp .In) (rInT X.K false) := by
  intro pins s σ H x y v u Q I rx ry h
  obtain ⟨d, ds, hd, he, sd, se, q⟩ := h
  obtain ⟨as, r1⟩ := Dp.reads I d x v hd rx
  obtain ⟨bs, r2⟩ := Dp.reads I (.tuple ds) y u he ry
  exact SeqAt.in_tuple_reads r2 r1 (SeqAt.canLay_of_shaped se) (SeqAt.canLay_of_shaped sd) (room_in_shaped sd hu) ⟨.bl _, H, I, rfl, q⟩
theorem op_notInT (hu : X.A.units + 65 < cLine) : OpR X (compareOp .NotIn) (rInT X.K true) := by
  intro pins s σ H x y v u Q I rx ry h
  obtain ⟨d, ds, hd, he, sd, se, q⟩ := h
  obtain ⟨as, r1⟩ := Dp.reads I d x v hd rx
  obtain ⟨bs, r2⟩ := Dp.reads I (.tuple ds) y u he ry
  exact SeqAt.notIn_tuple_reads r2 r1 (SeqAt.canLay_of_shaped se) (SeqAt.canLay_of_shaped sd) (room_in_shaped sd hu) ⟨.bl _, H, I, rfl, q⟩
@[reducible] def gInA (neg : Bool) : G2 := fun x y M Q => match y with
  | .lst ds => eqOk x M ∧ eqOk (.lst ds) M ∧ Q (.bl (if neg then !((toPys ds).any fun z => PyData.eqv z (toPy (vw x M))) else (toPys ds).any fun z => PyData.eqv z (toPy (vw x M)))) M
  | .tup ds => eqOk x M ∧ eqOk (.tup ds) M ∧ Q (.bl (if neg then !((toPys ds).any fun z => PyData.eqv z (toPy (vw x M))) else (toPys ds).any fun z => PyData.eqv z (toPy (vw x M)))) M
  | _ => False
theorem gInA_mono (neg : Bool) : Mono2 (gInA neg) := fun x y M Q Q' w q => by
  unfold gInA at q ⊢
  split at q
  · exact ⟨q.1, q.2.1, w _ _ q.2.2⟩
  · exact ⟨q.1, q.2.1, w _ _ q.2.2⟩
  · exact q.elim
theorem o_inA (hu : X.A.units + 65 < cLine) : O2 X (compareOp .In) (gInA false) := O2.of (OpR.or (op_inD hu) (op_inT hu)) (gInA_mono _) fun al F G H M x y dx dy Q W r1 r2 q => by
  unfold gInA at q
  split at q
  · exact .inl ⟨_, _, dp_vw W r1 q.1.1, dp_vw W r2 q.2.1.1, q.1.2, q.2.1.2, kont.here q.2.2 W (.bl _)⟩
  · exact .inr ⟨_, _, dp_vw W r1 q.1.1, dp_vw W r2 q.2.1.1, q.1.2, q.2.1.2, kont.here q.2.2 W (.bl _)⟩
  · exact q.elim
theorem o_notinA (hu : X.A.units + 65 < cLine) : O2 X (compareOp .NotIn) (gInA true) := O2.of (OpR.or (op_notInD hu) (op_notInT hu)) (gInA_mono _) fun al F G H M x y dx dy Q W r1 r2 q => by
  unfold gInA at q
  split at q
  · exact .inl ⟨_, _, dp_vw W r1 q.1.1, dp_vw W r2 q.2.1.1, q.1.2, q.2.1.2, kont.here q.2.2 W (.bl _)⟩
  · exact .inr ⟨_, _, dp_vw W r1 q.1.1, dp_vw W r2 q.2.1.1, q.1.2, q.2.1.2, kont.here q.2.2 W (.bl _)⟩
  · exact q.elim
end
end DL

set_option maxHeartbeats 1000000
/-! DLQ: a def with one keyword-only parameter that has a default. -/
namespace DL
open PySem PySem.Spec PyProof.Rows L2 MT
structure FunK1 (K : PySem.W.Frag) (x qual : Str) (st : Stmt) (kn : Str) (dv : V) (f : Addr) (fd : FuncData) : Prop where
  fn : Fun K x qual st f fd
  fk : FunD K x qual (defArgs st) (defBody st) (defScope st) [] [(kn, dv)] f fd
structure DfK (K : PySem.W.Frag) (mg : Str → Option Value) (x : Str) (st : Stmt) (kn : Str) (dv : V) : Prop where
  ex : ∃ (f : Addr) (fd : FuncData), FunK1 K x x st kn dv f fd ∧ mg x = some (.ref f)
theorem funk_mk {K : PySem.W.Frag} {x qual kn : Str} {st : Stmt} {dv : V} {u : Value} {f D : Addr} {oc : Value} {od : Option Addr} {doc pm : Value} {an : Option Addr} {cdv ct : Value} {osl : Array (Option Value)}
    (lk : K.lookup f = some ⟨oc, od, .func (PySem.W.fnOf x qual (defArgs st) (defBody st) (defScope st) .none (.ref D) doc pm an cdv ct), osl⟩) (hc : PySem.W.codeIn K cdv qual = true) (hk : PySem.W.keepIn K (.ref f) = true) (hd : PySem.W.nsIn K D kn = some (some u)) (hr : RelV dv u) :
    FunK1 K x qual st kn dv f (PySem.W.fnOf x qual (defArgs st) (defBody st) (defScope st) .none (.ref D) doc pm an cdv ct) :=
  ⟨⟨⟨oc, od, .ref D, doc, pm, an, cdv, ct, osl, rfl, lk, hc⟩, hk⟩, ⟨⟨oc, od, .none, .ref D, doc, pm, an, cdv, ct, osl, rfl, lk, hc, .inl ⟨rfl, rfl⟩, .inr ⟨D, rfl, fun q hq => by
    obtain rfl : q = (kn, dv) := by simpa using hq
    exact ⟨u, hd, hr⟩⟩⟩, hk⟩⟩
structure ClK (P : Program) (w : World) (K : PySem.W.Frag) (mg : Str → Option Value) (base : Heap) (x : Str) (k : Nat) (ps : List Str) (n : Nat) (ks : List Str) (dd : List D) (ds : DSp) : Prop where
  ex : ∃ (f : Addr) (fd : FuncData), FnG P w K mg base (L2N.CX P w) k f fd ps (spOf K ds) ∧ mg x = some (.ref f) ∧ PySem.W.keepIn K (.ref f) = true ∧ (∃ dvs dds, Vals dvs dds ∧ (∀ F al, Rps K F al dvs dd) ∧ Binds K fd ps dds) ∧ ∃ g, KBn K fd ps n ks g (fun vs zs => vs ++ zs)
  mono : MonoSp ds
section
variable {X : Cx} {CX : CXT} {a v : Expr} {es : List Expr} {fr : DTA} {fv : DTE} {pos p : Pos} {x : Str} {k n : Nat} {f : Addr} {fd : FuncData} {ps ks : List Str} {sp : Sp} {kws : List Keyword} {t tk : TA} {g : List Value → List Value → List Value} {gV : List V → List V → List V}
theorem runGK {pins : List (Addr × Obj)} {σ : L2.St} {H : Hp} {s : Shared} {Q : VK} {us ws : List Value} {vs zs : List V} {E : L2.St → XK} (F : FnG X.prog X.w X.K X.mg X.base CX k f fd ps sp) (hgd : X.A.guards = some []) (hr : Room k X.A) (hb : KBn X.K fd ps n ks g gV) (hx : PassesAt CX X σ (E σ))
    (I : L2.Inv X pins σ H s) (r : Vals vs us) (rz : Vals zs ws) (l1 : vs.length = n) (l2 : zs.length = ks.length) (h : sp (gV vs zs) H Q (E σ)) : wpAny (model X.prog X.w) X.A (call (.ref f) us (ks.zip ws)) (EP X pins σ Q) X.xe s := by
  have r2 := hb.rel r rz
  refine wpAny_call (codeAny_mono (F.run X.A X.stack s H ⟨us, ks.zip ws⟩ (g us ws) (gV vs zs) Q (E σ) hgd hr I.env0 (hb.to s us ws I.kIn (r.length.symm.trans l1) (rz.length.symm.trans l2)) r2 h) fun res s' z => ?_)
  match res, z with
  | .error e, z => exact hx pins H s e s' I z
  | .ok (.ret u), z => exact I.after z
  | .ok .next, z => exact z.elim
  | .ok .brk, z => exact z.elim
  | .ok .cont, z => exact z.elim
theorem peG_callK {E : L2.St → XK} (F : FnG X.prog X.w X.K X.mg X.base CX k f fd ps sp) (hgd : X.A.guards = some []) (hr : Room k X.A) (hg : Gl X x) (hm : X.mg x = some (.ref f)) (hk : PySem.W.keepIn X.K (.ref f) = true) (hb : KBn X.K fd ps n ks g gV) (hx : ∀ σ, PassesAt CX X σ (E σ))
    (ha : PA X (a :: es) t) (hkw : PK X kws tk) (hall : (backToKw pos (keywordEach kws X.env)).all (·.1.isSome) = true := by rfl) (hks : (backToKw pos (keywordEach kws X.env)).filterMap (·.1) = ks := by rfl)
    (hdb : (x == ("__debug__" : Str)) = false := by decide) (he : starEach (a :: es) X.env = (false, eval a X.env) :: starEach es X.env := by rfl)
    (hpl : ((backTo pos (starEach (a :: es) X.env)).any (·.1) || (backToKw pos (keywordEach kws X.env)).any (·.1.isNone)) = false := by rfl) :
    PE X (.Call (.Name x p) (a :: es) kws pos) (fun σ H Q => t σ H fun vs H1 => tk σ H1 fun zs H2 => vs.length = n ∧ zs.length = ks.length ∧ sp (gV vs zs) H2 Q (E σ)) := by
  refine ⟨fun pins s σ H Q I h => wpAny_Call_Name_kw (ld_glob I hg hm ?_ hdb)⟩
  refine PySem.W.callWith_KW (h₀ := X.base) I.ok.mod.kin hk hall (thn (ha.run pos pins s σ H _ I h) fun us s1 ⟨vs, H1, I1, r, q⟩ => thn (hkw.run pos pins s1 σ H1 _ I1 q) fun ws s2 ⟨zs, H2, I2, rz, l1, l2, q2⟩ => ⟨I2.kIn, ?_⟩) hpl he
  rw [hks]
  exact runGK F hgd hr hb (hx σ) I2 r rz l1 l2 q2
/-- without the keyword -/
theorem d_clK0 {ds : DSp} {dd : List D} (C : ClK X.prog X.w X.K X.mg X.base x k ps n ks dd ds) (hgd : X.A.guards = some []) (hr : Room k X.A) (ha : DA X (a :: es) fr) (hg : Gl X x := by rfl) (hdb : (x == ("__debug__" : Str)) = false := by decide)
    (he : starEach (a :: es) X.env = (false, eval a X.env) :: starEach es X.env := by rfl) (hpl : (backTo pos (starEach es X.env)).any (·.1) = false := by rfl) : DE X (.Call (.Name x p) (a :: es) [] pos) (dCall (fun args => ds (args ++ dd)) fr) := by
  obtain ⟨f, fd, G, hm, hk, ⟨dvs, dds, hv, hrp, hb⟩, _⟩ := C.ex
  have hmono := C.mono
  refine ⟨PE.of (peG_callS G hgd hr hg hm hk hb hv (L2N.passAt (takesW X)) ha.pa hdb he hpl) fun σ H Q ⟨ρ, M, al, F, Gg, W, s, q⟩ => ?_, fun ρ M Q Q' w q => ha.mono _ _ _ _ (fun args M1 q1 => hmono _ _ _ _ _ _ w (fun _ _ _ z => z) q1) q⟩
  refine ha.seq W s q fun args M1 al1 F1 H1 vs q1 e1 W1 r1 s1 => ?_
  exact ⟨args ++ dd, M1, al1, F1, Gg, W1, r1.append (hrp _ _), hmono _ _ _ _ _ _ (fun d M2 k => kont.ext k e1) (fun c fs M2 z al2 F2 H2 o e2 W2 f2 => s1.xo c fs ρ.v M2 al2 F2 H2 o σ e2 W2 (s1.sl.ext e2) f2 z) q1⟩
@[reducible] def dCallK (n : Nat) (ds : DSp) (fr : DTA) (fv : DTE) : DTE := fun ρ M Q => fr ρ M fun args M1 => fv ρ M1 fun d M2 => args.length = n ∧ ds (args ++ [d]) M2 Q fun c fs M3 => ρ.x c fs ρ.v M3
/-- with the keyword -/
theorem d_clK1 {ds : DSp} {dd : List D} {kn : Str} {kpos : Pos} (C : ClK X.prog X.w X.K X.mg X.base x k ps n [kn] dd ds) (hgd : X.A.guards = some []) (hr : Room k X.A) (ha : DA X (a :: es) fr) (hv : DE X v fv) (hg : Gl X x := by rfl) (hdb : (x == ("__debug__" : Str)) = false := by decide)
    (hall : (backToKw pos (keywordEach [⟨some kn, v, kpos⟩] X.env)).all (·.1.isSome) = true := by rfl) (hks : (backToKw pos (keywordEach [⟨some kn, v, kpos⟩] X.env)).filterMap (·.1) = [kn] := by rfl)
    (he : starEach (a :: es) X.env = (false, eval a X.env) :: starEach es X.env := by rfl) (hpl : ((backTo pos (starEach (a :: es) X.env)).any (·.1) || (backToKw pos (keywordEach [⟨some kn, v, kpos⟩] X.env)).any (·.1.isNone)) = false := by rfl) :
    DE X (.Call (.Name x p) (a :: es) [⟨some kn, v, kpos⟩] pos) (dCallK n ds fr fv) := by
  obtain ⟨f, fd, G, hm, hk, _, g, hb⟩ := C.ex
  have hmono := C.mono
  refine ⟨PE.of (peG_callK G hgd hr hg hm hk hb (L2N.passAt (takesW X)) ha.pa (pk_cons hv.pe pk_nil) hall hks hdb he hpl) fun σ H Q ⟨ρ, M, al, F, Gg, W, s, q⟩ => ?_, fun ρ M Q Q' w q => ha.mono _ _ _ _ (fun args M1 q1 => hv.mono _ _ _ _ (fun d M2 q2 => ⟨q2.1, hmono _ _ _ _ _ _ w (fun _ _ _ z => z) q2.2⟩) q1) q⟩
  refine ha.seq W s q fun args M1 al1 F1 H1 vs q1 e1 W1 r1 s1 => ?_
  refine hv.seq W1 s1 q1 fun d M2 al2 F2 H2 u q2 e2 W2 r2 s2 => ?_
  exact ⟨r1.length.trans q2.1, rfl, args ++ [d], M2, al2, F2, Gg, W2, (r1.ext e2).append (.cons r2 .nil), hmono _ _ _ _ _ _ (fun d M2 k => kont.ext k (e1.trans e2)) (fun c fs M3 z al3 F3 H3 o e3 W3 f3 => s2.xo c fs ρ.v M3 al3 F3 H3 o σ e3 W3 (s2.sl.ext e3) f3 z) q2.2⟩
end
/-! the handled exception, in its own suite -/
section
variable {X : Cx} {a : Addr} {oe : Obj} {cls : Value} {d : Option Addr} {pn : List (Addr × Obj)} {e : Expr} {fe : DTE} {pos : Pos}
theorem d_isXs {p p2 : Pos} {cs : List Expr} {cvs : List Value} {k : Nat} (hz : L2N.Zn cls d oe) (hf : ∃ vs, oe.data = .fields vs) (hm : X.mg "isinstance" = none) (h : DE (X.suite a ((a, oe) :: pn)) e fe) (hc : NmCs (X.suite a ((a, oe) :: pn)) cs cvs) (hl : cvs.length ≤ 1000) (hg : Gl (X.suite a ((a, oe) :: pn)) "isinstance" := by rfl)
    (hs : starEach [e, .Tuple cs k p2] (X.suite a ((a, oe) :: pn)).env = (false, eval e (X.suite a ((a, oe) :: pn)).env) :: starEach [.Tuple cs k p2] (X.suite a ((a, oe) :: pn)).env := by rfl) (hs2 : starEach [.Tuple cs k p2] (X.suite a ((a, oe) :: pn)).env = (false, eval (.Tuple cs k p2) (X.suite a ((a, oe) :: pn)).env) :: starEach [] (X.suite a ((a, oe) :: pn)).env := by rfl) (hpl : (backTo pos (starEach [.Tuple cs k p2] (X.suite a ((a, oe) :: pn)).env)).any (·.1) = false := by rfl) :
    DE (X.suite a ((a, oe) :: pn)) (.Call (.Name "isinstance" p) [e, .Tuple cs k p2] [] pos) (dIsX X.K a cls d cvs fe) := d_isX (pin_suite hz hf) hm h hc hl hg hs hs2 hpl
theorem d_isX1s {p : Pos} {c : Expr} {cv : Value} (hz : L2N.Zn cls d oe) (hf : ∃ vs, oe.data = .fields vs) (hm : X.mg "isinstance" = none) (h : DE (X.suite a ((a, oe) :: pn)) e fe) (hc : NmC (X.suite a ((a, oe) :: pn)) c cv) (hg : Gl (X.suite a ((a, oe) :: pn)) "isinstance" := by rfl)
    (hs : starEach [e, c] (X.suite a ((a, oe) :: pn)).env = (false, eval e (X.suite a ((a, oe) :: pn)).env) :: starEach [c] (X.suite a ((a, oe) :: pn)).env := by rfl) (hs2 : starEach [c] (X.suite a ((a, oe) :: pn)).env = (false, eval c (X.suite a ((a, oe) :: pn)).env) :: starEach [] (X.suite a ((a, oe) :: pn)).env := by rfl) (hpl : (backTo pos (starEach [c] (X.suite a ((a, oe) :: pn)).env)).any (·.1) = false := by rfl) :
    DE (X.suite a ((a, oe) :: pn)) (.Call (.Name "isinstance" p) [e, c] [] pos) (dIsX X.K a cls d [cv] fe) := d_isX1 (pin_suite hz hf) hm h hc hg hs hs2 hpl
theorem d_fldXs {n : Str} (hz : L2N.Zn cls d oe) (hf : ∃ vs, oe.data = .fields vs) (h : DE (X.suite a ((a, oe) :: pn)) e fe) (hb : attributeBase e n (X.suite a ((a, oe) :: pn)).env (eval e (X.suite a ((a, oe) :: pn)).env) = eval e (X.suite a ((a, oe) :: pn)).env := by rfl) : DE (X.suite a ((a, oe) :: pn)) (.Attribute e n pos) (dFldX X.K a cls d n fe) := d_fldX (pin_suite hz hf) h hb
end
end DL

set_option maxHeartbeats 1000000
/-! DLR: needed pushes, plainly. -/
namespace DL
open PySem PySem.Spec PyProof.Rows L2 MT
def belows (t : Tr) (m : Nat) : List (Nat × Nat) := t.zipIdx.filterMap fun q => if q.1.1 = m then some (q.2 + 1, q.1.2) else none
def near (t : Tr) (m : Nat) : List (Nat × Nat) := (if 0 < m then [t.getD (m - 1) (0, 0)] else []) ++ belows t m
theorem near_ok {t : Tr} (ht : TreeOk t) {m : Nat} (hm : m ≤ t.length) : ∀ q ∈ near t m, q.1 ≤ t.length ∧ q.2 ≤ 1000000 := by
  intro q hq
  unfold near at hq
  rcases List.mem_append.mp hq with z | z
  · split at z
    · next h0 =>
      obtain ⟨p, hp, _, _, hlt⟩ := tree_get ht h0 hm
      rw [List.mem_singleton.mp z, List.getD_eq_getElem?_getD, hp]
      have := ht.2 _ _ hp
      exact ⟨by show p.1 ≤ _; omega, this.2.2⟩
    · cases z
  · unfold belows at z
    obtain ⟨r, hr, e⟩ := List.mem_filterMap.mp z
    have h1 := idx_mem hr
    have h2 := (List.getElem?_eq_some_iff.mp h1).1
    have h3 := ht.2 _ _ h1
    split at e
    · cases e
      exact ⟨by show r.2 + 1 ≤ _; omega, h3.2.2⟩
    · cases e
theorem near_len {t : Tr} (ht : TreeOk t) (m : Nat) : (near t m).length ≤ 12 := by
  have h1 : (belows t m).length ≤ t.length := by
    unfold belows
    have := List.length_filterMap_le (fun q : (Nat × Nat) × Nat => if q.1.1 = m then some (q.2 + 1, q.1.2) else none) t.zipIdx
    rw [idx_len] at this
    exact this
  have h2 := ht.1
  unfold near
  rw [List.length_append]
  split <;> simp <;> omega
def needB (t : Tr) (xs : List Int) (m : Nat) : Bool := (near t m).all fun q => decide (xs.getD m 0 < xs.getD q.1 0 + q.2)
def needP (t : Tr) (xs : List Int) : List (Nat × Int) := xs.zipIdx.filterMap fun q => if needB t xs q.2 = true then some (q.2, q.1) else none
def Lip (t : Tr) (xs : List Int) : Prop := ∀ i j, i ≤ t.length → j ≤ t.length → xs.getD i 0 ≤ xs.getD j 0 + dist t i j
theorem near_dist {t : Tr} (ht : TreeOk t) {m : Nat} (hm : m ≤ t.length) {q : Nat × Nat} (hq : q ∈ near t m) : dist t m q.1 = q.2 ∧ q.1 ≤ t.length ∧ 1 ≤ q.2 := by
  unfold near at hq
  rcases List.mem_append.mp hq with z | z
  · split at z
    · next h0 =>
      obtain ⟨p, hp, _, _, hlt⟩ := tree_get ht h0 hm
      rw [List.mem_singleton.mp z, List.getD_eq_getElem?_getD, hp]
      have h1 := ht.2 _ _ hp
      have h2 := row_dist ht hp
      rw [show m - 1 + 1 = m by omega] at h2
      exact ⟨h2, by show p.1 ≤ _; omega, h1.2.1⟩
    · cases z
  · unfold belows at z
    obtain ⟨r, hr, e⟩ := List.mem_filterMap.mp z
    have h1 := idx_mem hr
    have h2 := (List.getElem?_eq_some_iff.mp h1).1
    have h3 := ht.2 _ _ h1
    split at e
    · next e1 =>
      cases e
      have h4 := row_dist ht h1
      rw [e1] at h4
      exact ⟨by rw [dist_comm]; exact h4, by show r.2 + 1 ≤ _; omega, h3.2.1⟩
    · cases e
theorem last_near {t : Tr} (ht : TreeOk t) {i m : Nat} (hi : i ≤ t.length) (hm : m ≤ t.length) (h : i ≠ m) : ∃ q ∈ near t m, dist t i m = dist t i q.1 + q.2 := by
  obtain ⟨q, _, c⟩ := last_edge t i m h
  rcases c with ⟨h0, rfl, e⟩ | ⟨h0, hq, e1, e⟩
  · obtain ⟨p, hp, ep, el, hlt⟩ := tree_get ht h0 hm
    refine ⟨p, ?_, by rw [e, ep, el]⟩
    unfold near
    rw [if_pos h0, List.getD_eq_getElem?_getD, hp]
    simp
  · obtain ⟨p, hp, ep, el, hlt⟩ := tree_get ht h0 (show q ≤ t.length by omega)
    refine ⟨(q, p.2), ?_, by rw [e, el]⟩
    unfold near
    refine List.mem_append_right _ ?_
    unfold belows
    refine List.mem_filterMap.mpr ⟨(p, q - 1), List.mem_of_getElem? (i := q - 1) (by rw [List.getElem?_zipIdx, hp]; simp), ?_⟩
    show (if p.1 = m then some (q - 1 + 1, p.2) else none) = _
    rw [if_pos (by omega), show q - 1 + 1 = q by omega]
theorem need_lt {t : Tr} {xs : List Int} {m : Nat} (h : needB t xs m = true) {q : Nat × Nat} (hq : q ∈ near t m) : xs.getD m 0 < xs.getD q.1 0 + q.2 := by
  unfold needB at h
  exact of_decide_eq_true (List.all_eq_true.mp h q hq)
theorem need_far {t : Tr} (ht : TreeOk t) {xs : List Int} (hl : Lip t xs) {i m : Nat} (hi : i ≤ t.length) (hm : m ≤ t.length) (h : i ≠ m) (hn : needB t xs m = true) : xs.getD m 0 < xs.getD i 0 + dist t i m := by
  obtain ⟨q, hq, e⟩ := last_near ht hi hm h
  have h1 := need_lt hn hq
  have h2 := hl q.1 i (near_dist ht hm hq).2.1 hi
  rw [dist_comm t q.1 i] at h2
  omega
theorem need_source {t : Tr} (ht : TreeOk t) {xs : List Int} (hl : Lip t xs) (h0 : ∀ i, i ≤ t.length → 0 ≤ xs.getD i 0) : ∀ (n m : Nat), m ≤ t.length → (xs.getD m 0).toNat ≤ n → ∃ p, p ≤ t.length ∧ needB t xs p = true ∧ xs.getD m 0 = xs.getD p 0 + dist t p m := by
  intro n
  induction n with
  | zero =>
    intro m hm hn
    refine ⟨m, hm, ?_, by rw [dist_self]; omega⟩
    unfold needB
    refine List.all_eq_true.mpr fun q hq => decide_eq_true ?_
    obtain ⟨_, h1, h2⟩ := near_dist ht hm hq
    have := h0 q.1 h1
    have := h0 m hm
    omega
  | succ n ih =>
    intro m hm hn
    by_cases hb : needB t xs m = true
    · exact ⟨m, hm, hb, by rw [dist_self]; omega⟩
    · have : ∃ q ∈ near t m, xs.getD q.1 0 + q.2 ≤ xs.getD m 0 := by
        apply Classical.byContradiction
        intro z
        apply hb
        unfold needB
        refine List.all_eq_true.mpr fun q hq => decide_eq_true ?_
        have : ¬ (xs.getD q.1 0 + q.2 ≤ xs.getD m 0) := fun y => z ⟨q, hq, y⟩
        omega
      obtain ⟨q, hq, hle⟩ := this
      obtain ⟨d1, h1, h2⟩ := near_dist ht hm hq
      have h3 := h0 q.1 h1
      obtain ⟨p, hp, hb2, e⟩ := ih q.1 h1 (by omega)
      refine ⟨p, hp, hb2, ?_⟩
      have h4 := hl m p hm hp
      have h5 := dist_tri t p q.1 m
      rw [dist_comm t q.1 m, d1] at h5
      rw [dist_comm t m p] at h4
      omega
theorem mem_needP {t : Tr} {xs : List Int} {p : Nat × Int} : p ∈ needP t xs ↔ xs[p.1]? = some p.2 ∧ needB t xs p.1 = true := by
  unfold needP
  constructor
  · intro h
    obtain ⟨q, hq, e⟩ := List.mem_filterMap.mp h
    split at e
    · next h1 => cases e; exact ⟨idx_mem hq, h1⟩
    · cases e
  · rintro ⟨h1, h2⟩
    refine List.mem_filterMap.mpr ⟨(p.2, p.1), List.mem_of_getElem? (i := p.1) (by rw [List.getElem?_zipIdx, h1]; simp), ?_⟩
    rw [if_pos h2]
theorem falls_eq {t : Tr} (ht : TreeOk t) {xs : List Int} (hx : xs.length = t.length + 1) (hl : Lip t xs) (h0 : ∀ i, i ≤ t.length → 0 ≤ xs.getD i 0) {ps : List (Nat × Int)} (h1 : ∀ p ∈ needP t xs, p ∈ ps) (h2 : ∀ p ∈ ps, p.1 ≤ t.length ∧ xs.getD p.1 0 ≤ p.2) : fallsT t ps = xs := by
  have hne : ps ≠ [] := fun z => by
    obtain ⟨p, hp, hb, _⟩ := need_source ht hl h0 _ 0 (by omega) (Nat.le_refl _)
    have := h1 (p, xs.getD p 0) (mem_needP.mpr ⟨get_of (by show p < _; omega), hb⟩)
    rw [z] at this
    cases this
  refine ext_getD (by rw [fallsT_len, hx]) fun m hm => ?_
  rw [fallsT_len] at hm
  rw [fallsT_getD t ps (by omega)]
  obtain ⟨p, hp, hb, e⟩ := need_source ht hl h0 _ m (by omega) (Nat.le_refl _)
  have h3 := fallT_le (t := t) (h1 (p, xs.getD p 0) (mem_needP.mpr ⟨get_of (by show p < _; omega), hb⟩)) m
  dsimp only at h3
  obtain ⟨q, hq, e2⟩ := fallT_mem (t := t) hne m
  obtain ⟨h4, h5⟩ := h2 q hq
  have h6 := hl m q.1 (by omega) h4
  rw [dist_comm t m q.1] at h6
  omega
theorem rest_late {t : Tr} (ht : TreeOk t) {xs : List Int} (hl : Lip t xs) {ps : List (Nat × Int)} (hne : ps ≠ []) {m : Nat} (hm : m ≤ t.length) (hn : needB t xs m = true) (h2 : ∀ p ∈ ps, p.1 ≤ t.length ∧ p.1 ≠ m ∧ xs.getD p.1 0 = p.2) : xs.getD m 0 < fallT t ps m := by
  obtain ⟨q, hq, e⟩ := fallT_mem (t := t) hne m
  obtain ⟨h3, h4, h5⟩ := h2 q hq
  have := need_far ht hl h3 hm h4 hn
  omega
theorem fallsT_lip {t : Tr} {ps : List (Nat × Int)} (hne : ps ≠ []) : Lip t (fallsT t ps) := fun i j hi hj => by
  rw [fallsT_getD t ps hi, fallsT_getD t ps hj]
  obtain ⟨q, hq, e⟩ := fallT_mem (t := t) hne j
  have h1 := fallT_le (t := t) hq i
  have h2 := dist_tri t q.1 j i
  rw [dist_comm t j i] at h2
  omega
theorem need_among {t : Tr} (ht : TreeOk t) {ps : List (Nat × Int)} (hne : ps ≠ []) (hp : ∀ p ∈ ps, p.1 ≤ t.length) {p : Nat × Int} (h : p ∈ needP t (fallsT t ps)) : p ∈ ps := by
  obtain ⟨e1, hb⟩ := mem_needP.mp h
  have hm := (List.getElem?_eq_some_iff.mp e1).1
  rw [fallsT_len] at hm
  have hx := getD_of (d := 0) e1
  rw [fallsT_getD t ps (by omega)] at hx
  obtain ⟨q, hq, e⟩ := fallT_mem (t := t) hne p.1
  by_cases hqm : q.1 = p.1
  · rw [hqm, dist_self] at e
    have : q = p := Prod.ext hqm (by omega)
    rw [← this]
    exact hq
  · obtain ⟨r, hr, er⟩ := last_near ht (hp q hq) (show p.1 ≤ t.length by omega) hqm
    have h1 := need_lt hb hr
    have h2 := (near_dist ht (show p.1 ≤ t.length by omega) hr).2.1
    rw [fallsT_getD t ps (by omega), fallsT_getD t ps h2] at h1
    have h3 := fallT_le (t := t) hq r.1
    omega
theorem needP_nodup (t : Tr) (xs : List Int) : ((needP t xs).map (·.1)).Nodup := by
  have key : ∀ l : List (Int × Nat), ((l.filterMap fun q => if needB t xs q.2 = true then some (q.2, q.1) else none).map (·.1)).Sublist (l.map (·.2)) := by
    intro l
    induction l with
    | nil => exact .slnil
    | cons q l ih =>
      rw [List.filterMap_cons]
      by_cases h : needB t xs q.2 = true
      · rw [if_pos h]
        exact ih.cons₂ _
      · rw [if_neg h]
        exact ih.cons _
  refine (key xs.zipIdx).nodup ?_
  have : xs.zipIdx.map (·.2) = List.range xs.length := by
    apply List.ext_getElem?
    intro i
    rw [List.getElem?_map, List.getElem?_zipIdx]
    by_cases hi : i < xs.length
    · rw [List.getElem?_eq_getElem hi, List.getElem?_range hi]
      simp
    · rw [List.getElem?_eq_none (by omega), List.getElem?_eq_none (by rw [List.length_range]; omega)]
      rfl
  rw [this]
  exact List.nodup_range
theorem needP_len (t : Tr) (xs : List Int) : (needP t xs).length ≤ xs.length := by
  have := List.length_filterMap_le (fun q : Int × Nat => if needB t xs q.2 = true then some (q.2, q.1) else none) xs.zipIdx
  rw [idx_len] at this
  exact this
/-- without the k-th one -/
theorem rest_ne {t : Tr} {xs : List Int} {k : Nat} {p : Nat × Int} (hk : (needP t xs)[k]? = some p) {q : Nat × Int} (hq : q ∈ (needP t xs).take k ++ (needP t xs).drop (k + 1)) : q ∈ needP t xs ∧ q.1 ≠ p.1 := by
  have hnd := needP_nodup t xs
  have hkl := (List.getElem?_eq_some_iff.mp hk).1
  have split : needP t xs = (needP t xs).take k ++ p :: (needP t xs).drop (k + 1) := by
    have e := (List.getElem?_eq_some_iff.mp hk).2
    rw [← e, ← List.drop_eq_getElem_cons hkl, List.take_append_drop]
  have hmem : q ∈ needP t xs := by
    rw [split]
    rcases List.mem_append.mp hq with z | z
    · exact List.mem_append_left _ z
    · exact List.mem_append_right _ (List.mem_cons_of_mem _ z)
  refine ⟨hmem, fun z => ?_⟩
  rw [split, List.map_append, List.map_cons] at hnd
  have h1 := (List.nodup_append.mp hnd).2.2
  have h2 := (List.nodup_cons.mp (List.nodup_append.mp hnd).2.1).1
  rcases List.mem_append.mp hq with y | y
  · exact h1 q.1 (List.mem_map.mpr ⟨q, y, rfl⟩) p.1 (List.mem_cons_self ..) z
  · exact h2 (List.mem_map.mpr ⟨q, y, z⟩)
theorem falls_snoc {t : Tr} {ps : List (Nat × Int)} (hne : ps ≠ []) (p : Nat × Int) : lowsOf (t.length + 1) [fallsT t ps, fallsT t [p]] = fallsT t (ps ++ [p]) := by
  refine ext_getD (by rw [lowsOf_len, fallsT_len]) fun m hm => ?_
  rw [lowsOf_len] at hm
  unfold lowsOf
  rw [rng_getD _ hm, fallsT_getD t _ (by omega)]
  show minI [(fallsT t ps).getD m 0, (fallsT t [p]).getD m 0] = _
  rw [fallsT_getD t _ (by omega), fallsT_getD t _ (by omega)]
  unfold fallT
  rw [List.map_append, List.map_cons, List.map_nil, minI_snoc (fun z => hne (List.map_eq_nil_iff.mp z))]
  have := minI_snoc (L := [minI (ps.map fun p => p.2 + dist t p.1 m)]) (by simp) (p.2 + dist t p.1 m)
  exact this
theorem falls_moved {t : Tr} {ps : List (Nat × Int)} (hne : ps ≠ []) (z : Int) : fallsT t (ps.map fun p => (p.1, p.2 + z)) = (fallsT t ps).map (· + z) := by
  refine ext_getD (by rw [List.length_map, fallsT_len, fallsT_len]) fun m hm => ?_
  rw [fallsT_len] at hm
  have e1 : ((fallsT t ps).map (· + z)).getD m 0 = fallT t ps m + z := by
    rw [List.getD_eq_getElem?_getD, List.getElem?_map, get_of (by rw [fallsT_len]; exact hm), fallsT_getD t ps (by omega)]
    rfl
  rw [fallsT_getD t _ (by omega), e1]
  obtain ⟨p, hp, e⟩ := fallT_mem (t := t) hne m
  have h1 := fallT_le (t := t) (ps := ps.map fun p => (p.1, p.2 + z)) (List.mem_map.mpr ⟨p, hp, rfl⟩) m
  obtain ⟨q, hq, e2⟩ := fallT_mem (t := t) (ps := ps.map fun p => (p.1, p.2 + z)) (fun y => hne (List.map_eq_nil_iff.mp y)) m
  obtain ⟨r, hr, rfl⟩ := List.mem_map.mp hq
  have h2 := fallT_le (t := t) hr m
  dsimp only at h1 e2
  omega
theorem eqv_push (p q : Nat × Int) : PyData.eqv (toPy (pushD p)) (toPy (pushD q)) = decide (p = q) := by
  show (((p.1 : Int) == (q.1 : Int)) && ((p.2 == q.2) && true)) = _
  obtain ⟨a, b⟩ := p
  obtain ⟨c, d⟩ := q
  by_cases h1 : a = c <;> by_cases h2 : b = d <;> simp [h1, h2, Int.ofNat_inj]
theorem any_push (L : List (Nat × Int)) (p : Nat × Int) : ((toPys (L.map pushD)).any fun z => PyData.eqv z (toPy (pushD p))) = decide (p ∈ L) := by
  induction L with
  | nil => simp [toPys]
  | cons x L ih =>
    show (PyData.eqv (toPy (pushD x)) (toPy (pushD p)) || (toPys (L.map pushD)).any fun z => PyData.eqv z (toPy (pushD p))) = _
    rw [ih, eqv_push]
    by_cases h : x = p
    · simp [h]
    · have : ¬ p = x := fun z => h z.symm
      by_cases h2 : p ∈ L <;> simp [h, h2, this]
theorem pl_push (p : Nat × Int) : Pl 1 (pushD p) := pl_ints [(p.1 : Int), p.2]
theorem pl_pushes (L : List (Nat × Int)) : Pl 2 (.tup (L.map pushD)) := .tup fun d hd => by
  obtain ⟨p, _, rfl⟩ := List.mem_map.mp hd
  exact pl_push p
end DL

set_option maxHeartbeats 1000000
/-! DLS: two trees joined, plainly. -/
namespace DL
open PySem PySem.Spec PyProof.Rows L2 MT
def joinT (t o : Tr) (m l : Nat) : Tr := t ++ (m, l) :: o.map fun p => (t.length + 1 + p.1, p.2)
theorem join_len (t o : Tr) (m l : Nat) : (joinT t o m l).length = t.length + 1 + o.length := by
  unfold joinT
  simp only [List.length_append, List.length_cons, List.length_map]
  omega
theorem join_old {t o : Tr} {m l k : Nat} (h : k < t.length) : (joinT t o m l)[k]? = t[k]? := by
  unfold joinT
  rw [List.getElem?_append_left h]
theorem join_mid (t o : Tr) (m l : Nat) : (joinT t o m l)[t.length]? = some (m, l) := by
  unfold joinT
  rw [List.getElem?_append_right (Nat.le_refl _), Nat.sub_self]
  rfl
theorem join_new (t o : Tr) (m l k : Nat) : (joinT t o m l)[t.length + 1 + k]? = (o[k]?).map fun p => (t.length + 1 + p.1, p.2) := by
  unfold joinT
  rw [List.getElem?_append_right (by omega), show t.length + 1 + k - t.length = k + 1 by omega, List.getElem?_cons_succ, List.getElem?_map]
theorem join_ok {t o : Tr} (ht : TreeOk t) (ho : TreeOk o) {m l : Nat} (hm : m ≤ t.length) (h1 : 1 ≤ l) (h2 : l ≤ 1000000) (hl : t.length + 1 + o.length ≤ 11) : TreeOk (joinT t o m l) := by
  refine ⟨by rw [join_len]; exact hl, fun k p e => ?_⟩
  rcases Nat.lt_trichotomy k t.length with h | h | h
  · rw [join_old h] at e
    exact ht.2 k p e
  · subst h
    rw [join_mid] at e
    cases e
    exact ⟨hm, h1, h2⟩
  · obtain ⟨j, rfl⟩ : ∃ j, k = t.length + 1 + j := ⟨k - t.length - 1, by omega⟩
    rw [join_new] at e
    cases eo : o[j]? with
    | none => rw [eo] at e; cases e
    | some q =>
      rw [eo] at e
      cases e
      have := ho.2 j q eo
      exact ⟨by show t.length + 1 + q.1 ≤ _; omega, this.2.1, this.2.2⟩
section
variable {t o : Tr} {m l : Nat}
theorem join_par {i : Nat} (h : i ≤ t.length) (h0 : 0 < i) : par (joinT t o m l) i = par t i ∧ ln (joinT t o m l) i = ln t i := by
  unfold par ln
  rw [List.getD_eq_getElem?_getD, List.getD_eq_getElem?_getD, join_old (by omega)]
  exact ⟨rfl, rfl⟩
theorem join_par0 (hm : m ≤ t.length) : par (joinT t o m l) (t.length + 1) = m ∧ ln (joinT t o m l) (t.length + 1) = l := by
  unfold par ln
  rw [List.getD_eq_getElem?_getD, Nat.add_sub_cancel, join_mid]
  exact ⟨by show min m t.length = m; omega, rfl⟩
theorem join_parN {j : Nat} (h : j ≤ o.length) (h0 : 0 < j) : par (joinT t o m l) (t.length + 1 + j) = t.length + 1 + par o j ∧ ln (joinT t o m l) (t.length + 1 + j) = ln o j := by
  unfold par ln
  rw [List.getD_eq_getElem?_getD, List.getD_eq_getElem?_getD, show t.length + 1 + j - 1 = t.length + 1 + (j - 1) by omega, join_new, List.getElem?_eq_getElem (show j - 1 < o.length by omega)]
  refine ⟨?_, rfl⟩
  show min (t.length + 1 + (o[j - 1]).1) (t.length + 1 + (j - 1)) = t.length + 1 + min (o[j - 1]).1 (j - 1)
  omega
theorem join_way : ∀ (n i j : Nat), i + j ≤ n → i ≤ t.length → j ≤ t.length → lway (joinT t o m l) i j = lway t i j ∧ dist (joinT t o m l) i j = dist t i j := by
  intro n
  induction n with
  | zero =>
    intro i j hn hi hj
    obtain rfl : i = 0 := by omega
    obtain rfl : j = 0 := by omega
    exact ⟨by rw [lway_self, lway_self], by rw [dist_self, dist_self]⟩
  | succ n ih =>
    intro i j hn hi hj
    rcases Nat.lt_trichotomy i j with h | h | h
    · obtain ⟨p1, p2⟩ := join_par (t := t) (o := o) (m := m) (l := l) hj (by omega)
      have hp := par_lt t (m := j) (by omega)
      obtain ⟨e1, e2⟩ := ih i (par t j) (by omega) hi (by omega)
      exact ⟨by rw [lway_lt _ h, lway_lt _ h, p1, e1], by rw [dist_lt _ h, dist_lt _ h, p1, p2, e2]⟩
    · subst h
      exact ⟨by rw [lway_self, lway_self], by rw [dist_self, dist_self]⟩
    · obtain ⟨p1, p2⟩ := join_par (t := t) (o := o) (m := m) (l := l) hi (by omega)
      have hp := par_lt t (m := i) (by omega)
      obtain ⟨e1, e2⟩ := ih (par t i) j (by omega) (by omega) hj
      exact ⟨by rw [lway_gt _ h, lway_gt _ h, p1, e1], by rw [dist_gt _ h, dist_gt _ h, p1, p2, e2]⟩
theorem join_over (hm : m ≤ t.length) {i : Nat} (hi : i ≤ t.length) : ∀ j, j ≤ o.length → lway (joinT t o m l) i (t.length + 1 + j) = lway t i m ++ (lway o 0 j).map (t.length + 1 + ·) ∧ dist (joinT t o m l) i (t.length + 1 + j) = dist t i m + l + dist o 0 j := by
  intro j
  induction j using Nat.strongRecOn with
  | _ j ih =>
    intro hj
    by_cases h0 : j = 0
    · subst h0
      obtain ⟨p1, p2⟩ := join_par0 (t := t) (o := o) (l := l) hm
      obtain ⟨e1, e2⟩ := join_way (t := t) (o := o) (m := m) (l := l) _ i m (Nat.le_refl _) hi hm
      rw [Nat.add_zero]
      refine ⟨by rw [lway_lt _ (show i < t.length + 1 by omega), p1, e1, lway_self]; rfl, ?_⟩
      rw [dist_lt _ (show i < t.length + 1 by omega), p1, p2, e2, dist_self]
      omega
    · obtain ⟨p1, p2⟩ := join_parN (t := t) (o := o) (m := m) (l := l) hj (by omega)
      have hp := par_lt o (m := j) (by omega)
      obtain ⟨e1, e2⟩ := ih (par o j) hp (by omega)
      refine ⟨?_, ?_⟩
      · rw [lway_lt _ (show i < t.length + 1 + j by omega), p1, e1, lway_lt o (show 0 < j by omega), List.map_append, List.append_assoc]
        rfl
      · rw [dist_lt _ (show i < t.length + 1 + j by omega), p1, p2, e2, dist_lt o (show 0 < j by omega)]
        omega
theorem join_in : ∀ (n a b : Nat), a + b ≤ n → a ≤ o.length → b ≤ o.length → dist (joinT t o m l) (t.length + 1 + a) (t.length + 1 + b) = dist o a b := by
  intro n
  induction n with
  | zero =>
    intro a b hn ha hb
    obtain rfl : a = 0 := by omega
    obtain rfl : b = 0 := by omega
    rw [dist_self, dist_self]
  | succ n ih =>
    intro a b hn ha hb
    rcases Nat.lt_trichotomy a b with h | h | h
    · obtain ⟨p1, p2⟩ := join_parN (t := t) (o := o) (m := m) (l := l) hb (by omega)
      have hp := par_lt o (m := b) (by omega)
      rw [dist_lt _ (show t.length + 1 + a < t.length + 1 + b by omega), p1, p2, ih a (par o b) (by omega) ha (by omega), dist_lt o h]
    · subst h
      rw [dist_self, dist_self]
    · obtain ⟨p1, p2⟩ := join_parN (t := t) (o := o) (m := m) (l := l) ha (by omega)
      have hp := par_lt o (m := a) (by omega)
      rw [dist_gt _ (show t.length + 1 + b < t.length + 1 + a by omega), p1, p2, ih (par o a) b (by omega) (by omega) hb, dist_gt o h]
end
theorem lway_rev (t : Tr) : ∀ (n i j : Nat), i + j ≤ n → lway t j i = (lway t i j).reverse := by
  intro n
  induction n with
  | zero =>
    intro i j hn
    obtain rfl : i = 0 := by omega
    obtain rfl : j = 0 := by omega
    rw [lway_self]
    rfl
  | succ n ih =>
    intro i j hn
    rcases Nat.lt_trichotomy i j with h | h | h
    · have hp := par_lt t (m := j) (by omega)
      rw [lway_lt t h, lway_gt t h, List.reverse_append, ih i (par t j) (by omega)]
      rfl
    · subst h
      rw [lway_self]
      rfl
    · have hp := par_lt t (m := i) (by omega)
      rw [lway_gt t h, lway_lt t h, List.reverse_cons, ih (par t i) j (by omega)]
section
variable {t o : Tr} {m l : Nat} {ps : List (Nat × Int)}
theorem join_falls (hne : ps ≠ []) (hp : ∀ p ∈ ps, p.1 ≤ t.length) {i : Nat} (hi : i ≤ t.length) : fallT (joinT t o m l) ps i = fallT t ps i := by
  unfold fallT
  congr 1
  exact List.map_congr_left fun p h => by rw [(join_way _ p.1 i (Nat.le_refl _) (hp p h) hi).2]
theorem join_beyond (hm : m ≤ t.length) (hne : ps ≠ []) (hp : ∀ p ∈ ps, p.1 ≤ t.length) {j : Nat} (hj : j ≤ o.length) : fallT (joinT t o m l) ps (t.length + 1 + j) = fallT t ps m + l + dist o 0 j := by
  have e : ∀ p ∈ ps, p.2 + dist (joinT t o m l) p.1 (t.length + 1 + j) = p.2 + dist t p.1 m + l + dist o 0 j := fun p h => by
    rw [(join_over hm (hp p h) j hj).2]
    omega
  obtain ⟨p, h1, e1⟩ := fallT_mem (t := t) hne m
  obtain ⟨q, h2, e2⟩ := fallT_mem (t := joinT t o m l) hne (t.length + 1 + j)
  have a1 := fallT_le (t := joinT t o m l) h1 (t.length + 1 + j)
  have a2 := fallT_le (t := t) h2 m
  rw [e p h1] at a1
  rw [e q h2] at e2
  omega
theorem join_own (ho : ∀ p ∈ ps, p.1 ≤ o.length) {j : Nat} (hj : j ≤ o.length) : fallT (joinT t o m l) (ps.map fun p => (t.length + 1 + p.1, p.2)) (t.length + 1 + j) = fallT o ps j := by
  unfold fallT
  rw [List.map_map]
  congr 1
  exact List.map_congr_left fun p h => by
    show p.2 + dist (joinT t o m l) (t.length + 1 + p.1) (t.length + 1 + j) = _
    rw [join_in _ p.1 j (Nat.le_refl _) (ho p h) hj]
theorem join_back (hm : m ≤ t.length) (hne : ps ≠ []) (ho : ∀ p ∈ ps, p.1 ≤ o.length) : fallT (joinT t o m l) (ps.map fun p => (t.length + 1 + p.1, p.2)) m = fallT o ps 0 + l := by
  have e : ∀ p ∈ ps, p.2 + dist (joinT t o m l) (t.length + 1 + p.1) m = p.2 + dist o p.1 0 + l := fun p h => by
    rw [dist_comm, (join_over hm hm p.1 (ho p h)).2, dist_self, dist_comm o 0]
    omega
  have hne2 : (ps.map fun p => (t.length + 1 + p.1, p.2)) ≠ [] := fun z => hne (List.map_eq_nil_iff.mp z)
  obtain ⟨p, h1, e1⟩ := fallT_mem (t := o) hne 0
  obtain ⟨q, h2, e2⟩ := fallT_mem (t := joinT t o m l) hne2 m
  have a1 := fallT_le (t := joinT t o m l) (ps := ps.map fun p => (t.length + 1 + p.1, p.2)) (List.mem_map.mpr ⟨p, h1, rfl⟩) m
  obtain ⟨r, h3, rfl⟩ := List.mem_map.mp h2
  have a2 := fallT_le (t := o) h3 0
  have b1 := e p h1
  have b2 := e r h3
  dsimp only at a1 e2
  omega
end
theorem need_sem {t : Tr} (ht : TreeOk t) {xs : List Int} (hl : Lip t xs) {m : Nat} (hm : m ≤ t.length) : needB t xs m = true ↔ ∀ i, i ≤ t.length → i ≠ m → xs.getD m 0 < xs.getD i 0 + dist t i m := by
  constructor
  · exact fun h i hi hne => need_far ht hl hi hm hne h
  · intro h
    unfold needB
    refine List.all_eq_true.mpr fun q hq => decide_eq_true ?_
    obtain ⟨d1, h1, h2⟩ := near_dist ht hm hq
    have := h q.1 h1 (fun z => by rw [z, dist_self] at d1; omega)
    rw [dist_comm, d1] at this
    exact this
section
variable {t o : Tr} {m l : Nat} {ps : List (Nat × Int)}
theorem join_tab (hm : m ≤ t.length) (hne : ps ≠ []) (hp : ∀ p ∈ ps, p.1 ≤ t.length) : fallsT (joinT t o m l) ps = fallsT t ps ++ (List.range (o.length + 1)).map fun j => fallT t ps m + l + dist o 0 j := by
  refine ext_getD (by rw [fallsT_len, join_len, List.length_append, fallsT_len, List.length_map, List.length_range]; omega) fun i hi => ?_
  rw [fallsT_len, join_len] at hi
  rw [fallsT_getD _ _ (by rw [join_len]; omega), List.getD_eq_getElem?_getD]
  by_cases h : i ≤ t.length
  · rw [List.getElem?_append_left (by rw [fallsT_len]; omega), ← List.getD_eq_getElem?_getD, fallsT_getD t ps h, join_falls hne hp h]
  · obtain ⟨j, rfl⟩ : ∃ j, i = t.length + 1 + j := ⟨i - t.length - 1, by omega⟩
    rw [List.getElem?_append_right (by rw [fallsT_len]; omega), fallsT_len, show t.length + 1 + j - (t.length + 1) = j by omega, List.getElem?_map, List.getElem?_range (by omega), join_beyond hm hne hp (by omega)]
    rfl
theorem join_need (ht : TreeOk t) (ho : TreeOk o) (hm : m ≤ t.length) (h1 : 1 ≤ l) (h2 : l ≤ 1000000) (hl : t.length + 1 + o.length ≤ 11) (hne : ps ≠ []) (hp : ∀ p ∈ ps, p.1 ≤ t.length) : needP (joinT t o m l) (fallsT (joinT t o m l) ps) = needP t (fallsT t ps) := by
  have hw := join_ok ht ho hm h1 h2 hl
  have hwl := join_len t o m l
  have lw := fallsT_lip (t := joinT t o m l) hne
  have lt := fallsT_lip (t := t) hne
  have hA : ∀ i, i ≤ t.length → needB (joinT t o m l) (fallsT (joinT t o m l) ps) i = needB t (fallsT t ps) i := fun i hi => by
    rw [Bool.eq_iff_iff, need_sem hw lw (by omega), need_sem ht lt hi]
    constructor
    · intro h k hk hne2
      have := h k (by omega) hne2
      rw [fallsT_getD _ _ (by omega), fallsT_getD _ _ (by omega), join_falls hne hp hi, join_falls hne hp hk, (join_way _ k i (Nat.le_refl _) hk hi).2] at this
      rw [fallsT_getD _ _ hi, fallsT_getD _ _ hk]
      exact this
    · intro h k hk hne2
      rw [fallsT_getD _ _ (by omega), fallsT_getD _ _ (by omega), join_falls hne hp hi]
      by_cases hkt : k ≤ t.length
      · have := h k hkt hne2
        rw [fallsT_getD _ _ hi, fallsT_getD _ _ hkt] at this
        rw [join_falls hne hp hkt, (join_way _ k i (Nat.le_refl _) hkt hi).2]
        exact this
      · obtain ⟨j, rfl⟩ : ∃ j, k = t.length + 1 + j := ⟨k - t.length - 1, by omega⟩
        rw [join_beyond hm hne hp (by omega), dist_comm (joinT t o m l) (t.length + 1 + j) i, (join_over hm hi j (by omega)).2]
        have h3 := lt i m hi hm
        rw [fallsT_getD _ _ hi, fallsT_getD _ _ hm] at h3
        have h4 := dist_nonneg o 0 j
        omega
  have hB : ∀ j, j ≤ o.length → needB (joinT t o m l) (fallsT (joinT t o m l) ps) (t.length + 1 + j) = false := fun j hj => by
    rw [Bool.eq_false_iff]
    intro z
    have := (need_sem hw lw (by omega)).mp z m (by omega) (by omega)
    rw [fallsT_getD _ _ (by omega), fallsT_getD _ _ (by omega), join_falls hne hp hm, join_beyond hm hne hp hj, (join_over hm hm j hj).2, dist_self] at this
    omega
  have e : needP (joinT t o m l) (fallsT (joinT t o m l) ps) = (fallsT t ps ++ (List.range (o.length + 1)).map fun j => fallT t ps m + l + dist o 0 j).zipIdx.filterMap fun q => if needB (joinT t o m l) (fallsT (joinT t o m l) ps) q.2 = true then some (q.2, q.1) else none := by
    unfold needP
    rw [← join_tab hm hne hp]
  rw [e, List.zipIdx_append, List.filterMap_append]
  have e2 : (((List.range (o.length + 1)).map fun j => fallT t ps m + l + dist o 0 j).zipIdx (0 + (fallsT t ps).length)).filterMap (fun q => if needB (joinT t o m l) (fallsT (joinT t o m l) ps) q.2 = true then some (q.2, q.1) else none) = [] := by
    refine List.filterMap_eq_nil_iff.mpr fun q hq => ?_
    obtain ⟨i, hi, ei⟩ := List.getElem_of_mem hq
    have h3 := List.getElem?_eq_getElem hi
    rw [ei, List.getElem?_zipIdx] at h3
    rw [List.length_zipIdx, List.length_map, List.length_range] at hi
    rw [List.getElem?_map, List.getElem?_range hi, Nat.zero_add, fallsT_len] at h3
    have h4 : q.2 = t.length + 1 + i := by
      have h5 := Option.some.inj h3
      rw [← h5]
    rw [h4, hB i (by omega), if_neg (by decide)]
  rw [e2, List.append_nil]
  unfold needP
  refine fm_congr fun q hq => ?_
  have h3 := idx_mem hq
  have h4 := (List.getElem?_eq_some_iff.mp h3).1
  rw [fallsT_len] at h4
  rw [hA q.2 (by omega)]
end
end DL

set_option maxHeartbeats 1000000
/-! DLT: dicts that nobody changes: displays, repr. -/
namespace DL
open PySem PySem.Spec PyProof.Rows L2 MT
def keyPy : Key → PyData
  | .inl i => .int i
  | .inr x => .str x
mutual
def toPyE : D → PyData
  | .non => .none
  | .bl b => .bool b
  | .int i => .int i
  | .str x => .str x
  | .tup ds => .tuple (toPyEs ds)
  | .lst ds => .list (toPyEs ds)
  | .dct ks ds => .dict ((ks.map keyPy).zip (toPyEs ds))
  | .ref _ => .none
  | .scr _ => .none
  | .exo _ _ _ _ _ => .none
def toPyEs : List D → List PyData
  | [] => []
  | d :: ds => toPyE d :: toPyEs ds
end
mutual
/-- tuples and dicts, no lists -/
def pe : D → Bool
  | .non | .bl _ | .int _ | .str _ => true
  | .tup ds => pes ds
  | .dct _ ds => pes ds
  | .lst _ | .ref _ | .scr _ | .exo _ _ _ _ _ => false
def pes : List D → Bool
  | [] => true
  | d :: ds => pe d && pes ds
end
section
variable {X : Cx} {pins : List (Addr × Obj)} {σ : L2.St} {H F : Hp} {s : Shared} {al : List Addr}
theorem pairs_read {h : Heap} : ∀ {ks : List Key} {xs : List V} {vs : List (Key × Value)} {ds : List PyData}, ks.length = xs.length → KV (ks.zip xs) vs → (∀ us, Vals xs us → ∃ as, ReadsAll h us ds as ∧ sysModules ∉ as) → ∃ bs, PyProof.V.PairsRead h keyPy vs ((ks.map keyPy).zip ds) bs ∧ sysModules ∉ bs := by
  intro ks xs vs ds hl kv hr
  have hv : Vals xs (vs.map (·.2)) ∧ vs.map (·.1) = ks := by
    clear hr
    induction ks generalizing xs vs with
    | nil =>
      cases xs with
      | nil => cases kv; exact ⟨.nil, rfl⟩
      | cons _ _ => cases hl
    | cons k ks ih =>
      cases xs with
      | nil => cases hl
      | cons x xs =>
        rw [List.zip_cons_cons] at kv
        cases kv with
        | cons h t =>
          obtain ⟨i1, i2⟩ := ih (by simpa using hl) t
          exact ⟨.cons h.2 i1, by rw [List.map_cons, i2, ← h.1]⟩
  obtain ⟨as, ra, ns⟩ := hr _ hv.1
  obtain ⟨hv1, rfl⟩ := hv
  clear kv hl hr hv1
  induction vs generalizing ds as with
  | nil => cases ra; exact ⟨[], .nil, by simp⟩
  | cons q vs ih =>
    obtain ⟨k, v⟩ := q
    cases ra with
    | cons r1 r2 =>
      obtain ⟨bs, p, nb⟩ := ih (as := _) r2 (fun z => ns (List.mem_append_right _ z))
      exact ⟨_, .cons r1 p, fun z => by
        rcases List.mem_append.mp z with z | z
        · exact ns (List.mem_append_left _ z)
        · exact nb z⟩
mutual
theorem readsE (I : L2.Inv X pins σ H s) (sm : Sm F H) : ∀ {d : D} {v : V} {u : Value}, Rp X.K F al v d → pe d = true → RelV v u → ∃ as, Reads s.heap u (toPyE d) as ∧ sysModules ∉ as
  | .non, _, _, h, _, r => by
    cases h
    obtain rfl : _ = Value.none := r
    exact ⟨[], .none, by simp⟩
  | .bl b, _, _, h, _, r => by
    cases h
    obtain rfl : _ = Value.bool b := r
    exact ⟨[], .bool b, by simp⟩
  | .int i, _, _, h, _, r => by
    cases h
    obtain ⟨t, rfl⟩ := r
    exact ⟨[], .int i t, by simp⟩
  | .str x, _, _, h, _, r => by
    cases h
    obtain ⟨t, rfl⟩ := r
    exact ⟨[], .str x t, by simp⟩
  | .tup ds, _, _, h, hp, r => by
    cases h with
    | tup a b =>
      obtain rfl : _ = Value.ref _ := r
      obtain ⟨its, rv, ⟨o, ho, hc, n, hd⟩, _⟩ := I.tuple (SqT.of (sm _ _ a))
      obtain ⟨as, ra, ns⟩ := readsEs I sm b hp rv
      exact ⟨as, .tuple ho hc hd (by simpa using ra), ns⟩
  | .dct ks ds, _, _, h, hp, r => by
    cases h with
    | dct a l b =>
      obtain rfl : _ = Value.ref _ := r
      obtain ⟨_, hne, vs, kv, dd⟩ := dk_of I.hok (sm _ _ a)
      obtain ⟨bs, pr, nb⟩ := pairs_read l kv fun us hu => readsEs I sm b hp hu
      refine ⟨_, PyProof.V.reads_dictOf (fun k key hk => ?_) dd pr, fun z => ?_⟩
      · rcases keyIs_shape hk with ⟨i, t, rfl, rfl⟩ | ⟨x, t, rfl, rfl⟩
        · exact .int i t
        · exact .str x t
      · rcases List.mem_cons.mp z with z | z
        · rw [← z] at hne
          simp at hne
        · exact nb z
  | .lst _, _, _, _, hp, _ => by cases hp
  | .ref _, _, _, _, hp, _ => by cases hp
  | .scr _, _, _, _, hp, _ => by cases hp
  | .exo _ _ _ _ _, _, _, _, hp, _ => by cases hp
theorem readsEs (I : L2.Inv X pins σ H s) (sm : Sm F H) : ∀ {ds : List D} {vs : List V} {us : List Value}, Rps X.K F al vs ds → pes ds = true → Vals vs us → ∃ as, ReadsAll s.heap us (toPyEs ds) as ∧ sysModules ∉ as
  | [], _, _, h, _, r => by
    cases h
    cases r
    exact ⟨[], .nil, by simp⟩
  | d :: ds, _, _, h, hp, r => by
    cases h with
    | cons a b =>
      cases r with
      | cons r1 r2 =>
        have hp' : pe d = true ∧ pes ds = true := by simpa [pes] using hp
        obtain ⟨as, x1, n1⟩ := readsE I sm a hp'.1 r1
        obtain ⟨bs, x2, n2⟩ := readsEs I sm b hp'.2 r2
        exact ⟨as ++ bs, .cons x1 x2, fun z => by
          rcases List.mem_append.mp z with z | z
          · exact n1 z
          · exact n2 z⟩
end
end
def showE (d : D) : Prop := pe d = true ∧ (toPyE d).showable = true ∧ (toPyE d).depth ≤ 60 ∧ (toPyE d).shown.length ≤ sizeLine
/-- repr of data with or without dicts -/
def gReprE : G1 := fun d M Q => (showOk d M ∧ Q (.str (toPy (vw d M)).shown) M) ∨ (showE d ∧ Q (.str (toPyE d).shown) M)
theorem gReprE_mono : Mono1 gReprE := fun d M Q Q' w q => q.imp (fun q => ⟨q.1, w _ _ q.2⟩) fun q => ⟨q.1, w _ _ q.2⟩
section
variable {X : Cx} {pos : Pos}
theorem o_reprE (hgd : X.A.guards = some []) (hu : X.A.units + 64 < cLine) : ON X (.builtin "repr") (g1 gReprE) := by
  refine ⟨fun pins s σ al F G H M xs us ds Q I rv W rs q => ?_, g1_mono gReprE_mono⟩
  match ds, rs, q with
  | [], _, q => exact q.elim
  | _ :: _ :: _, _, q => exact q.elim
  | [d], .cons r .nil, q =>
    rcases q with q | q
    · exact (o_repr hgd hu).run pins s σ al F G H M _ us [d] Q I rv W (.cons r .nil) q
    · cases rv with
      | cons r1 r2 =>
        cases r2
        obtain ⟨⟨h1, h2, h3, h4⟩, k⟩ := q
        obtain ⟨as, rd, ns⟩ := readsE I W.sm r h1 r1
        have fin : ∀ (h' : Heap) (u : Tok) (tk : Nat), (∀ b o, s.heap.get? b = some o → h'.get? b = some o) → EP X pins σ Q (.str (toPyE d).shown u) { s with heap := h', toks := tk } :=
          fun h' u tk hk => ⟨.str _, H, I.kept hk, ⟨u, rfl⟩, kont.here k W (.str _)⟩
        match d, r, rd, h1, h2, h3, h4, fin with
        | .tup ds, .tup _ _, rd, h1, h2, h3, h4, fin =>
          obtain rfl : _ = Value.ref _ := r1
          exact repr_of_reads' rd h2 (fun _ => ns) hgd (by omega) (fun _ _ z => z) fin h4
        | .dct ks ds, .dct _ _ _, rd, h1, h2, h3, h4, fin =>
          obtain rfl : _ = Value.ref _ := r1
          exact repr_of_reads' rd h2 (fun _ => ns) hgd (by omega) (fun _ _ z => z) fin h4
        | .int i, _, .int _ t, h1, h2, h3, h4, fin =>
          have hz : i.natAbs.log2 < 1920 := by simpa [toPyE, PyData.showable] using h2
          exact PySem.P.repr_of_int hz (fin s.heap s.toks (s.toks + 1) fun _ _ z => z)
        | .non, _, .none, h1, h2, h3, h4, fin => exact PySem.P.repr_of_none (fin s.heap s.toks (s.toks + 1) fun _ _ z => z)
        | .bl i, _, .bool _, h1, h2, h3, h4, fin => exact PySem.P.repr_of_bool (fin s.heap s.toks (s.toks + 1) fun _ _ z => z)
        | .str i, _, .str _ _, h1, h2, h3, h4, fin => exact PySem.P.repr_of_str (fin s.heap s.toks (s.toks + 1) fun _ _ z => z) h4
/-- {} -/
theorem d_dct0 : DE X (.Dict [] [] pos) (dC (.dct [] [])) := by
  refine ⟨PE.of pe_dnewK fun σ H Q ⟨ρ, M, al, F, G, W, s, q⟩ p hp => ?_, fun _ _ _ _ w q => w _ _ q⟩
  obtain ⟨W', e⟩ := W.newF (o := .dK []) hp
  exact q al _ _ _ e W' (.dct (ks := []) (xs := []) upd_same rfl .nil)
theorem upd_upd {H : Hp} {p : Addr} {a b : HO} : upd (upd H p a) p b = upd H p b := by
  funext x
  by_cases h : x = p
  · subst h; rw [upd_same, upd_same]
  · rw [upd_ne h, upd_ne h, upd_ne h]
/-- {'a': 0} -/
theorem d_dct1 {x : Str} {i : Int} {j1 j2 : Nat} {p1 p2 : Pos} : DE X (.Dict [some (.Constant (.str x) j1 p1)] [.Constant (.int i) j2 p2] pos) (dC (.dct [.inr x] [.int i])) := by
  refine ⟨PE.of (pe_disp (pps_cons pe_str pe_int pps_nil) rfl rfl (by simp) (by simp)) fun σ H Q ⟨ρ, M, al, F, G, W, s, q⟩ p hp => ?_, fun _ _ _ _ w q => w _ _ q⟩
  refine ⟨upd_same, [(.inr x, .int i)], rfl, by simp, ?_⟩
  rw [upd_upd]
  obtain ⟨W', e⟩ := W.newF (o := .dK (mergeK [] [(.inr x, .int i)])) hp
  exact q al _ _ _ e W' (.dct (ks := [.inr x]) (xs := [.int i]) upd_same rfl (.cons (.int i) .nil))
end
end DL

set_option maxHeartbeats 1000000
/-! DLU: odd values: what repr shows of them. -/
namespace DL
open PySem PySem.Spec PyProof.Rows L2 MT
structure ShEOk (n h : Nat) (d : D) : Prop where
  pe : DL.pe d = true
  showable : (toPyE d).showable = true
  depth : (toPyE d).depth ≤ h
  len : (toPyE d).shown.length ≤ n
inductive ShE : Nat → Nat → D → Prop
  | non : ShE 4 0 .non
  | bl (b : Bool) : ShE 5 0 (.bl b)
  | int {i : Int} {n : Nat} (h : Sh n 0 (.int i)) : ShE n 0 (.int i)
  | str {x : Str} {n : Nat} (h : (reprText x).length ≤ n) : ShE n 0 (.str x)
  | dct {n h : Nat} {ks : List Key} {ds : List D} (ok : ShEOk n h (.dct ks ds)) : ShE n h (.dct ks ds)
  | tup {n h m : Nat} {ds : List D} (hd : ∀ d ∈ ds, ShE n h d) (hl : ds.length ≤ m) : ShE (m * (n + 2) + 3) (h + 1) (.tup ds)
  | up {n h n' h' : Nat} {d : D} (s : ShE n h d) (hn : n ≤ n') (hh : h ≤ h') : ShE n' h' d
theorem shEAll {n h : Nat} : ∀ {ds : List D}, (∀ d ∈ ds, ShEOk n h d) → DL.pes ds = true ∧ PyData.showableAll (toPyEs ds) = true ∧ PyData.depthAll (toPyEs ds) ≤ h ∧ ((PyData.shownAll (toPyEs ds)).map (·.length)).sum ≤ ds.length * n ∧ (PyData.shownAll (toPyEs ds)).length = ds.length
  | [], _ => ⟨rfl, rfl, Nat.zero_le _, Nat.zero_le _, rfl⟩
  | d :: ds, hd => by
    obtain ⟨a1, a2, a3, a4⟩ := hd d List.mem_cons_self
    obtain ⟨b1, b2, b3, b4, b5⟩ := shEAll (ds := ds) fun x hx => hd x (List.mem_cons_of_mem _ hx)
    refine ⟨?_, ?_, ?_, ?_, ?_⟩
    · show (DL.pe d && DL.pes ds) = true
      rw [a1, b1]; rfl
    · show (PyData.showable (toPyE d) && PyData.showableAll (toPyEs ds)) = true
      rw [a2, b2]; rfl
    · show max (PyData.depth (toPyE d)) (PyData.depthAll (toPyEs ds)) ≤ h
      exact Nat.max_le.mpr ⟨a3, b3⟩
    · show (PyData.shown (toPyE d)).length + ((PyData.shownAll (toPyEs ds)).map (·.length)).sum ≤ (ds.length + 1) * n
      rw [Nat.add_mul]
      omega
    · show (PyData.shownAll (toPyEs ds)).length + 1 = ds.length + 1
      rw [b5]
theorem ShE.ok' {n h : Nat} {d : D} (s : ShE n h d) : ShEOk n h d := by
  induction s with
  | non => exact ⟨rfl, rfl, Nat.le_refl _, by decide +kernel⟩
  | bl b => exact ⟨rfl, rfl, Nat.zero_le _, by cases b <;> decide +kernel⟩
  | int h => exact ⟨rfl, h.ok'.showable, Nat.zero_le _, h.ok'.len⟩
  | str h => exact ⟨rfl, rfl, Nat.zero_le _, h⟩
  | dct h => exact h
  | @tup n h m ds hd hl ih =>
    obtain ⟨b1, b2, b3, b4, b5⟩ := shEAll ih
    refine ⟨b1, b2, Nat.succ_le_succ b3, ?_⟩
    show (tupleText (PyData.shownAll (toPyEs ds))).length ≤ _
    refine Nat.le_trans (tupleText_len_le _) ?_
    rw [b5, Nat.mul_add]
    have := Nat.mul_le_mul_right n hl
    omega
  | up s hn hh ih => exact ⟨ih.pe, ih.showable, Nat.le_trans ih.depth hh, Nat.le_trans ih.len hn⟩
theorem shE_dct0 : ShE 100 1 (.dct [] []) := .dct ⟨rfl, by decide +kernel, by decide +kernel, by decide +kernel⟩
theorem shE_dct1 : ShE 100 1 (.dct [.inr "a"] [.int 0]) := .dct ⟨rfl, by decide +kernel, by decide +kernel, by decide +kernel⟩
/-- its repr is one text, whatever the store -/
def Rv (d : D) : Prop := ∃ z : Str, ∀ (M : Sto) (Q : DK), Q (.str z) M → gReprE d M Q
theorem Sh.rv {n h : Nat} {d : D} (s : Sh n h d) (hn : n ≤ 16000000) (hh : h ≤ 60) : Rv d := ⟨(toPy d).shown, fun M Q q => .inl ⟨s.ok hn hh M, by rw [s.vw M]; exact q⟩⟩
theorem ShE.rv {n h : Nat} {d : D} (s : ShE n h d) (hn : n ≤ 16000000) (hh : h ≤ 60) : Rv d := ⟨(toPyE d).shown, fun M Q q => .inr ⟨⟨s.ok'.pe, s.ok'.showable, Nat.le_trans s.ok'.depth hh, Nat.le_trans s.ok'.len (Nat.le_trans hn (by decide))⟩, q⟩⟩
/-- one way or the other -/
def One (n h : Nat) (d : D) : Prop := Sh n h d ∨ ShE n h d
def Both (n h : Nat) (d : D) : Prop := Sh n h d ∧ ShE n h d
theorem Both.up {n h n' h' : Nat} {d : D} (s : Both n h d) (hn : n ≤ n') (hh : h ≤ h') : Both n' h' d := ⟨s.1.up hn hh, s.2.up hn hh⟩
theorem One.up {n h n' h' : Nat} {d : D} (s : One n h d) (hn : n ≤ n') (hh : h ≤ h') : One n' h' d := s.imp (fun s => s.up hn hh) fun s => s.up hn hh
theorem One.rv {n h : Nat} {d : D} (s : One n h d) (hn : n ≤ 16000000) (hh : h ≤ 60) : Rv d := s.elim (fun s => s.rv hn hh) fun s => s.rv hn hh
theorem Both.one {n h : Nat} {d : D} (s : Both n h d) : One n h d := .inl s.1
theorem Both.tup {n h m : Nat} {ds : List D} (hd : ∀ d ∈ ds, Both n h d) (hl : ds.length ≤ m) : Both (m * (n + 2) + 3) (h + 1) (.tup ds) := ⟨.tup (fun d h => (hd d h).1) hl, .tup (fun d h => (hd d h).2) hl⟩
/-- a tuple of which one item may be odd -/
theorem One.tup {n h m : Nat} {as bs : List D} {d : D} (h1 : ∀ x ∈ as, Both n h x) (h2 : One n h d) (h3 : ∀ x ∈ bs, Both n h x) (hl : (as ++ d :: bs).length ≤ m) : One (m * (n + 2) + 3) (h + 1) (.tup (as ++ d :: bs)) := by
  rcases h2 with h2 | h2
  · refine .inl (.tup (fun x hx => ?_) hl)
    rcases List.mem_append.mp hx with z | z
    · exact (h1 x z).1
    · rcases List.mem_cons.mp z with rfl | z
      · exact h2
      · exact (h3 x z).1
  · refine .inr (.tup (fun x hx => ?_) hl)
    rcases List.mem_append.mp hx with z | z
    · exact (h1 x z).2
    · rcases List.mem_cons.mp z with rfl | z
      · exact h2
      · exact (h3 x z).2
theorem Both.int {i : Int} {n : Nat} (h : Sh n 0 (.int i)) : Both n 0 (.int i) := ⟨h, .int h⟩
mutual
/-- no place of the store, no script, no exception within -/
def od : D → Bool
  | .non | .bl _ | .int _ | .str _ => true
  | .tup ds => ods ds
  | .lst _ => true
  | .dct _ _ => true
  | .ref _ | .scr _ | .exo _ _ _ _ _ => false
def ods : List D → Bool
  | [] => true
  | d :: ds => od d && ods ds
end
theorem ods_iff {ds : List D} : ods ds = true ↔ ∀ d ∈ ds, od d = true := by
  induction ds with
  | nil => simp [ods]
  | cons d ds ih => simp [ods, ih]
def numB (lo hi : Int) : D → Bool
  | .int i => decide (lo ≤ i ∧ i ≤ hi)
  | _ => false
def rowE (k : Nat) : D → Bool
  | .tup [a, b] => numB 0 k a && numB 1 1000000 b
  | _ => false
def firstBad : Nat → List D → Option Nat
  | _, [] => none
  | k, d :: ds => if rowE k d = true then firstBad (k + 1) ds else some k
theorem bad_miss : ∀ {ds : List D} {k : Nat}, (∀ (j : Nat) (d : D), ds[j]? = some d → rowE (k + j) d = true) → firstBad k ds = none
  | [], _, _ => rfl
  | d :: ds, k, h => by
    unfold firstBad
    rw [if_pos (show rowE k d = true from h 0 d rfl)]
    exact bad_miss fun j e he => by
      have := h (j + 1) e he
      rw [show k + 1 + j = k + (j + 1) by omega]
      exact this
theorem bad_hit : ∀ {ds : List D} {k i : Nat} {d : D}, (∀ (j : Nat) (d : D), j < i → ds[j]? = some d → rowE (k + j) d = true) → ds[i]? = some d → rowE (k + i) d = false → firstBad k ds = some (k + i)
  | [], _, _, _, _, e, _ => by simp at e
  | d :: ds, k, 0, x, h, e, hb => by
    have : d = x := by simpa using e
    subst this
    unfold firstBad
    rw [if_neg (by rw [show rowE k d = false from hb]; decide)]
    rfl
  | d :: ds, k, i + 1, x, h, e, hb => by
    unfold firstBad
    rw [if_pos (show rowE k d = true from h 0 d (by omega) rfl)]
    rw [bad_hit (ds := ds) (k := k + 1) (i := i) (d := x) (fun j y hj ey => by
      have := h (j + 1) y (by omega) ey
      rw [show k + 1 + j = k + (j + 1) by omega]
      exact this) (by simpa using e) (by rw [show k + 1 + i = k + (i + 1) by omega]; exact hb), show k + 1 + i = k + (i + 1) by omega]
def badD : D := .tup [.non, .str "tree"]
def errD : D → D
  | .tup ds => if ds.length ≤ 11 then match firstBad 0 ds with
    | none => .non
    | some k => .tup [natD k, .str "row"]
    else badD
  | _ => badD
end DL

set_option maxHeartbeats 1000000
/-! DLV: instances of the program's own classes: fields, making. -/
namespace DL
open PySem PySem.Spec PyProof.Rows L2 MT
theorem cell_ins {K : PySem.W.Frag} {al : List Addr} {F G H : Hp} {M : Sto} {v : V} {n : Nat} {C : Addr} {fs : List (Str × D)} (W : Wd K al F G H M) (r : Rp K F al v (.ref n)) (e : M[n]? = some (.ins C fs)) : ∃ p dx vs, v = .ref p ∧ al[n]? = some p ∧ H p = some (.ins C dx vs) ∧ vs.map (·.1) = fs.map (·.1) ∧ Rps K F al (vs.map (·.2)) (fs.map (·.2)) := by
  cases r with
  | ref h =>
    obtain ⟨dx, vs, h1, h2, h3⟩ := W.cel n _ _ e h
    exact ⟨_, dx, vs, rfl, h, h1, h2, h3⟩
theorem zip_self {α β : Type} : ∀ l : List (α × β), (l.map (·.1)).zip (l.map (·.2)) = l
  | [] => rfl
  | x :: l => by rw [List.map_cons, List.map_cons, List.zip_cons_cons, zip_self l]
theorem look_fld {K : PySem.W.Frag} {F : Hp} {al : List Addr} {vs : List (Str × V)} {fs : List (Str × D)} {f : Str} {d : D} (h1 : vs.map (·.1) = fs.map (·.1)) (h2 : Rps K F al (vs.map (·.2)) (fs.map (·.2))) (h : fs.lookup f = some d) : ∃ u, vs.lookup f = some u ∧ Rp K F al u d := by
  rw [← zip_self fs] at h
  obtain ⟨u, a, b⟩ := look_rps f h2 h
  rw [← h1, zip_self] at a
  exact ⟨u, a, b⟩
def putD (f : Str) (y : D) : List (Str × D) → List (Str × D)
  | [] => [(f, y)]
  | (g, x) :: r => if g = f then (g, y) :: r else (g, x) :: putD f y r
theorem put_rel {K : PySem.W.Frag} {F : Hp} {al : List Addr} {f : Str} {v : V} {y : D} (hv : Rp K F al v y) : ∀ {vs : List (Str × V)} {fs : List (Str × D)}, vs.map (·.1) = fs.map (·.1) → Rps K F al (vs.map (·.2)) (fs.map (·.2)) → (putF f v vs).map (·.1) = (putD f y fs).map (·.1) ∧ Rps K F al ((putF f v vs).map (·.2)) ((putD f y fs).map (·.2))
  | [], [], _, _ => ⟨rfl, .cons hv .nil⟩
  | [], _ :: _, h, _ => by cases h
  | _ :: _, [], h, _ => by cases h
  | (g, x) :: vs, (g', d) :: fs, h, r => by
    rw [List.map_cons, List.map_cons] at h r
    have hg : g = g' := (List.cons.inj h).1
    have ht := (List.cons.inj h).2
    subst hg
    cases r with
    | cons r1 r2 =>
      unfold putF putD
      by_cases e : g = f
      · rw [if_pos e, if_pos e]
        exact ⟨by rw [List.map_cons, List.map_cons, ht], .cons hv r2⟩
      · rw [if_neg e, if_neg e]
        obtain ⟨i1, i2⟩ := put_rel hv ht r2
        exact ⟨by rw [List.map_cons, List.map_cons, i1], .cons r1 i2⟩
section
variable {X : Cx} {o e value : Expr} {fo fe fv : DTE} {pos pos' : Pos}
@[reducible] def dFld (K : PySem.W.Frag) (f : Str) (fe : DTE) : DTE := fun ρ M Q => fe ρ M fun x M1 => match x with
  | .ref n => match M1[n]? with
    | some (.ins C fs) => Cls K C ∧ NoAttr K C f ∧ match fs.lookup f with
      | some d => Q d M1
      | none => False
    | _ => False
  | _ => False
/-- e.f -/
theorem d_fld {f : Str} (h : DE X e fe) (hb : attributeBase e f X.env (eval e X.env) = eval e X.env := by rfl) : DE X (.Attribute e f pos) (dFld X.K f fe) := by
  refine ⟨PE.of (pe_fld h.pe hb) fun σ H Q ⟨ρ, M, al, F, G, W, s, q⟩ => ?_, fun ρ M Q Q' w q => h.mono _ _ _ _ (fun x M1 q1 => ?_) q⟩
  · refine h.seq W s q fun x M1 al1 F1 H1 v q1 e1 W1 r1 s1 => ?_
    cases x with
    | ref n =>
      dsimp only at q1
      split at q1
      · next C fs em =>
        obtain ⟨c1, c2, q2⟩ := q1
        split at q2
        · next d ed =>
          obtain ⟨p, dx, vs, rfl, _, h2, h3, h4⟩ := cell_ins W1 r1 em
          obtain ⟨u, h5, h6⟩ := look_fld h3 h4 ed
          exact ⟨p, C, dx, vs, u, rfl, h2, c1, c2, h5, q2 al1 F1 H1 u e1 W1 h6⟩
        · exact q2.elim
      · exact q1.elim
    | _ => exact q1.elim
  · cases x with
    | ref n =>
      dsimp only at q1 ⊢
      split at q1
      · obtain ⟨c1, c2, q2⟩ := q1
        refine ⟨c1, c2, ?_⟩
        split at q2
        · exact w _ _ q2
        · exact q2.elim
      · exact q1.elim
    | _ => exact q1.elim
@[reducible] def dSetF (K : PySem.W.Frag) (f : Str) (fo fv : DTE) : DTS := fun D ρ M => fv ρ M fun y M1 => fo ρ M1 fun x M2 => match x with
  | .ref n => match M2[n]? with
    | some (.ins C fs) => Cls K C ∧ NoAttr K C f ∧ fs.length < 1000 ∧ D.nx ρ (M2.set n (.ins C (putD f y fs)))
    | _ => False
  | _ => False
/-- o.f = value -/
theorem ds_fld {f : Str} (ho : DE X o fo) (hv : DE X value fv) (hs : swapsWith value (some (.Attribute o f pos')) pos.line X.env = pure false := by rfl) : DS X (.Assign [.Attribute o f pos'] value pos) (dSetF X.K f fo fv) := by
  refine ⟨PS.of (ps_fld ho.pe hv.pe hs) fun E σ H ⟨ρ, M, al, F, G, W, s, q⟩ => ?_, fun D D' ρ M w q => hv.mono _ _ _ _ (fun y M1 q1 => ho.mono _ _ _ _ (fun x M2 q2 => ?_) q1) q⟩
  · refine hv.seq W s q fun y M1 al1 F1 H1 u q1 e1 W1 r1 s1 => ?_
    refine ho.seq W1 s1 q1 fun x M2 al2 F2 H2 v q2 e2 W2 r2 s2 => ?_
    cases x with
    | ref n =>
      dsimp only at q2
      split at q2
      · next C fs em =>
        obtain ⟨c1, c2, c3, q3⟩ := q2
        obtain ⟨p, dx, vs, rfl, h1, h2, h3, h4⟩ := cell_ins W2 r2 em
        have hl : vs.length = fs.length := by
          have := congrArg List.length h3
          simpa using this
        obtain ⟨i1, i2⟩ := put_rel (f := f) (r1.ext e2) h3 h4
        exact ⟨p, C, dx, vs, rfl, h2, c1, c2, by omega, q3 al2 F2 _ σ (e1.trans e2) (W2.write h1 ⟨dx, _, upd_same, i1, i2⟩) s2.sl rfl⟩
      · exact q2.elim
    | _ => exact q2.elim
  · cases x with
    | ref n =>
      dsimp only at q2 ⊢
      split at q2
      · exact ⟨q2.1, q2.2.1, q2.2.2.1, w.nx _ _ q2.2.2.2⟩
      · exact q2.elim
    | _ => exact q2.elim
end
/-! ### making -/
theorem make_guards {A : Around} (h : A.guards = some []) (C : Addr) (us : List Value) (kw : List (Str × Value)) : (A.under (.builtin "type.__call__" ⟨.ref C :: us, kw⟩)).guards = some [] := by
  first | exact h | simpa [Around.under, Code.isGuard, guardIds] using h
section
variable {X : Cx} {CX : CXT} {a : Expr} {es : List Expr} {fr : DTA} {pos p : Pos} {x : Str} {k : Nat} {C f : Addr} {fd : FuncData} {ps : List Str} {sp : Sp} {t : TA}
theorem runG_make {pins : List (Addr × Obj)} {σ : L2.St} {H : Hp} {s : Shared} {Q : VK} {us : List Value} {vs : List V} {E : L2.St → XK} (Mk0 : Mk X.K C f) (F : FnG X.prog X.w X.K X.mg X.base CX k f fd ps sp) (hgd : X.A.guards = some []) (hr : Room (k + 1) X.A) (hb : Binds X.K fd ps []) (hx : PassesAt CX X σ (E σ))
    (I : L2.Inv X pins σ H s) (r : Vals vs us) (h : ∀ x dx, H x = none → H dx = none → dx ≠ x → sp (.ref x :: vs) (upd (upd H dx (.own x)) x (.ins C dx [])) (fun v H2 => v = .non ∧ Q (.ref x) H2) (E σ)) :
    wpAny (model X.prog X.w) X.A (call (.ref C) us) (EP X pins σ Q) X.xe s := by
  have hq := h (s.heap.objs.size + 1) s.heap.objs.size (I.hok.fresh (Nat.le_succ _)) (I.hok.fresh (Nat.le_refl _)) (Nat.ne_of_lt (Nat.lt_succ_self _))
  have I2 := Inv.made (C := C) I
  have r2 : Vals (V.ref (s.heap.objs.size + 1) :: vs) (Value.ref (s.heap.objs.size + 1) :: us) := .cons rfl r
  have hl : (Value.ref (s.heap.objs.size + 1) :: us ++ []).length = ps.length := by
    have e := r2.length
    rw [F.len _ _ _ _ hq] at e
    rw [List.append_nil]
    exact e.symm
  have hbi := hb _ (Value.ref (s.heap.objs.size + 1) :: us) I2.kIn hl
  rw [List.append_nil] at hbi
  refine wpAny_call (make_map (f := f) I.kIn Mk0.makes Mk0.init (beq_iff_eq.mp Mk0.fn) (codeAny_mono (F.run _ X.stack _ _ ⟨Value.ref (s.heap.objs.size + 1) :: us, []⟩ _ _ _ (E σ) (make_guards hgd C us []) (hr.make C us []) (I2.env0.make C us []) hbi r2 hq) fun res s' z => ?_))
  match res, z with
  | .error e, z => exact hx pins _ _ e s' I2 z
  | .ok (.ret u), z =>
    obtain ⟨v, H', I3, rv, ev, q3⟩ := I2.after z
    subst ev
    exact ⟨rv, ⟨V.ref (s.heap.objs.size + 1), H', I3, rfl, q3⟩⟩
  | .ok .next, z => exact z.elim
  | .ok .brk, z => exact z.elim
  | .ok .cont, z => exact z.elim
theorem peG_make {E : L2.St → XK} (Mk0 : Mk X.K C f) (F : FnG X.prog X.w X.K X.mg X.base CX k f fd ps sp) (hgd : X.A.guards = some []) (hr : Room (k + 1) X.A) (hg : Gl X x) (hm : X.mg x = some (.ref C)) (hb : Binds X.K fd ps []) (hx : ∀ σ, PassesAt CX X σ (E σ))
    (ha : PA X (a :: es) t) (hdb : (x == ("__debug__" : Str)) = false := by decide) (he : starEach (a :: es) X.env = (false, eval a X.env) :: starEach es X.env := by rfl) (hpl : (backTo pos (starEach es X.env)).any (·.1) = false := by rfl) :
    PE X (.Call (.Name x p) (a :: es) [] pos) (fun σ H Q => t σ H fun vs H1 => ∀ x dx, H1 x = none → H1 dx = none → dx ≠ x → sp (.ref x :: vs) (upd (upd H1 dx (.own x)) x (.ins C dx [])) (fun v H2 => v = .non ∧ Q (.ref x) H2) (E σ)) :=
  ⟨fun pins s σ H Q I h => wpAny_Call_Name_kw (ld_glob I hg hm (PySem.W.callWith_K (h₀ := X.base) I.ok.mod.kin Mk0.kp (thn (ha.run pos pins s σ H _ I h) fun us s1 ⟨vs, H1, I1, r, q⟩ => ⟨I1.kIn, runG_make Mk0 F hgd hr hb (hx σ) I1 r q⟩) he hpl) hdb)⟩
/-- what may be made by a class's name -/
structure ClM (P : Program) (w : World) (K : PySem.W.Frag) (mg : Str → Option Value) (base : Heap) (x : Str) (C : Addr) (k : Nat) (ps : List Str) (ds : DSp) : Prop where
  ex : ∃ (f : Addr) (fd : FuncData), Mk K C f ∧ FnG P w K mg base (L2N.CX P w) k f fd ps (spOf K ds) ∧ mg x = some (.ref C) ∧ Binds K fd ps []
  mono : MonoSp ds
@[reducible] def dMake (C : Addr) (ds : DSp) (fr : DTA) : DTE := fun ρ M Q => fr ρ M fun args M1 => ds (.ref M1.length :: args) (M1 ++ [.ins C []]) (fun v M2 => v = .non ∧ Q (.ref M1.length) M2) fun c fs M2 => ρ.x c fs ρ.v M2
theorem d_make {ds : DSp} (C0 : ClM X.prog X.w X.K X.mg X.base x C k ps ds) (hgd : X.A.guards = some []) (hr : Room (k + 1) X.A) (ha : DA X (a :: es) fr) (hg : Gl X x := by rfl) (hdb : (x == ("__debug__" : Str)) = false := by decide)
    (he : starEach (a :: es) X.env = (false, eval a X.env) :: starEach es X.env := by rfl) (hpl : (backTo pos (starEach es X.env)).any (·.1) = false := by rfl) : DE X (.Call (.Name x p) (a :: es) [] pos) (dMake C ds fr) := by
  obtain ⟨f, fd, Mk0, G, hm, hb⟩ := C0.ex
  have hmono := C0.mono
  refine ⟨PE.of (peG_make Mk0 G hgd hr hg hm hb (L2N.passAt (takesW X)) ha.pa hdb he hpl) fun σ H Q ⟨ρ, M, al, F, Gg, W, s, q⟩ => ?_, fun ρ M Q Q' w q => ha.mono _ _ _ _ (fun args M1 q1 => hmono _ _ _ _ _ _ (fun v M2 z => ⟨z.1, w _ _ z.2⟩) (fun _ _ _ z => z) q1) q⟩
  refine ha.seq W s q fun args M1 al1 F1 H1 vs q1 e1 W1 r1 s1 => ?_
  intro x0 dx hx0 hdx hne
  obtain ⟨W2, e2⟩ := W1.newF (o := .own x0) hdx
  have hx2 : upd H1 dx (.own x0) x0 = none := by rw [upd_ne (Ne.symm hne)]; exact hx0
  obtain ⟨W3, e3⟩ := W2.newM (c := .ins C []) (o := .ins C dx []) hx2 ⟨dx, [], upd_same, rfl, .nil⟩
  have hself : Rp X.K (upd F1 dx (.own x0)) (al1 ++ [x0]) (.ref x0) (.ref M1.length) := .ref (by rw [← W1.len, List.getElem?_append_right (Nat.le_refl _), Nat.sub_self]; rfl)
  refine ⟨.ref M1.length :: args, M1 ++ [.ins C []], al1 ++ [x0], upd F1 dx (.own x0), Gg, W3, .cons hself (r1.ext (e2.trans e3)), hmono _ _ _ _ _ _ (fun v M2 z => ?_) (fun c fs M2 z al2 F2 H2 o e4 W4 f4 => (s1.ext (e2.trans e3)).xo c fs ρ.v M2 al2 F2 H2 o σ e4 W4 ((s1.ext (e2.trans e3)).sl.ext e4) f4 z) q1⟩
  intro al2 F2 H2 u e4 W4 r4
  obtain ⟨rfl, z2⟩ := z
  refine ⟨by cases r4; rfl, z2 al2 F2 H2 _ (e1.trans (e2.trans (e3.trans e4))) W4 (hself.ext e4)⟩
end
end DL

set_option maxHeartbeats 1000000
/-! DLW: methods and properties of the program's own classes. -/
namespace DL
open PySem PySem.Spec PyProof.Rows L2 MT
theorem look_miss {α : Type} {f : Str} : ∀ {l : List (Str × α)}, (∀ x ∈ l.map (·.1), x ≠ f) → l.lookup f = none
  | [], _ => rfl
  | (g, a) :: l, h => by
    have hg : (f == g) = false := by
      rw [beq_eq_false_iff_ne]
      exact fun e => h g (List.Mem.head _) e.symm
    rw [List.lookup_cons, hg]
    exact look_miss fun x hx => h x (List.Mem.tail _ hx)
theorem look_hit {α : Type} {f : Str} : ∀ {l : List (Str × α)}, l.lookup f = none → ∀ x ∈ l.map (·.1), x ≠ f
  | [], _, _, hx => nomatch hx
  | (g, a) :: l, h, x, hx => by
    rw [List.lookup_cons] at h
    by_cases hg : (f == g) = true
    · rw [hg] at h
      exact nomatch h
    · rw [Bool.not_eq_true] at hg
      rw [hg] at h
      cases hx with
      | head => exact fun e => (beq_eq_false_iff_ne.mp hg) e.symm
      | tail _ hx => exact look_hit h x hx
theorem look_gone {vs : List (Str × V)} {fs : List (Str × D)} {f : Str} (h1 : vs.map (·.1) = fs.map (·.1)) (h : fs.lookup f = none) : vs.lookup f = none :=
  look_miss (by rw [h1]; exact look_hit h)
section
variable {X : Cx} {CX : CXT} {o e : Expr} {es : List Expr} {ta : TE} {t : TA} {fo : DTE} {fr : DTA} {pos apos p : Pos} {m : Str} {k : Nat} {C f : Addr} {fd : FuncData} {ps : List Str} {sp : Sp}
theorem peG_meth {E : L2.St → XK} {pl : Sem Bool} (he : PE X o ta) (c : Cls X.K C) (hm : Meth X.K C m f) (F : FnG X.prog X.w X.K X.mg X.base CX k f fd ps sp) (hgd : X.A.guards = some []) (hr : Room k X.A) (hb : Binds X.K fd ps []) (hx : ∀ σ, PassesAt CX X σ (E σ)) (ha : PA X (e :: es) t)
    (hst : starEach (e :: es) X.env = (false, eval e X.env) :: starEach es X.env := by rfl) (hpl : (backTo pos (starEach es X.env)).any (·.1) = false := by rfl)
    (ht : eval (.Call (.Attribute o m apos) (e :: es) [] pos) X.env = (do
      let ov ← eval o X.env
      standAt apos.atName
      let (f, first) ← holding [ov] (getMethod ov m pl)
      callWith pos f first (backTo pos (starEach (e :: es) X.env)) (backToKw pos (keywordEach [] X.env))) := by rfl) :
    PE X (.Call (.Attribute o m apos) (e :: es) [] pos) (fun σ H Q => ta σ H fun x H1 => ∃ a dx fs, x = .ref a ∧ H1 a = some (.ins C dx fs) ∧ fs.lookup m = none ∧ t σ H1 fun vs H2 => sp (x :: vs) H2 Q (E σ)) := by
  refine ⟨fun pins s σ H Q I h => ?_⟩
  refine PySem.W.methodCall_KW (pl := pl) (thn (he.run pins s σ H _ I h) fun u s1 ⟨x, H1, I1, rx, a, dx, fs, ex, ea, l, q⟩ => ?_) ht
  subst ex
  obtain rfl : u = Value.ref a := rx
  refine getmeth_ok I1 ea c hm l ?_
  refine PySem.W.callWith_K (first := [.ref a]) (h₀ := X.base) I.ok.mod.kin hm.kp (thn (ha.run pos pins s1 σ H1 _ I1 q) fun us s2 ⟨vs, H2, I2, r, q2⟩ => ⟨I2.kIn, ?_⟩) hst hpl
  exact runGS (us := .ref a :: us) (vs := .ref a :: vs) (dvs := []) F hgd hr hb .nil (hx σ) I2 (.cons rfl r) (by rw [List.append_nil]; exact q2)
theorem peG_meth0 {E : L2.St → XK} {pl : Sem Bool} (he : PE X o ta) (c : Cls X.K C) (hm : Meth X.K C m f) (F : FnG X.prog X.w X.K X.mg X.base CX k f fd ps sp) (hgd : X.A.guards = some []) (hr : Room k X.A) (hb : Binds X.K fd ps []) (hx : ∀ σ, PassesAt CX X σ (E σ))
    (ht : eval (.Call (.Attribute o m apos) [] [] pos) X.env = (do
      let ov ← eval o X.env
      standAt apos.atName
      let (f, first) ← holding [ov] (getMethod ov m pl)
      callWith pos f first (backTo pos (starEach [] X.env)) (backToKw pos (keywordEach [] X.env))) := by rfl) :
    PE X (.Call (.Attribute o m apos) [] [] pos) (fun σ H Q => ta σ H fun x H1 => ∃ a dx fs, x = .ref a ∧ H1 a = some (.ins C dx fs) ∧ fs.lookup m = none ∧ sp [x] H1 Q (E σ)) := by
  refine ⟨fun pins s σ H Q I h => ?_⟩
  refine PySem.W.methodCall_KW (pl := pl) (thn (he.run pins s σ H _ I h) fun u s1 ⟨x, H1, I1, rx, a, dx, fs, ex, ea, l, q⟩ => ?_) ht
  subst ex
  obtain rfl : u = Value.ref a := rx
  refine getmeth_ok I1 ea c hm l ?_
  exact PySem.W.callWith_K0 (first := [.ref a]) I1.kIn hm.kp (runGS (us := [.ref a]) (vs := [.ref a]) (dvs := []) F hgd hr hb .nil (hx σ) I1 (.cons rfl .nil) q)
/-- what may be called at an instance -/
structure ClMe (P : Program) (w : World) (K : PySem.W.Frag) (mg : Str → Option Value) (base : Heap) (C : Addr) (m : Str) (k : Nat) (ps : List Str) (ds : DSp) : Prop where
  ex : ∃ (f : Addr) (fd : FuncData), Cls K C ∧ Meth K C m f ∧ FnG P w K mg base (L2N.CX P w) k f fd ps (spOf K ds) ∧ Binds K fd ps []
  mono : MonoSp ds
@[reducible] def dMeth (C : Addr) (m : Str) (ds : DSp) (fo : DTE) (fr : DTA) : DTE := fun ρ M Q => fo ρ M fun x M1 => match x with
  | .ref n => match M1[n]? with
    | some (.ins C' fs) => C' = C ∧ fs.lookup m = none ∧ fr ρ M1 fun args M2 => ds (.ref n :: args) M2 Q fun c fs M3 => ρ.x c fs ρ.v M3
    | _ => False
  | _ => False
@[reducible] def dMeth0 (C : Addr) (m : Str) (ds : DSp) (fo : DTE) : DTE := fun ρ M Q => fo ρ M fun x M1 => match x with
  | .ref n => match M1[n]? with
    | some (.ins C' fs) => C' = C ∧ fs.lookup m = none ∧ ds [.ref n] M1 Q fun c fs M3 => ρ.x c fs ρ.v M3
    | _ => False
  | _ => False
/-- o.m(e, ..) -/
theorem d_meth {ds : DSp} {pl : Sem Bool} (C0 : ClMe X.prog X.w X.K X.mg X.base C m k ps ds) (hgd : X.A.guards = some []) (hr : Room k X.A) (ho : DE X o fo) (ha : DA X (e :: es) fr)
    (hst : starEach (e :: es) X.env = (false, eval e X.env) :: starEach es X.env := by rfl) (hpl : (backTo pos (starEach es X.env)).any (·.1) = false := by rfl)
    (ht : eval (.Call (.Attribute o m apos) (e :: es) [] pos) X.env = (do
      let ov ← eval o X.env
      standAt apos.atName
      let (f, first) ← holding [ov] (getMethod ov m pl)
      callWith pos f first (backTo pos (starEach (e :: es) X.env)) (backToKw pos (keywordEach [] X.env))) := by rfl) :
    DE X (.Call (.Attribute o m apos) (e :: es) [] pos) (dMeth C m ds fo fr) := by
  obtain ⟨f, fd, c, hm, G, hb⟩ := C0.ex
  have hmono := C0.mono
  refine ⟨PE.of (peG_meth ho.pe c hm G hgd hr hb (L2N.passAt (takesW X)) ha.pa hst hpl ht) fun σ H Q ⟨ρ, M, al, F, Gg, W, s, q⟩ => ?_, fun ρ M Q Q' w q => ho.mono _ _ _ _ (fun x M1 q1 => ?_) q⟩
  · refine ho.seq W s q fun x M1 al1 F1 H1 v q1 e1 W1 r1 s1 => ?_
    cases x with
    | ref n =>
      dsimp only at q1
      split at q1
      · next C' fs em =>
        obtain ⟨rfl, c2, q2⟩ := q1
        obtain ⟨p, dx, vs, rfl, _, h2, h3, h4⟩ := cell_ins W1 r1 em
        refine ⟨p, dx, vs, rfl, h2, look_gone h3 c2, ?_⟩
        refine ha.seq W1 s1 q2 fun args M2 al2 F2 H2 us q3 e2 W2 r2 s2 => ?_
        exact ⟨.ref n :: args, M2, al2, F2, Gg, W2, .cons (r1.ext e2) r2, hmono _ _ _ _ _ _ (fun d M3 k => kont.ext k (e1.trans e2)) (fun c fs M3 z al3 F3 H3 o e3 W3 f3 => s2.xo c fs ρ.v M3 al3 F3 H3 o σ e3 W3 (s2.sl.ext e3) f3 z) q3⟩
      · exact q1.elim
    | _ => exact q1.elim
  · cases x with
    | ref n =>
      dsimp only at q1 ⊢
      split at q1
      · exact ⟨q1.1, q1.2.1, ha.mono _ _ _ _ (fun args M2 q2 => hmono _ _ _ _ _ _ w (fun _ _ _ z => z) q2) q1.2.2⟩
      · exact q1.elim
    | _ => exact q1.elim
/-- o.m() -/
theorem d_meth0 {ds : DSp} {pl : Sem Bool} (C0 : ClMe X.prog X.w X.K X.mg X.base C m k ps ds) (hgd : X.A.guards = some []) (hr : Room k X.A) (ho : DE X o fo)
    (ht : eval (.Call (.Attribute o m apos) [] [] pos) X.env = (do
      let ov ← eval o X.env
      standAt apos.atName
      let (f, first) ← holding [ov] (getMethod ov m pl)
      callWith pos f first (backTo pos (starEach [] X.env)) (backToKw pos (keywordEach [] X.env))) := by rfl) :
    DE X (.Call (.Attribute o m apos) [] [] pos) (dMeth0 C m ds fo) := by
  obtain ⟨f, fd, c, hm, G, hb⟩ := C0.ex
  have hmono := C0.mono
  refine ⟨PE.of (peG_meth0 ho.pe c hm G hgd hr hb (L2N.passAt (takesW X)) ht) fun σ H Q ⟨ρ, M, al, F, Gg, W, s, q⟩ => ?_, fun ρ M Q Q' w q => ho.mono _ _ _ _ (fun x M1 q1 => ?_) q⟩
  · refine ho.seq W s q fun x M1 al1 F1 H1 v q1 e1 W1 r1 s1 => ?_
    cases x with
    | ref n =>
      dsimp only at q1
      split at q1
      · next C' fs em =>
        obtain ⟨rfl, c2, q2⟩ := q1
        obtain ⟨p, dx, vs, rfl, _, h2, h3, h4⟩ := cell_ins W1 r1 em
        refine ⟨p, dx, vs, rfl, h2, look_gone h3 c2, ?_⟩
        exact ⟨[.ref n], M1, al1, F1, Gg, W1, .cons r1 .nil, hmono _ _ _ _ _ _ (fun d M3 k => kont.ext k e1) (fun c fs M3 z al3 F3 H3 o e3 W3 f3 => s1.xo c fs ρ.v M3 al3 F3 H3 o σ e3 W3 (s1.sl.ext e3) f3 z) q2⟩
      · exact q1.elim
    | _ => exact q1.elim
  · cases x with
    | ref n =>
      dsimp only at q1 ⊢
      split at q1
      · exact ⟨q1.1, q1.2.1, hmono _ _ _ _ _ _ w (fun _ _ _ z => z) q1.2.2⟩
      · exact q1.elim
    | _ => exact q1.elim
/-! ### properties -/
theorem in1_guards {A : Around} (h : A.guards = some []) : A.in1.guards = some [] := h
theorem getpropG {pins : List (Addr × Obj)} {σ : L2.St} {H : Hp} {s : Shared} {Q : VK} {b : Bool} {E' : Value → Shared → Prop} {q g a dx : Addr} {fs : List (Str × V)} {n : Str} (I : L2.Inv X pins σ H s) (ea : H a = some (.ins C dx fs)) (c : Cls X.K C) (hp : PropOf X.K C n q g)
    (F : FnG X.prog X.w X.K X.mg X.base (L2N.CX X.prog X.w) k g fd ps sp) (hgd : X.A.guards = some []) (hr : Room (k + 1) X.A) (hb : Binds X.K fd ps []) (h : sp [.ref a] H Q (fun _ _ _ => False)) :
    wpAny (model X.prog X.w) X.A (getAttr (.ref a) n b) (EP X pins σ Q) E' s := by
  obtain ⟨mA, O, _, _, _, _⟩ := ins_get I.hok ea
  obtain ⟨od, J, _⟩ := O.look
  obtain ⟨rest, hrec⟩ := hp.rec_
  have I1 := I.tok (s.toks + 1)
  have hl : ([Value.ref a] ++ []).length = ps.length := by
    rw [← F.len _ _ _ _ h]
    rfl
  have hc : (PySem.W.clsIn X.K C).isSome = true := by
    obtain ⟨cd, hc, _⟩ := PySem.W.any_some c.hd
    rw [hc]
    rfl
  refine PySem.W.get_bind I.kIn J (PySem.W.plainGet_of (c.get n)).1 (PySem.W.findObj_data hc hp.at_ hp.get hp.tak) (PySem.W.plainGet_of (c.get n)).2 (wpAny_call (PySem.W.prop_get (s := { s with toks := s.toks + 1 }) I.kIn hrec ?_))
  refine codeAny_mono (F.run X.A.in1 X.stack { s with toks := s.toks + 1 } H ⟨[.ref a], []⟩ [.ref a] [.ref a] Q (fun _ _ _ => False) (in1_guards hgd) hr.in1 I1.env0.in1 (hb _ [.ref a] I1.kIn hl) (.cons rfl .nil) h) fun r s' hq => ?_
  match r, hq with
  | .error er, hq =>
    obtain ⟨_, _, _, _, _, _, _, _, _, _, _, _, z⟩ := hq
    exact z.elim
  | .ok (.ret u), hq =>
    obtain ⟨v, H', I3, rv, q3⟩ := I1.after hq
    show wpAny _ _ (handedOut u) _ _ _
    rw [PySem.W.handedOut_of (handed_of rv)]
    exact wpAny_pure ⟨v, H', I3, rv, q3⟩
  | .ok .next, hq => exact hq.elim
  | .ok .brk, hq => exact hq.elim
  | .ok .cont, hq => exact hq.elim
theorem peG_prop {q g : Addr} {n : Str} (he : PE X o ta) (c : Cls X.K C) (hp : PropOf X.K C n q g) (F : FnG X.prog X.w X.K X.mg X.base (L2N.CX X.prog X.w) k g fd ps sp) (hgd : X.A.guards = some []) (hr : Room (k + 1) X.A) (hb : Binds X.K fd ps [])
    (hab : attributeBase o n X.env (eval o X.env) = eval o X.env) : PE X (.Attribute o n pos) (fun σ H Q => ta σ H fun x H1 => ∃ a dx fs, x = .ref a ∧ H1 a = some (.ins C dx fs) ∧ sp [.ref a] H1 Q fun _ _ _ => False) := by
  refine ⟨fun pins s σ H Q I h => ?_⟩
  refine attr_of hab (thn (he.run pins s σ H _ I h) fun u s1 ⟨x, H1, I1, rx, a, dx, fs, ex, ea, q⟩ => ?_)
  subst ex
  obtain rfl : u = Value.ref a := rx
  exact getpropG I1 ea c hp F hgd hr hb q
/-- a property of a class -/
structure ClP (P : Program) (w : World) (K : PySem.W.Frag) (mg : Str → Option Value) (base : Heap) (C : Addr) (n : Str) (k : Nat) (ps : List Str) (ds : DSp) : Prop where
  ex : ∃ (q g : Addr) (fd : FuncData), Cls K C ∧ PropOf K C n q g ∧ FnG P w K mg base (L2N.CX P w) k g fd ps (spOf K ds) ∧ Binds K fd ps []
  mono : MonoSp ds
@[reducible] def dProp (C : Addr) (ds : DSp) (fo : DTE) : DTE := fun ρ M Q => fo ρ M fun x M1 => match x with
  | .ref n => match M1[n]? with
    | some (.ins C' fs) => C' = C ∧ ds [.ref n] M1 Q fun _ _ _ => False
    | _ => False
  | _ => False
/-- o.n, a property -/
theorem d_prop {ds : DSp} {n : Str} (C0 : ClP X.prog X.w X.K X.mg X.base C n k ps ds) (hgd : X.A.guards = some []) (hr : Room (k + 1) X.A) (ho : DE X o fo)
    (hab : attributeBase o n X.env (eval o X.env) = eval o X.env := by rfl) : DE X (.Attribute o n pos) (dProp C ds fo) := by
  obtain ⟨q, g, fd, c, hp, G, hb⟩ := C0.ex
  have hmono := C0.mono
  refine ⟨PE.of (peG_prop ho.pe c hp G hgd hr hb hab) fun σ H Q ⟨ρ, M, al, F, Gg, W, s, q⟩ => ?_, fun ρ M Q Q' w q => ho.mono _ _ _ _ (fun x M1 q1 => ?_) q⟩
  · refine ho.seq W s q fun x M1 al1 F1 H1 v q1 e1 W1 r1 s1 => ?_
    cases x with
    | ref n =>
      dsimp only at q1
      split at q1
      · next C' fs em =>
        obtain ⟨rfl, q2⟩ := q1
        obtain ⟨p, dx, vs, rfl, _, h2, h3, h4⟩ := cell_ins W1 r1 em
        refine ⟨p, dx, vs, rfl, h2, ?_⟩
        exact ⟨[.ref n], M1, al1, F1, Gg, W1, .cons r1 .nil, hmono _ _ _ _ _ _ (fun d M3 k => kont.ext k e1) (fun _ _ _ z => z.elim) q2⟩
      · exact q1.elim
    | _ => exact q1.elim
  · cases x with
    | ref n =>
      dsimp only at q1 ⊢
      split at q1
      · exact ⟨q1.1, hmono _ _ _ _ _ _ w (fun _ _ _ z => z) q1.2⟩
      · exact q1.elim
    | _ => exact q1.elim
end
end DL

set_option maxHeartbeats 1000000
/-! DLW2: isinstance of an instance and a built-in class, tuple(range(n)); what the head says of a class. -/
namespace DL
open PySem PySem.Spec PyProof.Rows L2 MT
/-- a class whose instances isinstance asks rightly -/
structure InC (K : PySem.W.Frag) (C : Addr) : Prop where
  cl : Cls K C
  ha : PySem.W.findIn K (.ref C) "__class__" = some (some (.builtin "object.__class__"))
  hn : PySem.W.specialIn K (.builtin "object.__class__") "__get__" = some (some (.builtin "getset_descriptor.__get__"))
  htk : PySem.W.takesIn K (.builtin "object.__class__") = some true
  hm : PySem.W.mroIn K C (.type "object") = some true
def NotSub (K : PySem.W.Frag) (C : Addr) (T : String) : Prop := PySem.W.subIn K (.ref C) (.type T) = some false
structure DfM (K : PySem.W.Frag) (C : Addr) (m qual : Str) (st : Stmt) : Prop where
  ex : ∃ (f : Addr) (fd : FuncData), Fun K m qual st f fd ∧ Meth K C m f
structure DfI (K : PySem.W.Frag) (C : Addr) (qual : Str) (st : Stmt) : Prop where
  ex : ∃ (f : Addr) (fd : FuncData), Fun K "__init__" qual st f fd ∧ Mk K C f
structure DfP (K : PySem.W.Frag) (C : Addr) (m qual : Str) (st : Stmt) : Prop where
  ex : ∃ (q f : Addr) (fd : FuncData), Fun K m qual st f fd ∧ PropOf K C m q f
section
variable {X : Cx} {a : Expr} {fa : DTE} {pos : Pos}
@[reducible] def dIsiO (K : PySem.W.Frag) (T : String) (tab : String → Bool) (fa : DTE) : DTE := fun ρ M Q => fa ρ M fun d M1 => match d with
  | .ref n => match M1[n]? with
    | some (.ins C _) => InC K C ∧ NotSub K C T ∧ Q (.bl false) M1
    | some (.lst _) => Q (.bl (tab "list")) M1
    | _ => False
  | d => match tyNm d M1 with
    | some t => Q (.bl (tab t)) M1
    | none => False
theorem d_isiO {x : Str} {T : String} {tab : String → Bool} {p p2 : Pos} (ht : tabOk T tab) (hg : Gl X "isinstance") (hm : X.mg "isinstance" = none) (hg2 : Gl X x) (hm2 : X.mg x = none) (hv2 : bootBuiltins x = some (.type T)) (h : DE X a fa) (hkm : PySem.W.kitMeta T = true := by decide +kernel) (hn2 : x ≠ "__name__" := by decide) (hd2 : (x == ("__debug__" : Str)) = false := by decide)
    (hs : starEach [a, .Name x p2] X.env = (false, eval a X.env) :: starEach [.Name x p2] X.env := by rfl) (hs2 : starEach [.Name x p2] X.env = (false, eval (.Name x p2) X.env) :: starEach [] X.env := by rfl) (hpl : (backTo pos (starEach [.Name x p2] X.env)).any (·.1) = false := by rfl) :
    DE X (.Call (.Name "isinstance" p) [a, .Name x p2] [] pos) (dIsiO X.K T tab fa) := by
  refine ⟨PE.of (pe_callB call_isi hg hm (by decide +kernel) (pa_cons h.pe (pa_cons (pe_bltn (v := .ty T) hg2 hm2 hv2 rfl hn2 hd2) pa_nil hs2) hs) (by decide) (by decide) hs hpl) fun σ H Q ⟨ρ, M, al, F, G, W, s, q⟩ => ?_, fun ρ M Q Q' w q => h.mono _ _ _ _ (fun d M1 q1 => ?_) q⟩
  · refine h.seq W s q fun d M1 al1 F1 H1 v q1 e1 W1 r1 s1 => ?_
    have key : ∀ t, tyNm d M1 = some t → kont X.K al F G Q (.bl (tab t)) M1 → _ := fun t e q2 => (⟨v, .ty T, .type t, .type T, tab t, rfl, .ty T, tyNm_ok W1 r1 e, kit_ty (ht t (tyNm_in e)), q2 al1 F1 H1 _ e1 W1 (.bl _)⟩ : rIsi X.K _ H1 _)
    cases d with
    | ref n =>
      dsimp only at q1
      split at q1
      · next C fs em =>
        obtain ⟨c1, c2, q2⟩ := q1
        obtain ⟨p, dx, vs, rfl, _, h2, h3, h4⟩ := cell_ins W1 r1 em
        exact ⟨_, .ty T, .ref C, .type T, false, rfl, .ty T, .base (.ins h2 c1.cl c1.ha c1.hn c1.htk c1.hm), kit_blt hkm c2, q2 al1 F1 H1 _ e1 W1 (.bl _)⟩
      · next ds em => exact key "list" (by unfold tyNm; dsimp only; rw [em]) q1
      · exact q1.elim
    | scr ns => exact q1.elim
    | exo a c o ks ds => exact q1.elim
    | _ => exact key _ rfl q1
  · cases d with
    | ref n =>
      dsimp only at q1 ⊢
      split at q1
      · exact ⟨q1.1, q1.2.1, w _ _ q1.2.2⟩
      · exact w _ _ q1
      · exact q1.elim
    | scr ns => exact q1.elim
    | exo a c o ks ds => exact q1.elim
    | _ => exact w _ _ q1
@[reducible] def dTupRg (fa : DTE) : DTE := fun ρ M Q => fa ρ M fun d M1 => match d with
  | .int j => (-1000000 ≤ j ∧ j ≤ 1000000) ∧ Q (.tup (rng 0 j.toNat)) M1
  | _ => False
theorem d_tupRg {p p2 pos2 : Pos} (hg : Gl X "tuple") (hm : X.mg "tuple" = none) (hg2 : Gl X "range") (hm2 : X.mg "range" = none) (hc : X.calm = true) (h : DE X a fa) (na : starEach [a] X.env = (false, eval a X.env) :: starEach [] X.env := by rfl)
    (na2 : starEach [.Call (.Name "range" p2) [a] [] pos2] X.env = (false, eval (.Call (.Name "range" p2) [a] [] pos2) X.env) :: starEach [] X.env := by rfl) : DE X (.Call (.Name "tuple" p) [.Call (.Name "range" p2) [a] [] pos2] [] pos) (dTupRg fa) := by
  refine ⟨PE.of (pe_tupRg hc hg hm (prg_1 hg2 hm2 h.pe na) na2) fun σ H Q ⟨ρ, M, al, F, G, W, es, q⟩ => ?_, fun ρ M Q Q' w q => h.mono _ _ _ _ (fun d M1 q1 => ?_) q⟩
  · refine h.seq W es q fun d M1 al1 F1 H1 v q1 e1 W1 r1 s1 => ?_
    cases r1 <;> first | exact q1.elim | skip
    refine ⟨_, rfl, ⟨by omega, by omega, by have := q1.1.1; omega, by have := q1.1.2; omega, by have := q1.1.2; omega⟩, fun p hp => ?_⟩
    exact kont.tup (kont.ext q1.2 e1) W1 (rg_rps _) hp
  · cases d <;> first | exact q1.elim | exact ⟨q1.1, w _ _ q1.2⟩
end
end DL

set_option maxHeartbeats 1000000
/-! DLT1: the signs of a shown text. -/
namespace DL
open PySem PySem.Spec PyProof.Rows L2 MT
def okS (x : Str) : Prop := ∀ c ∈ x.cps.toList, c < 0x110000
theorem strOk_of {x : Str} (h : okS x) : PyData.strOk x = true := by
  unfold PyData.strOk
  rw [Array.all_eq_true']
  intro c hc
  exact decide_eq_true (h c (Array.mem_toList_iff.mpr hc))
theorem okS_by {x : Str} (h : PyData.strOk x = true) : okS x := by
  unfold PyData.strOk at h
  rw [Array.all_eq_true'] at h
  intro c hc
  exact of_decide_eq_true (h c (Array.mem_toList_iff.mp hc))
theorem okS_of (s : String) : okS (Str.ofString s) := by
  intro c hc
  rw [Str.ofString_eq_toList] at hc
  simp at hc
  obtain ⟨a, _, rfl⟩ := hc
  have := a.valid
  have h2 : a.toNat < 0x110000 := by
    rcases this with h | h
    · exact Nat.lt_trans h (by decide)
    · exact h.2
  exact h2
theorem okS_app {x y : Str} (hx : okS x) (hy : okS y) : okS (x ++ y) := by
  intro c hc
  have e : (x ++ y).cps.toList = x.cps.toList ++ y.cps.toList := by
    show (x.cps ++ y.cps).toList = _
    exact Array.toList_append
  rw [e] at hc
  rcases List.mem_append.mp hc with h | h
  · exact hx c h
  · exact hy c h
theorem okS_join {sep : Str} (hs : okS sep) : ∀ {ts : List Str}, (∀ t ∈ ts, okS t) → okS (Str.join sep ts)
  | [], _ => by intro c hc; simp [Str.join, Str.empty] at hc
  | [x], h => h x (by simp)
  | x :: y :: r, h => by
    show okS (x ++ sep ++ Str.join sep (y :: r))
    exact okS_app (okS_app (h x (by simp)) hs) (okS_join hs fun t ht => h t (List.mem_cons_of_mem _ ht))
theorem okS_from : ∀ {ts : List Str} {k : Nat} {acc : Str}, okS acc → (∀ t ∈ ts, okS t) → okS (textFrom k acc ts)
  | [], _, _, ha, _ => ha
  | t :: ts, k, acc, ha, h => by
    unfold textFrom
    refine okS_from ?_ fun x hx => h x (List.mem_cons_of_mem _ hx)
    split
    · exact okS_app (okS_app ha (okS_of _)) (h t (by simp))
    · exact okS_app ha (h t (by simp))
mutual
def tx : D → Bool
  | .non | .bl _ | .int _ => true
  | .str x => PyData.strOk (reprText x)
  | .tup ds | .lst ds => txs ds
  | _ => false
def txs : List D → Bool
  | [] => true
  | d :: ds => tx d && txs ds
end
theorem txs_iff {ds : List D} : txs ds = true ↔ ∀ d ∈ ds, tx d = true := by
  induction ds with
  | nil => simp [txs]
  | cons d ds ih => simp [txs, ih]
mutual
theorem okS_shown : ∀ {d : D}, tx d = true → okS (toPy d).shown
  | .non, _ => okS_of "None"
  | .bl b, _ => by cases b <;> exact okS_of _
  | .int i, _ => okS_of (toString i)
  | .str x, h => okS_by h
  | .tup ds, h => by
    show okS (("(" : Str) ++ Str.join ", " (PyData.shownAll (toPys ds)) ++ (if (PyData.shownAll (toPys ds)).length == 1 then ",)" else ")" : String))
    exact okS_app (okS_app (okS_of _) (okS_join (okS_of _) (okS_all h))) (okS_of _)
  | .lst ds, h => by
    show okS (textFrom 0 "[" (PyData.shownAll (toPys ds)) ++ "]")
    exact okS_app (okS_from (okS_of _) (okS_all h)) (okS_of _)
  | .dct _ _, h => by cases h
  | .ref _, h => by cases h
  | .scr _, h => by cases h
  | .exo _ _ _ _ _, h => by cases h
theorem okS_all : ∀ {ds : List D}, txs ds = true → ∀ t ∈ PyData.shownAll (toPys ds), okS t
  | [], _, t, ht => nomatch ht
  | d :: ds, h, t, ht => by
    have h' : tx d = true ∧ txs ds = true := by simpa [txs] using h
    have ht' : t = (toPy d).shown ∨ t ∈ PyData.shownAll (toPys ds) := by simpa [toPys, PyData.shownAll] using ht
    rcases ht' with rfl | ht'
    · exact okS_shown h'.1
    · exact okS_all h'.2 t ht'
end
/-- the length of a text's own text -/
theorem repr_len {x : Str} (h : okS x) : (reprText x).length ≤ 10 * x.length + 2 := StrLaws.reprText_len x fun c hc => Nat.lt_trans (h c hc) (by decide)
/-- the repr of this data is this text, and the text is of signs -/
structure Txt (d : D) (z : Str) : Prop where
  run : ∀ (M : Sto) (Q : DK), Q (.str z) M → gReprE d M Q
  ok : okS z
  len : z.length ≤ 16000000
theorem Sh.txt {n h : Nat} {d : D} (s : Sh n h d) (hn : n ≤ 16000000) (hh : h ≤ 60) (ht : tx d = true) : Txt d (toPy d).shown :=
  ⟨fun M Q q => .inl ⟨s.ok hn hh M, by rw [s.vw M]; exact q⟩, okS_shown ht, Nat.le_trans s.ok'.len hn⟩
theorem ShOk.vw {n h : Nat} {d : D} (s : ShOk n h d) (M : Sto) : DL.vw d M = d := by
  have := s.pu
  cases d <;> first | rfl | (cases this)
theorem ShOk.txt {n h : Nat} {d : D} (s : ShOk n h d) (hn : n ≤ 16000000) (hh : h ≤ 60) (ht : tx d = true) : Txt d (toPy d).shown :=
  ⟨fun M Q q => .inl ⟨by unfold showOk; rw [s.vw M]; exact ⟨s.pu, s.showable, Nat.le_trans s.depth hh, Nat.le_trans s.len (Nat.le_trans hn (by decide))⟩, by rw [s.vw M]; exact q⟩, okS_shown ht, Nat.le_trans s.len hn⟩
theorem ShE.txt {n h : Nat} {d : D} (s : ShE n h d) (hn : n ≤ 16000000) (hh : h ≤ 60) (ht : PyData.strOk (toPyE d).shown = true) : Txt d (toPyE d).shown :=
  ⟨fun M Q q => .inr ⟨⟨s.ok'.pe, s.ok'.showable, Nat.le_trans s.ok'.depth hh, Nat.le_trans s.ok'.len (Nat.le_trans hn (by decide))⟩, q⟩, okS_by ht, Nat.le_trans s.ok'.len hn⟩
theorem tx_ints (is : List Int) : txs (is.map D.int) = true := txs_iff.mpr fun d hd => by
  obtain ⟨i, _, rfl⟩ := List.mem_map.mp hd
  rfl
end DL

set_option maxHeartbeats 1000000
/-! DLF1: star calls of a def, a, *b = tuple, match over texts. -/
namespace DL
open PySem PySem.Spec PyProof.Rows L2 MT
section
variable {X : Cx} {CX : CXT} {a : Expr} {es : List Expr} {fr : DTA} {pos p : Pos} {x : Str} {k : Nat} {f : Addr} {fd : FuncData} {ps : List Str} {sp : Sp} {t : TA}
theorem peG_callSt {E : L2.St → XK} (F : FnG X.prog X.w X.K X.mg X.base CX k f fd ps sp) (hgd : X.A.guards = some []) (hr : Room k X.A) (hg : Gl X x) (hm : X.mg x = some (.ref f)) (hk : PySem.W.keepIn X.K (.ref f) = true) (hb : Binds X.K fd ps []) (hx : ∀ σ, PassesAt CX X σ (E σ))
    (ha : PA X (a :: es) t) (hdb : (x == ("__debug__" : Str)) = false := by decide) (he : starEach (a :: es) X.env = (false, eval a X.env) :: starEach es X.env := by rfl) (hst : (backTo pos (starEach es X.env)).any (·.1) = true := by rfl) :
    PE X (.Call (.Name x p) (a :: es) [] pos) (fun σ H Q => t σ H fun vs H1 => sp vs H1 Q (E σ)) :=
  ⟨fun pins s σ H Q I h => wpAny_Call_Name_kw (ld_glob I hg hm (PySem.W.callWith_S2 (h₀ := X.base) I.ok.mod.kin hk (thn (ha.run pos pins s σ H _ I h) fun us s1 ⟨vs, H1, I1, r, q⟩ => ⟨I1.kIn, runGS (dvs := []) F hgd hr hb .nil (hx σ) I1 r (by rw [List.append_nil]; exact q)⟩) he hst) hdb)⟩
/-- x(e, .., *y) -/
theorem d_clSt {ds : DSp} (C : Cl X.prog X.w X.K X.mg X.base x k ps ds) (hgd : X.A.guards = some []) (hr : Room k X.A) (ha : DA X (a :: es) fr) (hg : Gl X x := by rfl) (hdb : (x == ("__debug__" : Str)) = false := by decide)
    (he : starEach (a :: es) X.env = (false, eval a X.env) :: starEach es X.env := by rfl) (hst : (backTo pos (starEach es X.env)).any (·.1) = true := by rfl) : DE X (.Call (.Name x p) (a :: es) [] pos) (dCall ds fr) := by
  obtain ⟨f, fd, G, hm, hk, hb⟩ := C.ex
  have hmono := C.mono
  refine ⟨PE.of (peG_callSt G hgd hr hg hm hk hb (L2N.passAt (takesW X)) ha.pa hdb he hst) fun σ H Q ⟨ρ, M, al, F, Gg, W, s, q⟩ => ?_, fun ρ M Q Q' w q => ha.mono _ _ _ _ (fun args M1 q1 => hmono _ _ _ _ _ _ w (fun _ _ _ z => z) q1) q⟩
  refine ha.seq W s q fun args M1 al1 F1 H1 vs q1 e1 W1 r1 s1 => ?_
  exact ⟨args, M1, al1, F1, Gg, W1, r1, hmono _ _ _ _ _ _ (fun d M2 k => kont.ext k e1) (fun c fs M2 z al2 F2 H2 o e2 W2 f2 => s1.xo c fs ρ.v M2 al2 F2 H2 o σ e2 W2 (s1.sl.ext e2) f2 z) q1⟩
end
/-! ### a, *b = a tuple -/
section
variable {X : Cx} {pins : List (Addr × Obj)} {σ : L2.St} {H : Hp} {s : Shared}
theorem star_unpack {a : Addr} {x : V} {xs : List V} {Q : List Value → Shared → Prop} (hc : X.calm = true) (I : L2.Inv X pins σ H s) (hq : SqT X.K H a (x :: xs)) (hz : xs.length ≤ 1000)
    (k : ∀ (p : Addr) (s' : Shared) (u : Value), H p = none → L2.Inv X pins σ (upd H p (.lst xs)) s' → RelV x u → Q [u, .ref p] s') : wpAny (model X.prog X.w) X.A (unpackItems (.ref a) 2 (some 1)) Q X.xe s := by
  obtain ⟨its, rv, hl, _⟩ := I.tuple hq
  cases rv with
  | @cons _ u _ us ru rus =>
  have hh := I.ok.hd hc
  have hus : us.length ≤ 1000 := by rw [← rus.length]; exact hz
  have hlt : a ≠ s.heap.objs.size := by obtain ⟨o, ho, _⟩ := hl; exact Nat.ne_of_lt (Heap.lt_size ho)
  unfold unpackItems
  refine wpAny_bind ?_
  unfold notIterableAtAll
  refine wpAny_bind (wpAny_specialOf hl.typeIs slot_tuple_iter.lookup ?_)
  refine wpAny_pure ?_
  simp only [Bool.false_eq_true, if_false]
  refine wpAny_bind (wpAny_holding (iter_tuple hl ?_))
  refine wpAny_bind (wpAny_holding (draw_tuple hlt 1 0 _ _ ⟨_, Heap.get?_push_size _ rfl, rfl, rfl⟩ (hl.push _) (by simp) fun h₁ hit₁ hs₁ => ?_))
  have hl₁ : IsTup h₁ a (u :: us).toArray := (hl.push _).extBut hs₁.extBut hlt
  rw [Nat.zero_add] at hit₁
  have hit₁' := hit₁
  obtain ⟨oi, hoi, _⟩ := hit₁'
  have hl₁' := hl₁
  obtain ⟨ol, hol, _⟩ := hl₁'
  rw [show List.take 1 (List.drop 0 (u :: us).toArray.toList) = [u] by simp]
  rw [if_neg (show ¬ ([u].length < 1) from Nat.lt_irrefl 1)]
  refine wpAny_bind (wpAny_holding (PySem.W.kun_collect (s := { s with heap := h₁ }) (T := "tuple_iterator") (.inr (.inr (.inr rfl))) (Walks.tuple (A := X.A.in1) hh s.heap.objs.size a hlt (u :: us).toArray) (fun j u st => st.1.typeIs) (k := 1) (by simp) ⟨hit₁, hl₁⟩ (Heap.lt_size hoi) (Heap.lt_size hol) (fun h₂ tk hk => ?_) (by rw [sizeLine_eq]; simp; omega)))
  rw [show List.drop 1 (u :: us).toArray.toList = us by simp]
  show wpAny _ _ (if us.length < 2 - 1 - 1 then _ else _) _ _ _
  rw [if_neg (by omega)]
  show wpAny _ _ (newList (us.take (us.length - (2 - 1 - 1))) >>= fun d => pure ([u] ++ [d] ++ us.drop (us.length - (2 - 1 - 1)))) _ _ _
  rw [show us.length - (2 - 1 - 1) = us.length by omega, List.take_length, List.drop_length]
  have hkeep : ∀ b o, s.heap.get? b = some o → h₂.get? b = some o := fun b o e => hk b o (Nat.ne_of_lt (Heap.lt_size e)) (hs₁.extBut b o (Nat.ne_of_lt (Heap.lt_size e)) (Heap.get?_push_of_some _ e))
  have I2 : L2.Inv X pins σ H { s with heap := h₂, toks := tk } := I.kept hkeep
  refine wpAny_bind (wpAny_newObj_type (wpAny_pure ?_) (by show us.toArray.size ≤ sizeLine; rw [sizeLine_eq]; simp; omega))
  refine k h₂.objs.size _ u (I2.hok.fresh (Nat.le_refl _)) ?_ ru
  exact I2.laid (t' := tk) (h' := h₂.push { cls := .type "list", data := .seq us.toArray }) (fun b o e => Heap.get?_push_of_some _ e) (Nat.le_refl _) ⟨by rw [sizeLine_eq]; omega, us, 0, rus, Heap.get?_push_size _ rfl⟩
def gStar1 (K : PySem.W.Frag) (t : TGs) : TG := fun v σ H Q => ∃ a x xs, v = .ref a ∧ SqT K H a (x :: xs) ∧ xs.length ≤ 1000 ∧ ∀ p, H p = none → t [x, .ref p] σ (upd H p (.lst xs)) Q
theorem pg_star1 {t1 t2 : Expr} {p2 pos : Pos} {k : Nat} {t : TGs} (hc : X.calm = true) (h : PGs X [t1, t2] t) (hn : assignEach [t1, .Starred t2 p2] X.env = [(false, assign t1 X.env), (true, assign t2 X.env)] := by rfl)
    (hm : (assignEach [t1, t2] X.env).map (·.2) = [assign t1 X.env, assign t2 X.env] := by rfl) : PG X (.Tuple [t1, .Starred t2 p2] k pos) (gStar1 X.K t) := by
  refine ⟨fun pins s σ H v u Q I r ⟨a, x, xs, e1, hq, hz, hw⟩ => ?_⟩
  subst e1
  cases r
  rw [assign_Tuple]
  refine wpAny_bind (wpAny_standAt ?_)
  unfold unpack
  rw [hn]
  show wpAny _ _ ((holding [Value.ref a] (unpackItems (.ref a) 2 (some 1))) >>= fun vs => assignInOrder [assign t1 X.env, assign t2 X.env] vs) _ _ s
  refine wpAny_bind (wpAny_holding (star_unpack hc I hq hz fun p s' u hp I' ru => ?_))
  rw [← hm]
  exact h.run pins s' σ _ [x, .ref p] [u, .ref p] Q I' (.cons ru (.cons rfl .nil)) (hw p hp)
@[reducible] def dgStar1 (g : DTGs) : DTG := fun d ρ M Q => match d with
  | .tup (x :: xs) => xs.length ≤ 1000 ∧ g [x, .lst xs] ρ M Q
  | _ => False
theorem dg_star1 {t1 t2 : Expr} {p2 pos : Pos} {k : Nat} {g : DTGs} {js : List Nat} (hc : X.calm = true) (h : DGs X [t1, t2] g js) (hn : assignEach [t1, .Starred t2 p2] X.env = [(false, assign t1 X.env), (true, assign t2 X.env)] := by rfl)
    (hm : (assignEach [t1, t2] X.env).map (·.2) = [assign t1 X.env, assign t2 X.env] := by rfl) : DG X (.Tuple [t1, .Starred t2 p2] k pos) (dgStar1 g) js := by
  refine ⟨PG.of (pg_star1 hc h.pg hn hm) fun v σ H Q ⟨d, ρ, M, al, F, G, W, es, r, q⟩ => ?_, fun d ρ M Q Q' w q => ?_⟩
  · unfold dgStar1 at q
    split at q
    · next x xs =>
      cases r with
      | tup a b =>
        cases b with
        | cons b1 b2 =>
          refine ⟨_, _, _, rfl, SqT.of (W.sm _ _ a), (by rw [b2.length]; exact q.1), fun p hp => ?_⟩
          obtain ⟨W', e⟩ := W.newF (o := .lst _) hp
          exact ⟨_, ρ, M, al, _, G, W', es.ext e, .cons (b1.ext e) (.cons (.lst upd_same (b2.ext e)) .nil), h.mono _ _ _ _ _ (fun ρ' M' k al' F' H' σ' e' => k al' F' H' σ' (e.trans e')) q.2⟩
    · exact q.elim
  · unfold dgStar1 at q ⊢
    split at q
    · exact ⟨q.1, h.mono _ _ _ _ _ w q.2⟩
    · exact q.elim
end
/-! ### match -/
structure PM (X : Cx) (cs : List MatchCase) (t : V → TS) : Prop where
  run : ∀ (first : Bool) (pins : List (Addr × Obj)) (s : Shared) (σ : L2.St) (H : Hp) (v : V) (u : Value) (D : Ends), L2.Inv X pins σ H s → RelV v u → t v D σ H → wpAny (model X.prog X.w) X.A (matchCases cs X.env u first) (SP X pins D) X.xe s
section
variable {X : Cx} {e : Expr} {body : List Stmt} {rest : List MatchCase} {pos q : Pos}
theorem pm_any {t : TS} (h : PSs X body t) : PM X [⟨.MatchAs none none pos, none, body⟩] (fun _ => t) := by
  refine ⟨fun first pins s σ H v u D I r hw => ?_⟩
  refine wpAny_matchCases_cons (wpAny_matchPattern_Capture ?_)
  exact wpAny_assignInOrder_none (h.run pins s σ H D I hw)
theorem pm_str {x : Str} {j : Nat} {p : Pos} {t : TS} {tr : V → TS} (h : PSs X body t) (hr : PM X rest tr) : PM X (⟨.MatchValue (.Constant (.str x) j p) q, none, body⟩ :: rest) (fun v D σ H => ∃ y, v = .str y ∧ if decide (y = x) = true then t D σ H else tr v D σ H) := by
  refine ⟨fun first pins s σ H v u D I r ⟨y, ey, hw⟩ => ?_⟩
  subst ey
  obtain ⟨tk, rfl⟩ := r
  refine wpAny_matchCases_cons (wpAny_matchPattern_Value (thn ((pe_str (X := X) (x := x) (j := j) (pos := p)).run pins s σ H (fun z H1 => z = .str x ∧ H1 = H) I ⟨rfl, rfl⟩) fun z s1 ⟨zv, H1, I1, rz, ez, eH⟩ => ?_))
  subst ez eH
  obtain ⟨tz, rfl⟩ := rz
  have key := op_eq (X := X) pins s1 σ H1 (.str y) (.str x) (Value.str y tk) (Value.str x tz) (fun b H2 => b = .bl (decide (y = x)) ∧ H2 = H1) I1 ⟨tk, rfl⟩ ⟨tz, rfl⟩ ?_
  rotate_left
  · refine ⟨rfl, ?_, rfl⟩
    by_cases hyx : y = x
    · subst hyx; rw [decide_eq_true rfl, decide_eq_true rfl]
    · rw [decide_eq_false hyx, decide_eq_false fun z => hyx (by injection z)]
  refine wpAny_mono key (fun c s2 ⟨cv, H2, I2, rc, ec, e2⟩ => ?_) (fun _ _ z => z)
  · subst ec e2
    obtain rfl : c = Value.bool (decide (y = x)) := rc
    refine wpAny_truthy_bool ?_
    by_cases hyx : y = x
    · rw [decide_eq_true hyx] at hw ⊢
      exact wpAny_assignInOrder_none (h.run pins s2 σ _ D I2 hw)
    · rw [decide_eq_false hyx] at hw ⊢
      exact hr.run false pins s2 σ _ (.str y) _ D I2 ⟨tk, rfl⟩ hw
theorem ps_match {te : TE} {cs : List MatchCase} {t : V → TS} (he : PE X e te) (h : PM X cs t) : PS X (.Match e cs pos) (fun D σ H => te σ H fun v H1 => t v D σ H1) :=
  ⟨fun pins s σ H D I hw => wpAny_Match (thn (he.run pins s σ H _ I hw) fun u s1 ⟨v, H1, I1, r, q⟩ => h.run true pins s1 σ H1 v u D I1 r q)⟩
def LiftM (X : Cx) (f : D → DTS) : V → TS := fun v E σ H => ∃ d ρ M al F G, Wd X.K al F G H M ∧ Es X F G al σ ρ ∧ Rp X.K F al v d ∧ f d (kontS X.K al F G ρ.x E) ρ M
structure DM (X : Cx) (cs : List MatchCase) (f : D → DTS) : Prop where
  pm : PM X cs (LiftM X f)
  mono : ∀ d, MonoS (f d)
theorem PM.of {cs : List MatchCase} {t t' : V → TS} (h : PM X cs t) (w : ∀ v E σ H, t' v E σ H → t v E σ H) : PM X cs t' := ⟨fun first pins s σ H v u D I r q => h.run first pins s σ H v u D I r (w v D σ H q)⟩
theorem dm_any {f : DTS} (h : DSs X body f) : DM X [⟨.MatchAs none none pos, none, body⟩] (fun _ => f) :=
  ⟨PM.of (pm_any h.ps) fun v E σ H ⟨d, ρ, M, al, F, G, W, s, r, q⟩ => ⟨ρ, M, al, F, G, W, s, q⟩, fun _ => h.mono⟩
@[reducible] def dmStr (x : Str) (f : DTS) (g : D → DTS) : D → DTS := fun d E ρ M => match d with
  | .str y => if decide (y = x) = true then f E ρ M else g d E ρ M
  | _ => False
theorem dm_str {x : Str} {j : Nat} {p : Pos} {f : DTS} {g : D → DTS} (h : DSs X body f) (hr : DM X rest g) : DM X (⟨.MatchValue (.Constant (.str x) j p) q, none, body⟩ :: rest) (dmStr x f g) := by
  refine ⟨PM.of (pm_str h.ps hr.pm) fun v E σ H ⟨d, ρ, M, al, F, G, W, s, r, q⟩ => ?_, fun d D D' ρ M w q => ?_⟩
  · cases r with
    | str y =>
      refine ⟨y, rfl, ?_⟩
      replace q : if decide (y = x) = true then f (kontS X.K al F G ρ.x E) ρ M else g (.str y) (kontS X.K al F G ρ.x E) ρ M := q
      by_cases hyx : y = x
      · rw [decide_eq_true hyx] at q ⊢
        exact ⟨ρ, M, al, F, G, W, s, q⟩
      · rw [decide_eq_false hyx] at q ⊢
        exact ⟨_, ρ, M, al, F, G, W, s, .str y, q⟩
    | _ => exact q.elim
  · cases d with
    | str y =>
      show if decide (y = x) = true then f D' ρ M else g (.str y) D' ρ M
      replace q : if decide (y = x) = true then f D ρ M else g (.str y) D ρ M := q
      split at q
      · next hh => rw [if_pos hh]; exact h.mono _ _ _ _ w q
      · next hh => rw [if_neg hh]; exact hr.mono _ _ _ _ _ w q
    | _ => exact q.elim
@[reducible] def dMatch (fe : DTE) (f : D → DTS) : DTS := fun E ρ M => fe ρ M fun d M1 => f d E ρ M1
theorem ds_match {fe : DTE} {cs : List MatchCase} {f : D → DTS} (he : DE X e fe) (h : DM X cs f) : DS X (.Match e cs pos) (dMatch fe f) := by
  refine ⟨PS.of (ps_match he.pe h.pm) fun E σ H ⟨ρ, M, al, F, G, W, s, q⟩ => ?_, fun D D' ρ M w q => he.mono _ _ _ _ (fun d M1 q1 => h.mono d _ _ _ _ w q1) q⟩
  exact he.seq W s q fun d M1 al1 F1 H1 v q1 e1 W1 r1 s1 => ⟨d, ρ, M1, al1, F1, G, W1, s1, r1, h.mono d _ _ _ _ (kontS_ext e1) q1⟩
end
end DL

set_option maxHeartbeats 1000000
/-! DLF2: methods with one keyword-only parameter that has a default; len(o), str(o) by own defs; str(None); f-strings; join. -/
namespace DL
open PySem PySem.Spec PyProof.Rows L2 MT
section
variable {X : Cx} {CX : CXT} {o e v : Expr} {es : List Expr} {kws : List Keyword} {ta : TE} {t tk : TA} {fo fv : DTE} {fr : DTA} {pos apos p kpos : Pos} {m kn : Str} {k n : Nat} {C f : Addr} {fd : FuncData} {ps ks : List Str} {sp : Sp} {dvs : List V} {dds : List Value} {g : List Value → List Value → List Value} {gV : List V → List V → List V}
theorem peG_methD {E : L2.St → XK} {pl : Sem Bool} (he : PE X o ta) (c : Cls X.K C) (hm : Meth X.K C m f) (F : FnG X.prog X.w X.K X.mg X.base CX k f fd ps sp) (hgd : X.A.guards = some []) (hr : Room k X.A) (hb : Binds X.K fd ps dds) (hd : Vals dvs dds) (hx : ∀ σ, PassesAt CX X σ (E σ)) (ha : PA X (e :: es) t)
    (hst : starEach (e :: es) X.env = (false, eval e X.env) :: starEach es X.env := by rfl) (hpl : (backTo pos (starEach es X.env)).any (·.1) = false := by rfl)
    (ht : eval (.Call (.Attribute o m apos) (e :: es) [] pos) X.env = (do
      let ov ← eval o X.env
      standAt apos.atName
      let (f, first) ← holding [ov] (getMethod ov m pl)
      callWith pos f first (backTo pos (starEach (e :: es) X.env)) (backToKw pos (keywordEach [] X.env))) := by rfl) :
    PE X (.Call (.Attribute o m apos) (e :: es) [] pos) (fun σ H Q => ta σ H fun x H1 => ∃ a dx fs, x = .ref a ∧ H1 a = some (.ins C dx fs) ∧ fs.lookup m = none ∧ t σ H1 fun vs H2 => sp (x :: vs ++ dvs) H2 Q (E σ)) := by
  refine ⟨fun pins s σ H Q I h => ?_⟩
  refine PySem.W.methodCall_KW (pl := pl) (thn (he.run pins s σ H _ I h) fun u s1 ⟨x, H1, I1, rx, a, dx, fs, ex, ea, l, q⟩ => ?_) ht
  subst ex
  obtain rfl : u = Value.ref a := rx
  refine getmeth_ok I1 ea c hm l ?_
  refine PySem.W.callWith_K (first := [.ref a]) (h₀ := X.base) I.ok.mod.kin hm.kp (thn (ha.run pos pins s1 σ H1 _ I1 q) fun us s2 ⟨vs, H2, I2, r, q2⟩ => ⟨I2.kIn, ?_⟩) hst hpl
  exact runGS (us := .ref a :: us) (vs := .ref a :: vs) F hgd hr hb hd (hx σ) I2 (.cons rfl r) q2
theorem peG_meth0D {E : L2.St → XK} {pl : Sem Bool} (he : PE X o ta) (c : Cls X.K C) (hm : Meth X.K C m f) (F : FnG X.prog X.w X.K X.mg X.base CX k f fd ps sp) (hgd : X.A.guards = some []) (hr : Room k X.A) (hb : Binds X.K fd ps dds) (hd : Vals dvs dds) (hx : ∀ σ, PassesAt CX X σ (E σ))
    (ht : eval (.Call (.Attribute o m apos) [] [] pos) X.env = (do
      let ov ← eval o X.env
      standAt apos.atName
      let (f, first) ← holding [ov] (getMethod ov m pl)
      callWith pos f first (backTo pos (starEach [] X.env)) (backToKw pos (keywordEach [] X.env))) := by rfl) :
    PE X (.Call (.Attribute o m apos) [] [] pos) (fun σ H Q => ta σ H fun x H1 => ∃ a dx fs, x = .ref a ∧ H1 a = some (.ins C dx fs) ∧ fs.lookup m = none ∧ sp (x :: dvs) H1 Q (E σ)) := by
  refine ⟨fun pins s σ H Q I h => ?_⟩
  refine PySem.W.methodCall_KW (pl := pl) (thn (he.run pins s σ H _ I h) fun u s1 ⟨x, H1, I1, rx, a, dx, fs, ex, ea, l, q⟩ => ?_) ht
  subst ex
  obtain rfl : u = Value.ref a := rx
  refine getmeth_ok I1 ea c hm l ?_
  exact PySem.W.callWith_K0 (first := [.ref a]) I1.kIn hm.kp (runGS (us := [.ref a]) (vs := [.ref a]) F hgd hr hb hd (hx σ) I1 (.cons rfl .nil) q)
theorem peG_methK {E : L2.St → XK} {pl : Sem Bool} (he : PE X o ta) (c : Cls X.K C) (hm : Meth X.K C m f) (F : FnG X.prog X.w X.K X.mg X.base CX k f fd ps sp) (hgd : X.A.guards = some []) (hr : Room k X.A) (hb : KBn X.K fd ps n ks g gV) (hx : ∀ σ, PassesAt CX X σ (E σ)) (ha : PA X (e :: es) t) (hkw : PK X kws tk)
    (hall : (backToKw pos (keywordEach kws X.env)).all (·.1.isSome) = true := by rfl) (hks : (backToKw pos (keywordEach kws X.env)).filterMap (·.1) = ks := by rfl)
    (hst : starEach (e :: es) X.env = (false, eval e X.env) :: starEach es X.env := by rfl) (hpl : ((backTo pos (starEach (e :: es) X.env)).any (·.1) || (backToKw pos (keywordEach kws X.env)).any (·.1.isNone)) = false := by rfl)
    (ht : eval (.Call (.Attribute o m apos) (e :: es) kws pos) X.env = (do
      let ov ← eval o X.env
      standAt apos.atName
      let (f, first) ← holding [ov] (getMethod ov m pl)
      callWith pos f first (backTo pos (starEach (e :: es) X.env)) (backToKw pos (keywordEach kws X.env))) := by rfl) :
    PE X (.Call (.Attribute o m apos) (e :: es) kws pos) (fun σ H Q => ta σ H fun x H1 => ∃ a dx fs, x = .ref a ∧ H1 a = some (.ins C dx fs) ∧ fs.lookup m = none ∧ t σ H1 fun vs H2 => tk σ H2 fun zs H3 => vs.length + 1 = n ∧ zs.length = ks.length ∧ sp (gV (x :: vs) zs) H3 Q (E σ)) := by
  refine ⟨fun pins s σ H Q I h => ?_⟩
  refine PySem.W.methodCall_KW (pl := pl) (thn (he.run pins s σ H _ I h) fun u s1 ⟨x, H1, I1, rx, a, dx, fs, ex, ea, l, q⟩ => ?_) ht
  subst ex
  obtain rfl : u = Value.ref a := rx
  refine getmeth_ok I1 ea c hm l ?_
  refine PySem.W.callWith_KW (first := [.ref a]) (h₀ := X.base) I.ok.mod.kin hm.kp hall (thn (ha.run pos pins s1 σ H1 _ I1 q) fun us s2 ⟨vs, H2, I2, r, q2⟩ => thn (hkw.run pos pins s2 σ H2 _ I2 q2) fun ws s3 ⟨zs, H3, I3, rz, l1, l2, q3⟩ => ⟨I3.kIn, ?_⟩) hpl hst
  rw [hks]
  exact runGK (us := .ref a :: us) (vs := .ref a :: vs) F hgd hr hb (hx σ) I3 (.cons rfl r) rz l1 l2 q3
theorem peG_meth0K {E : L2.St → XK} {pl : Sem Bool} (he : PE X o ta) (c : Cls X.K C) (hm : Meth X.K C m f) (F : FnG X.prog X.w X.K X.mg X.base CX k f fd ps sp) (hgd : X.A.guards = some []) (hr : Room k X.A) (hb : KBn X.K fd ps 1 ks g gV) (hx : ∀ σ, PassesAt CX X σ (E σ)) (hkw : PK X kws tk)
    (hall : (backToKw pos (keywordEach kws X.env)).all (·.1.isSome) = true := by rfl) (hks : (backToKw pos (keywordEach kws X.env)).filterMap (·.1) = ks := by rfl)
    (hpl : ((backTo pos (starEach [] X.env)).any (·.1) || (backToKw pos (keywordEach kws X.env)).any (·.1.isNone)) = false := by rfl)
    (ht : eval (.Call (.Attribute o m apos) [] kws pos) X.env = (do
      let ov ← eval o X.env
      standAt apos.atName
      let (f, first) ← holding [ov] (getMethod ov m pl)
      callWith pos f first (backTo pos (starEach [] X.env)) (backToKw pos (keywordEach kws X.env))) := by rfl) :
    PE X (.Call (.Attribute o m apos) [] kws pos) (fun σ H Q => ta σ H fun x H1 => ∃ a dx fs, x = .ref a ∧ H1 a = some (.ins C dx fs) ∧ fs.lookup m = none ∧ tk σ H1 fun zs H3 => zs.length = ks.length ∧ sp (gV [x] zs) H3 Q (E σ)) := by
  refine ⟨fun pins s σ H Q I h => ?_⟩
  refine PySem.W.methodCall_KW (pl := pl) (thn (he.run pins s σ H _ I h) fun u s1 ⟨x, H1, I1, rx, a, dx, fs, ex, ea, l, q⟩ => ?_) ht
  subst ex
  obtain rfl : u = Value.ref a := rx
  refine getmeth_ok I1 ea c hm l ?_
  refine PySem.W.callWith_KW0 (first := [.ref a]) (h₀ := X.base) I.ok.mod.kin hm.kp hall (thn (hkw.run pos pins s1 σ H1 _ I1 q) fun ws s3 ⟨zs, H3, I3, rz, l2, q3⟩ => ⟨I3.kIn, ?_⟩) hpl
  rw [hks]
  exact runGK (us := [.ref a]) (vs := [.ref a]) F hgd hr hb (hx σ) I3 (.cons rfl .nil) rz rfl l2 q3
/-- a method with one keyword-only parameter that has a default -/
structure ClMeK (P : Program) (w : World) (K : PySem.W.Frag) (mg : Str → Option Value) (base : Heap) (C : Addr) (m : Str) (k : Nat) (ps : List Str) (n : Nat) (ks : List Str) (dd : List D) (ds : DSp) : Prop where
  ex : ∃ (f : Addr) (fd : FuncData), Cls K C ∧ Meth K C m f ∧ FnG P w K mg base (L2N.CX P w) k f fd ps (spOf K ds) ∧ (∃ dvs dds, Vals dvs dds ∧ (∀ F al, Rps K F al dvs dd) ∧ Binds K fd ps dds) ∧ ∃ g, KBn K fd ps n ks g (fun vs zs => vs ++ zs)
  mono : MonoSp ds
/-- o.m(e, ..) without the keyword -/
theorem d_methD {ds : DSp} {dd : List D} {pl : Sem Bool} (C0 : ClMeK X.prog X.w X.K X.mg X.base C m k ps n ks dd ds) (hgd : X.A.guards = some []) (hr : Room k X.A) (ho : DE X o fo) (ha : DA X (e :: es) fr)
    (hst : starEach (e :: es) X.env = (false, eval e X.env) :: starEach es X.env := by rfl) (hpl : (backTo pos (starEach es X.env)).any (·.1) = false := by rfl)
    (ht : eval (.Call (.Attribute o m apos) (e :: es) [] pos) X.env = (do
      let ov ← eval o X.env
      standAt apos.atName
      let (f, first) ← holding [ov] (getMethod ov m pl)
      callWith pos f first (backTo pos (starEach (e :: es) X.env)) (backToKw pos (keywordEach [] X.env))) := by rfl) :
    DE X (.Call (.Attribute o m apos) (e :: es) [] pos) (dMeth C m (fun args => ds (args ++ dd)) fo fr) := by
  obtain ⟨f, fd, c, hm, G, ⟨dvs, dds, hv, hrp, hb⟩, _⟩ := C0.ex
  have hmono := C0.mono
  refine ⟨PE.of (peG_methD ho.pe c hm G hgd hr hb hv (L2N.passAt (takesW X)) ha.pa hst hpl ht) fun σ H Q ⟨ρ, M, al, F, Gg, W, s, q⟩ => ?_, fun ρ M Q Q' w q => ho.mono _ _ _ _ (fun x M1 q1 => ?_) q⟩
  · refine ho.seq W s q fun x M1 al1 F1 H1 v q1 e1 W1 r1 s1 => ?_
    cases x with
    | ref n =>
      dsimp only at q1
      split at q1
      · next C' fs em =>
        obtain ⟨rfl, c2, q2⟩ := q1
        obtain ⟨p, dx, vs, rfl, _, h2, h3, h4⟩ := cell_ins W1 r1 em
        refine ⟨p, dx, vs, rfl, h2, look_gone h3 c2, ?_⟩
        refine ha.seq W1 s1 q2 fun args M2 al2 F2 H2 us q3 e2 W2 r2 s2 => ?_
        exact ⟨.ref n :: args ++ dd, M2, al2, F2, Gg, W2, (Rps.cons (r1.ext e2) r2).append (hrp _ _), hmono _ _ _ _ _ _ (fun d M3 k => kont.ext k (e1.trans e2)) (fun c fs M3 z al3 F3 H3 o e3 W3 f3 => s2.xo c fs ρ.v M3 al3 F3 H3 o σ e3 W3 (s2.sl.ext e3) f3 z) q3⟩
      · exact q1.elim
    | _ => exact q1.elim
  · cases x with
    | ref n =>
      dsimp only at q1 ⊢
      split at q1
      · exact ⟨q1.1, q1.2.1, ha.mono _ _ _ _ (fun args M2 q2 => hmono _ _ _ _ _ _ w (fun _ _ _ z => z) q2) q1.2.2⟩
      · exact q1.elim
    | _ => exact q1.elim
/-- o.m() without the keyword -/
theorem d_meth0D {ds : DSp} {dd : List D} {pl : Sem Bool} (C0 : ClMeK X.prog X.w X.K X.mg X.base C m k ps n ks dd ds) (hgd : X.A.guards = some []) (hr : Room k X.A) (ho : DE X o fo)
    (ht : eval (.Call (.Attribute o m apos) [] [] pos) X.env = (do
      let ov ← eval o X.env
      standAt apos.atName
      let (f, first) ← holding [ov] (getMethod ov m pl)
      callWith pos f first (backTo pos (starEach [] X.env)) (backToKw pos (keywordEach [] X.env))) := by rfl) :
    DE X (.Call (.Attribute o m apos) [] [] pos) (dMeth0 C m (fun args => ds (args ++ dd)) fo) := by
  obtain ⟨f, fd, c, hm, G, ⟨dvs, dds, hv, hrp, hb⟩, _⟩ := C0.ex
  have hmono := C0.mono
  refine ⟨PE.of (peG_meth0D ho.pe c hm G hgd hr hb hv (L2N.passAt (takesW X)) ht) fun σ H Q ⟨ρ, M, al, F, Gg, W, s, q⟩ => ?_, fun ρ M Q Q' w q => ho.mono _ _ _ _ (fun x M1 q1 => ?_) q⟩
  · refine ho.seq W s q fun x M1 al1 F1 H1 v q1 e1 W1 r1 s1 => ?_
    cases x with
    | ref n =>
      dsimp only at q1
      split at q1
      · next C' fs em =>
        obtain ⟨rfl, c2, q2⟩ := q1
        obtain ⟨p, dx, vs, rfl, _, h2, h3, h4⟩ := cell_ins W1 r1 em
        refine ⟨p, dx, vs, rfl, h2, look_gone h3 c2, ?_⟩
        exact ⟨.ref n :: dd, M1, al1, F1, Gg, W1, .cons r1 (hrp _ _), hmono _ _ _ _ _ _ (fun d M3 k => kont.ext k e1) (fun c fs M3 z al3 F3 H3 o e3 W3 f3 => s1.xo c fs ρ.v M3 al3 F3 H3 o σ e3 W3 (s1.sl.ext e3) f3 z) q2⟩
      · exact q1.elim
    | _ => exact q1.elim
  · cases x with
    | ref n =>
      dsimp only at q1 ⊢
      split at q1
      · exact ⟨q1.1, q1.2.1, hmono _ _ _ _ _ _ w (fun _ _ _ z => z) q1.2.2⟩
      · exact q1.elim
    | _ => exact q1.elim
@[reducible] def dMethK (C : Addr) (m : Str) (n : Nat) (ds : DSp) (fo : DTE) (fr : DTA) (fv : DTE) : DTE := fun ρ M Q => fo ρ M fun x M1 => match x with
  | .ref i => match M1[i]? with
    | some (.ins C' fs) => C' = C ∧ fs.lookup m = none ∧ fr ρ M1 fun args M2 => fv ρ M2 fun d M3 => args.length + 1 = n ∧ ds (.ref i :: args ++ [d]) M3 Q fun c fs M4 => ρ.x c fs ρ.v M4
    | _ => False
  | _ => False
/-- o.m(e, .., kn=v) -/
theorem d_methK {ds : DSp} {dd : List D} {pl : Sem Bool} (C0 : ClMeK X.prog X.w X.K X.mg X.base C m k ps n [kn] dd ds) (hgd : X.A.guards = some []) (hr : Room k X.A) (ho : DE X o fo) (ha : DA X (e :: es) fr) (hv : DE X v fv)
    (hall : (backToKw pos (keywordEach [⟨some kn, v, kpos⟩] X.env)).all (·.1.isSome) = true := by rfl) (hks : (backToKw pos (keywordEach [⟨some kn, v, kpos⟩] X.env)).filterMap (·.1) = [kn] := by rfl)
    (hst : starEach (e :: es) X.env = (false, eval e X.env) :: starEach es X.env := by rfl) (hpl : ((backTo pos (starEach (e :: es) X.env)).any (·.1) || (backToKw pos (keywordEach [⟨some kn, v, kpos⟩] X.env)).any (·.1.isNone)) = false := by rfl)
    (ht : eval (.Call (.Attribute o m apos) (e :: es) [⟨some kn, v, kpos⟩] pos) X.env = (do
      let ov ← eval o X.env
      standAt apos.atName
      let (f, first) ← holding [ov] (getMethod ov m pl)
      callWith pos f first (backTo pos (starEach (e :: es) X.env)) (backToKw pos (keywordEach [⟨some kn, v, kpos⟩] X.env))) := by rfl) :
    DE X (.Call (.Attribute o m apos) (e :: es) [⟨some kn, v, kpos⟩] pos) (dMethK C m n ds fo fr fv) := by
  obtain ⟨f, fd, c, hm, G, _, g, hb⟩ := C0.ex
  have hmono := C0.mono
  refine ⟨PE.of (peG_methK ho.pe c hm G hgd hr hb (L2N.passAt (takesW X)) ha.pa (pk_cons hv.pe pk_nil) hall hks hst hpl ht) fun σ H Q ⟨ρ, M, al, F, Gg, W, s, q⟩ => ?_, fun ρ M Q Q' w q => ho.mono _ _ _ _ (fun x M1 q1 => ?_) q⟩
  · refine ho.seq W s q fun x M1 al1 F1 H1 v q1 e1 W1 r1 s1 => ?_
    cases x with
    | ref i =>
      dsimp only at q1
      split at q1
      · next C' fs em =>
        obtain ⟨rfl, c2, q2⟩ := q1
        obtain ⟨p, dx, vs, rfl, _, h2, h3, h4⟩ := cell_ins W1 r1 em
        refine ⟨p, dx, vs, rfl, h2, look_gone h3 c2, ?_⟩
        refine ha.seq W1 s1 q2 fun args M2 al2 F2 H2 us q3 e2 W2 r2 s2 => ?_
        refine hv.seq W2 s2 q3 fun d M3 al3 F3 H3 u q4 e3 W3 r3 s3 => ?_
        exact ⟨by rw [r2.length]; exact q4.1, rfl, .ref i :: args ++ [d], M3, al3, F3, Gg, W3, (Rps.cons (r1.ext (e2.trans e3)) (r2.ext e3)).append (.cons r3 .nil), hmono _ _ _ _ _ _ (fun d M3 k => kont.ext k (e1.trans (e2.trans e3))) (fun c fs M4 z al4 F4 H4 o e4 W4 f4 => s3.xo c fs ρ.v M4 al4 F4 H4 o σ e4 W4 (s3.sl.ext e4) f4 z) q4.2⟩
      · exact q1.elim
    | _ => exact q1.elim
  · cases x with
    | ref i =>
      dsimp only at q1 ⊢
      split at q1
      · exact ⟨q1.1, q1.2.1, ha.mono _ _ _ _ (fun args M2 q2 => hv.mono _ _ _ _ (fun d M3 q3 => ⟨q3.1, hmono _ _ _ _ _ _ w (fun _ _ _ z => z) q3.2⟩) q2) q1.2.2⟩
      · exact q1.elim
    | _ => exact q1.elim
/-- o.m(kn=v) -/
theorem d_meth0K {ds : DSp} {dd : List D} {pl : Sem Bool} (C0 : ClMeK X.prog X.w X.K X.mg X.base C m k ps 1 [kn] dd ds) (hgd : X.A.guards = some []) (hr : Room k X.A) (ho : DE X o fo) (hv : DE X v fv)
    (hall : (backToKw pos (keywordEach [⟨some kn, v, kpos⟩] X.env)).all (·.1.isSome) = true := by rfl) (hks : (backToKw pos (keywordEach [⟨some kn, v, kpos⟩] X.env)).filterMap (·.1) = [kn] := by rfl)
    (hpl : ((backTo pos (starEach [] X.env)).any (·.1) || (backToKw pos (keywordEach [⟨some kn, v, kpos⟩] X.env)).any (·.1.isNone)) = false := by rfl)
    (ht : eval (.Call (.Attribute o m apos) [] [⟨some kn, v, kpos⟩] pos) X.env = (do
      let ov ← eval o X.env
      standAt apos.atName
      let (f, first) ← holding [ov] (getMethod ov m pl)
      callWith pos f first (backTo pos (starEach [] X.env)) (backToKw pos (keywordEach [⟨some kn, v, kpos⟩] X.env))) := by rfl) :
    DE X (.Call (.Attribute o m apos) [] [⟨some kn, v, kpos⟩] pos) (dMethK C m 1 ds fo dNil fv) := by
  obtain ⟨f, fd, c, hm, G, _, g, hb⟩ := C0.ex
  have hmono := C0.mono
  refine ⟨PE.of (peG_meth0K ho.pe c hm G hgd hr hb (L2N.passAt (takesW X)) (pk_cons hv.pe pk_nil) hall hks hpl ht) fun σ H Q ⟨ρ, M, al, F, Gg, W, s, q⟩ => ?_, fun ρ M Q Q' w q => ho.mono _ _ _ _ (fun x M1 q1 => ?_) q⟩
  · refine ho.seq W s q fun x M1 al1 F1 H1 v q1 e1 W1 r1 s1 => ?_
    cases x with
    | ref i =>
      dsimp only at q1
      split at q1
      · next C' fs em =>
        obtain ⟨rfl, c2, q2⟩ := q1
        obtain ⟨p, dx, vs, rfl, _, h2, h3, h4⟩ := cell_ins W1 r1 em
        refine ⟨p, dx, vs, rfl, h2, look_gone h3 c2, ?_⟩
        refine hv.seq W1 s1 q2 fun d M3 al3 F3 H3 u q4 e3 W3 r3 s3 => ?_
        exact ⟨rfl, [.ref i] ++ [d], M3, al3, F3, Gg, W3, (Rps.cons (r1.ext e3) .nil).append (.cons r3 .nil), hmono _ _ _ _ _ _ (fun d M3 k => kont.ext k (e1.trans e3)) (fun c fs M4 z al4 F4 H4 o e4 W4 f4 => s3.xo c fs ρ.v M4 al4 F4 H4 o σ e4 W4 (s3.sl.ext e4) f4 z) q4.2⟩
      · exact q1.elim
    | _ => exact q1.elim
  · cases x with
    | ref i =>
      dsimp only at q1 ⊢
      split at q1
      · exact ⟨q1.1, q1.2.1, hv.mono _ _ _ _ (fun d M3 q3 => ⟨q3.1, hmono _ _ _ _ _ _ w (fun _ _ _ z => z) q3.2⟩) q1.2.2⟩
      · exact q1.elim
    | _ => exact q1.elim
end
/-! ### len(o), str(o) by own defs -/
section
variable {X : Cx} {C f : Addr} {fd : FuncData} {ps : List Str} {k : Nat} {ds : DSp}
/-- an own def of one object, run inside a built-in -/
theorem own_run {pins : List (Addr × Obj)} {σ : L2.St} {H : Hp} {s : Shared} {a : Addr} {Q : VK} {R : Value → Shared → Prop} {A : Around} (hA : A = X.A.in1 ∨ A = X.A.in1.in1) (F : FnG X.prog X.w X.K X.mg X.base (L2N.CX X.prog X.w) k f fd ps (spOf X.K ds)) (hgd : X.A.guards = some []) (hr : Room (k + 2) X.A) (hb : Binds X.K fd ps [])
    (I : L2.Inv X pins σ H s) (h : spOf X.K ds [.ref a] H Q (fun _ _ _ => False)) (fin : ∀ u s', EP X pins σ Q u s' → R u s') : wpAny (model X.prog X.w) A (call (.ref f) [.ref a]) R X.xe s := by
  have hl : ([Value.ref a] ++ []).length = ps.length := by
    rw [← F.len _ _ _ _ h]
    rfl
  have go : ∀ A : Around, A.guards = some [] → Room k A → Env0 X.prog X.w X.K X.mg X.base A X.stack s H → wpAny (model X.prog X.w) A (call (.ref f) [.ref a]) R X.xe s := fun A hg hr he => by
    refine wpAny_call (codeAny_mono (F.run A X.stack s H ⟨[.ref a], []⟩ [.ref a] [.ref a] Q (fun _ _ _ => False) hg hr he (hb _ [.ref a] I.kIn hl) (.cons rfl .nil) h) fun r s' hq => ?_)
    match r, hq with
    | .error er, hq =>
      obtain ⟨_, _, _, _, _, _, _, _, _, _, _, _, z⟩ := hq
      exact z.elim
    | .ok (.ret u), hq => exact fin u s' (I.after hq)
    | .ok .next, hq => exact hq.elim
    | .ok .brk, hq => exact hq.elim
    | .ok .cont, hq => exact hq.elim
  rcases hA with rfl | rfl
  · exact go _ (in1_guards hgd) (hr.in1.mono (by omega)) I.env0.in1
  · exact go _ (in1_guards (in1_guards hgd)) hr.in1.in1 I.env0.in1.in1
@[reducible] def gLenO (C : Addr) (ds : DSp) : G1 := fun x M Q => match x with
  | .ref n => match M[n]? with
    | some (.ins C' fs) => C' = C ∧ ds [.ref n] M (fun v M2 => ∃ i : Int, v = .int i ∧ 0 ≤ i ∧ i < 2 ^ 62 ∧ Q (.int i) M2) fun _ _ _ => False
    | _ => False
  | _ => False
theorem gLenO_mono (hm : MonoSp ds) : Mono1 (gLenO C ds) := fun x M Q Q' w q => by
  cases x with
  | ref n =>
    unfold gLenO at q ⊢
    dsimp only at q ⊢
    split at q
    · exact ⟨q.1, hm _ _ _ _ _ _ (fun v M2 ⟨i, a, b, c, d⟩ => ⟨i, a, b, c, w _ _ d⟩) (fun _ _ _ z => z) q.2⟩
    · exact q.elim
  | _ => exact q.elim
theorem o_lenO (C0 : ClMe X.prog X.w X.K X.mg X.base C "__len__" k ps ds) (hgd : X.A.guards = some []) (hr : Room (k + 2) X.A) : ON X (.builtin "len") (g1 (gLenO C ds)) := by
  obtain ⟨f, fd, c, hm, G, hb⟩ := C0.ex
  have hmono := C0.mono
  refine ⟨fun pins s σ al F Gg H M xs us dd Q I rv W rs q => ?_, g1_mono (gLenO_mono hmono)⟩
  match dd, rs, q with
  | [], _, q => exact q.elim
  | _ :: _ :: _, _, q => exact q.elim
  | [d], .cons r .nil, q =>
    cases d with
    | ref n =>
      replace q : gLenO C ds (.ref n) M (kont X.K al F Gg Q) := q
      unfold gLenO at q
      dsimp only at q
      split at q
      · next C' fs em =>
        obtain ⟨rfl, q2⟩ := q
        obtain ⟨p, dx, vs, rfl, _, h2, h3, h4⟩ := cell_ins W r em
        cases rv with
        | cons r1 r2 =>
          cases r2
          obtain rfl : _ = Value.ref p := r1
          obtain ⟨mA, O, _, _, _, _⟩ := ins_get I.hok h2
          obtain ⟨od, J, _⟩ := O.look
          obtain ⟨mF, hF⟩ := I.fr
          refine PySem.W.len_K hF I.ok.mod.kin J hm.at_ hm.fn (own_run (.inl rfl) G hgd hr hb I (Q := fun v H1 => ∃ i : Int, v = .int i ∧ 0 ≤ i ∧ i < 2 ^ 62 ∧ Q (.int i) H1) ⟨[.ref n], M, al, F, Gg, W, .cons r .nil, hmono _ _ _ _ _ _ (fun v M2 ⟨i, e1, h0, h1, q3⟩ => ?_) (fun _ _ _ z => z.elim) q2⟩ fun u s' ⟨v, H', I', rv, i, e1, h0, h1, q3⟩ => ?_)
          · subst e1
            obtain ⟨t, rfl⟩ := rv
            exact ⟨⟨h0, by omega⟩, .int i, H', I'.tok _, ⟨_, rfl⟩, q3⟩
          · subst e1
            intro al' F' H' v e' W' r'
            cases r'
            exact ⟨i, rfl, h0, h1, q3 al' F' H' _ e' W' (.int i)⟩
      · exact q.elim
    | _ => exact q.elim
@[reducible] def gStrO (C : Addr) (ds : DSp) : G1 := fun x M Q => match x with
  | .ref n => match M[n]? with
    | some (.ins C' fs) => C' = C ∧ ds [.ref n] M (fun v M2 => ∃ y : Str, v = .str y ∧ Q (.str y) M2) fun _ _ _ => False
    | _ => False
  | _ => False
theorem gStrO_mono (hm : MonoSp ds) : Mono1 (gStrO C ds) := fun x M Q Q' w q => by
  cases x with
  | ref n =>
    unfold gStrO at q ⊢
    dsimp only at q ⊢
    split at q
    · exact ⟨q.1, hm _ _ _ _ _ _ (fun v M2 ⟨i, a, d⟩ => ⟨i, a, w _ _ d⟩) (fun _ _ _ z => z) q.2⟩
    · exact q.elim
  | _ => exact q.elim
theorem o_strO (C0 : ClMe X.prog X.w X.K X.mg X.base C "__str__" k ps ds) (hgd : X.A.guards = some []) (hr : Room (k + 2) X.A) : ON X (.type "str") (g1 (gStrO C ds)) := by
  obtain ⟨f, fd, c, hm, G, hb⟩ := C0.ex
  have hmono := C0.mono
  refine ⟨fun pins s σ al F Gg H M xs us dd Q I rv W rs q => ?_, g1_mono (gStrO_mono hmono)⟩
  match dd, rs, q with
  | [], _, q => exact q.elim
  | _ :: _ :: _, _, q => exact q.elim
  | [d], .cons r .nil, q =>
    cases d with
    | ref n =>
      replace q : gStrO C ds (.ref n) M (kont X.K al F Gg Q) := q
      unfold gStrO at q
      dsimp only at q
      split at q
      · next C' fs em =>
        obtain ⟨rfl, q2⟩ := q
        obtain ⟨p, dx, vs, rfl, _, h2, h3, h4⟩ := cell_ins W r em
        cases rv with
        | cons r1 r2 =>
          cases r2
          obtain rfl : _ = Value.ref p := r1
          obtain ⟨mA, O, _, _, _, _⟩ := ins_get I.hok h2
          obtain ⟨od, J, _⟩ := O.look
          refine PySem.W.kso_call hr.in1.in1.units0 I.kIn J hm.at_ hm.fn (own_run (.inr rfl) G hgd hr hb I (Q := fun v H1 => ∃ y : Str, v = .str y ∧ Q (.str y) H1) ⟨[.ref n], M, al, F, Gg, W, .cons r .nil, hmono _ _ _ _ _ _ (fun v M2 ⟨i, e1, q3⟩ => ?_) (fun _ _ _ z => z.elim) q2⟩ fun u s' ⟨v, H', I', rv, i, e1, q3⟩ => ?_)
          · subst e1
            obtain ⟨t, rfl⟩ := rv
            exact ⟨.str i, H', I', ⟨_, rfl⟩, q3⟩
          · subst e1
            intro al' F' H' v e' W' r'
            cases r'
            exact ⟨i, rfl, q3 al' F' H' _ e' W' (.str i)⟩
      · exact q.elim
    | _ => exact q.elim
/-- str of an int, a text, None -/
@[reducible] def gStrN : G1 := fun d M Q => match d with
  | .int i => i.natAbs.log2 < 1920 ∧ Q (.str (Str.ofString (toString i))) M
  | .str x => Q (.str x) M
  | .non => Q (.str "None") M
  | _ => False
theorem o_strN : ON X (.type "str") (g1 gStrN) := by
  refine ⟨fun pins s σ al F Gg H M xs us dd Q I rv W rs q => ?_, g1_mono fun d M Q Q' w q => ?_⟩
  · match dd, rs, q with
    | [], _, q => exact q.elim
    | _ :: _ :: _, _, q => exact q.elim
    | [d], .cons r .nil, q =>
      cases rv with
      | cons r1 r2 =>
        cases r2
        cases r with
        | int i =>
          obtain ⟨t, rfl⟩ := r1
          exact PySem.P.str_of_int q.1 ⟨.str _, H, I.tok _, ⟨_, rfl⟩, kont.here q.2 W (.str _)⟩
        | str i =>
          obtain ⟨t, rfl⟩ := r1
          exact PySem.P.str_of_str ⟨.str _, H, I, ⟨_, rfl⟩, kont.here q W (.str _)⟩
        | non =>
          obtain rfl : _ = Value.none := r1
          exact PySem.P.str_of_none ⟨.str _, H, I.tok _, ⟨_, rfl⟩, kont.here q W (.str _)⟩
        | _ => exact q.elim
  · cases d <;> first | exact q.elim | exact w _ _ q | exact ⟨q.1, w _ _ q.2⟩
end
/-! ### f-strings -/
section
variable {X : Cx} {e : Expr} {es : List Expr} {fe : DTE} {pos : Pos}
@[reducible] def gFmt : G1 := fun d M Q => match d with
  | .int i => i.natAbs.log2 < 1920 ∧ Q (.str (Str.ofString (toString i))) M
  | .str x => x.length ≤ sizeLine ∧ Q (.str x) M
  | .non => Q (.str "None") M
  | _ => False
theorem gFmt_mono : Mono1 gFmt := fun d M Q Q' w q => by
  cases d <;> first | exact q.elim | exact w _ _ q | exact ⟨q.1, w _ _ q.2⟩
/-- {e} -/
theorem d_fmt (h : DE X e fe) : DE X (.FormattedValue e (-1) none pos) (dUn gFmt fe) := by
  refine ⟨⟨fun pins s σ H Q I hh => ?_⟩, fun ρ M Q Q' w q => h.mono _ _ _ _ (fun x M1 q1 => gFmt_mono x M1 Q Q' w q1) q⟩
  obtain ⟨ρ, M, al, F, G, W, es, q⟩ := hh
  have hl : Lift X fe σ H (fun x H1 => ∃ dx M1 al1 F1, Wd X.K al1 F1 G H1 M1 ∧ Rp X.K F1 al1 x dx ∧ gFmt dx M1 (kont X.K al1 F1 G Q)) :=
    h.seq W es q fun dx M1 al1 F1 H1 v q1 e1 W1 r1 s1 => ⟨dx, M1, al1, F1, W1, r1, gFmt_mono _ _ _ _ (fun d M3 k => k.ext e1) q1⟩
  refine wpAny_FormattedValue_plain (thn (h.pe.run pins s σ H _ I hl) fun v s1 ⟨x, H1, I1, rx, dx, M1, al1, F1, W1, r1, k⟩ => ?_)
  cases r1 with
  | int i =>
    obtain ⟨t, rfl⟩ := rx
    exact wpAny_formatField_int k.1 ⟨.str _, H1, I1.tok _, ⟨_, rfl⟩, kont.here k.2 W1 (.str _)⟩
  | str i =>
    obtain ⟨t, rfl⟩ := rx
    exact wpAny_formatField_str ⟨.str _, H1, I1, ⟨t, rfl⟩, kont.here k.2 W1 (.str _)⟩ ⟨.str _, H1, I1.tok _, ⟨_, rfl⟩, kont.here k.2 W1 (.str _)⟩ k.1
  | non =>
    obtain rfl : _ = Value.none := rx
    exact wpAny_formatField_none ⟨.str _, H1, I1.tok _, ⟨_, rfl⟩, kont.here k W1 (.str _)⟩
  | _ => exact k.elim
/-- the parts, one behind the other -/
abbrev DTJ := Str → Dn → Sto → (Str → Sto → Prop) → Prop
@[reducible] def dJNil : DTJ := fun acc _ M Q => Q acc M
@[reducible] def dJCons (f : DTE) (g : DTJ) : DTJ := fun acc ρ M Q => f ρ M fun d M1 => match d with
  | .str y => (acc ++ y).length ≤ sizeLine ∧ g (acc ++ y) ρ M1 Q
  | _ => False
structure DJ (X : Cx) (es : List Expr) (f : DTJ) : Prop where
  run : ∀ (pins : List (Addr × Obj)) (σ : L2.St) (acc : Str) (s : Shared) (H : Hp) (Q : Str → Hp → Prop) (R : Str → Shared → Prop), acc.length ≤ sizeLine → L2.Inv X pins σ H s → (∃ ρ M al F G, Wd X.K al F G H M ∧ Es X F G al σ ρ ∧ f acc ρ M fun y M' => ∀ al' F' H', Ext al F al' F' → Wd X.K al' F' G H' M' → Q y H') →
    (∀ out s1 H1, out.length ≤ sizeLine → L2.Inv X pins σ H1 s1 → Q out H1 → R out s1) → Joins (model X.prog X.w) X.A X.xe (evalEach es X.env) acc R s
  mono : ∀ acc ρ M (Q Q' : Str → Sto → Prop), (∀ y M, Q y M → Q' y M) → f acc ρ M Q → f acc ρ M Q'
theorem dj_nil : DJ X [] dJNil := by
  refine ⟨fun pins σ acc s H Q R hz I ⟨ρ, M, al, F, G, W, es, q⟩ k => ?_, fun acc ρ M Q Q' w q => w _ _ q⟩
  have e0 : evalEach [] X.env = [] := by first | rfl | simp [evalEach]
  rw [e0]
  exact k acc s H hz I (q al F H (Ext.refl _ _) W)
theorem dj_cons {g : DTJ} (h : DE X e fe) (hr : DJ X es g) : DJ X (e :: es) (dJCons fe g) := by
  refine ⟨fun pins σ acc s H Q R hz I ⟨ρ, M, al, F, G, W, es', q⟩ k => ?_, fun acc ρ M Q Q' w q => h.mono _ _ _ _ (fun d M1 q1 => ?_) q⟩
  · have e0 : evalEach (e :: es) X.env = eval e X.env :: evalEach es X.env := by first | rfl | simp [evalEach]
    rw [e0]
    have hl : Lift X fe σ H (fun x H1 => ∃ y M1 al1 F1, x = .str y ∧ Wd X.K al1 F1 G H1 M1 ∧ Es X F1 G al1 σ ρ ∧ (acc ++ y).length ≤ sizeLine ∧ g (acc ++ y) ρ M1 fun y M' => ∀ al' F' H', Ext al1 F1 al' F' → Wd X.K al' F' G H' M' → Q y H') :=
      h.seq W es' q fun dx M1 al1 F1 H1 v q1 e1 W1 r1 s1 => by
        cases r1 with
        | str y => exact ⟨y, M1, al1, F1, rfl, W1, s1, q1.1, hr.mono _ _ _ _ _ (fun z M' kk al' F' H' e' => kk al' F' H' (e1.trans e')) q1.2⟩
        | _ => exact q1.elim
    refine thn (h.pe.run pins s σ H _ I hl) fun v s1 ⟨x, H1, I1, rx, y, M1, al1, F1, ex, W1, s1', hy, q1⟩ => ?_
    subst ex
    obtain ⟨tk, rfl⟩ := rx
    exact ⟨y, tk, rfl, hy, hr.run pins σ (acc ++ y) s1 H1 Q R hy I1 ⟨ρ, M1, al1, F1, G, W1, s1', q1⟩ k⟩
  · cases d <;> first | exact q1.elim | exact ⟨q1.1, hr.mono _ _ _ _ _ w q1.2⟩
@[reducible] def dJoined (g : DTJ) : DTE := fun ρ M Q => g Str.empty ρ M fun y M1 => Q (.str y) M1
/-- f'..' of two parts or more -/
theorem d_joined {v1 v2 : Expr} {rest : List Expr} {g : DTJ} (h : DJ X (v1 :: v2 :: rest) g) : DE X (.JoinedStr (v1 :: v2 :: rest) pos) (dJoined g) := by
  refine ⟨⟨fun pins s σ H Q I ⟨ρ, M, al, F, G, W, es, q⟩ => ?_⟩, fun ρ M Q Q' w q => h.mono _ _ _ _ _ (fun y M1 q1 => w _ _ q1) q⟩
  exact wpAny_JoinedStr (h.run pins σ Str.empty s H (fun out H1 => Q (.str out) H1) _ (Nat.zero_le _) I ⟨ρ, M, al, F, G, W, es, h.mono _ _ _ _ _ (fun y M1 q1 al' F' H' e' W' => q1 al' F' H' _ e' W' (.str y)) q⟩ fun out s1 H1 hz I1 q1 => ⟨hz, .str out, H1, I1.tok _, ⟨_, rfl⟩, q1⟩)
/-! ### join -/
def strsOf : List D → Option (List Str)
  | [] => some []
  | .str x :: ds => (strsOf ds).map (x :: ·)
  | _ => none
theorem strsOf_map : ∀ ys : List Str, strsOf (ys.map D.str) = some ys
  | [] => rfl
  | y :: ys => by show (strsOf (ys.map D.str)).map (y :: ·) = _; rw [strsOf_map ys]; rfl
theorem strsOf_ok {K : PySem.W.Frag} {F : Hp} {al : List Addr} : ∀ {ds : List D} {ys : List Str} {vs : List V}, strsOf ds = some ys → Rps K F al vs ds → vs = ys.map V.str
  | [], ys, vs, h, r => by cases r; cases h; rfl
  | d :: ds, ys, vs, h, r => by
    cases d with
    | str x =>
      replace h : (strsOf ds).map (x :: ·) = some ys := h
      cases e : strsOf ds with
      | none => rw [e] at h; cases h
      | some zs =>
        rw [e] at h
        cases h
        cases r with
        | cons r1 r2 => cases r1; rw [strsOf_ok e r2]; rfl
    | _ => cases h
@[reducible] def gJoin (a : Str) : G1 := fun y M Q => match itemsOf y M with
  | some ds => match strsOf ds with
    | some ys => (ys.map (·.length)).sum + ys.length * a.length ≤ 16777216 ∧ Q (.str (Str.join a ys)) M
    | none => False
  | none => False
theorem gJoin_mono (a : Str) : Mono1 (gJoin a) := fun y M Q Q' w q => by
  unfold gJoin at q ⊢
  split at q
  · split at q
    · exact ⟨q.1, w _ _ q.2⟩
    · exact q.elim
  · exact q.elim
@[reducible] def dJoin (fo fe : DTE) : DTE := fun ρ M Q => fo ρ M fun x M1 => match x with
  | .str a => fe ρ M1 fun y M2 => gJoin a y M2 Q
  | _ => False
/-- sep.join(a list | a tuple of texts) -/
theorem d_join {o : Expr} {fo : DTE} {apos : Pos} (ho : DE X o fo) (he : DE X e fe) (hs : starEach [e] X.env = [(false, eval e X.env)] := by rfl) (hbase : attributeBase o "join" X.env (eval o X.env) = eval o X.env := by rfl) (hline : (apos.endLine == pos.line) = true := by rfl) :
    DE X (.Call (.Attribute o "join" apos) [e] [] pos) (dJoin fo fe) := by
  refine ⟨PE.of (pe_join ho.pe he.pe hs hbase hline) fun σ H Q ⟨ρ, M, al, F, G, W, s, q⟩ => ?_, fun ρ M Q Q' w q => ho.mono _ _ _ _ (fun x M1 q1 => ?_) q⟩
  · refine ho.seq W s q fun x M1 al1 F1 H1 v q1 e1 W1 r1 s1 => ?_
    cases r1 with
    | str a =>
      refine ⟨⟨a, rfl⟩, ?_⟩
      refine he.seq W1 s1 q1 fun y M2 al2 F2 H2 u q2 e2 W2 r2 s2 => ?_
      unfold gJoin at q2
      split at q2
      · next ds ed =>
        split at q2
        · next ys es =>
          obtain ⟨p, xs, rfl, h1, rs⟩ := itemsOf_ok W2 r2 ed
          have hx := strsOf_ok es rs
          subst hx
          refine ⟨_, p, ys, rfl, rfl, ?_, q2.1, ?_⟩
          · rcases h1 with h1 | h1
            · exact .inr (SqT.of h1)
            · exact .inl (SqL.of h1)
          · rw [show Txt.join _ ys = Str.join _ ys from TL.join_eq _ ys]
            exact q2.2 al2 F2 H2 _ (e1.trans e2) W2 (.str _)
        · exact q2.elim
      · exact q2.elim
    | _ => exact q1.elim
  · cases x <;> first | exact q1.elim | exact he.mono _ _ _ _ (fun y M2 q2 => gJoin_mono _ _ _ _ _ w q2) q1
end
structure DfMK (K : PySem.W.Frag) (C : Addr) (m qual : Str) (st : Stmt) (kn : Str) (dv : V) : Prop where
  ex : ∃ (f : Addr) (fd : FuncData), FunK1 K m qual st kn dv f fd ∧ Meth K C m f
end DL

set_option maxHeartbeats 1000000
/-! DLF3: fields, plainly: states, edits, and a field in the store. -/
namespace DL
open PySem PySem.Spec PyProof.Rows L2 MT
abbrev Ps := List (Nat × Int)
abbrev FS := Tr × Ps
inductive Ed where
  | push (m : Nat) (v : Int) | pull (i : Nat) | stretch (m l : Nat)
@[reducible] def edD : Ed → D
  | .push m v => .tup [.str "push", natD m, .int v]
  | .pull i => .tup [.str "pull", natD i]
  | .stretch m l => .tup [.str "stretch", natD m, natD l]
def aft (s : FS) : Ed → FS
  | .push m v => (s.1, s.2 ++ [(m, v)])
  | .pull i => (s.1, s.2.take i ++ s.2.drop (i + 1))
  | .stretch m l => (s.1.take (m - 1) ++ [((s.1.getD (m - 1) (0, 0)).1, l)] ++ s.1.drop m, s.2)
structure StOk (s : FS) : Prop where
  tr : TreeOk s.1
  len : s.2.length ≤ 20
  ps : ∀ p ∈ s.2, PushOk s.1 p
def EdOk (s : FS) : Ed → Prop
  | .push m v => PushOk s.1 (m, v) ∧ s.2.length < 20
  | .pull i => i < s.2.length
  | .stretch m l => 1 ≤ m ∧ m ≤ s.1.length ∧ 1 ≤ l ∧ l ≤ 1000000
theorem stretch_len {t : Tr} {m : Nat} {x : Nat × Nat} (h1 : 1 ≤ m) (h2 : m ≤ t.length) : (t.take (m - 1) ++ [x] ++ t.drop m).length = t.length := by
  rw [List.length_append, List.length_append, List.length_take, List.length_drop, List.length_singleton]
  omega
theorem aft_ok {s : FS} {e : Ed} (h : StOk s) (he : EdOk s e) : StOk (aft s e) := by
  obtain ⟨t, ps⟩ := s
  cases e with
  | push m v =>
    refine ⟨h.tr, ?_, fun p hp => ?_⟩
    · show (ps ++ [(m, v)]).length ≤ 20
      rw [List.length_append, List.length_singleton]
      have h2 : ps.length < 20 := he.2
      omega
    · rcases List.mem_append.mp hp with hp | hp
      · exact h.ps p hp
      · rw [show p = (m, v) by simpa using hp]; exact he.1
  | pull i =>
    refine ⟨h.tr, ?_, fun p hp => ?_⟩
    · show (ps.take i ++ ps.drop (i + 1)).length ≤ 20
      rw [List.length_append, List.length_take, List.length_drop]
      have h2 : ps.length ≤ 20 := h.len
      omega
    · rcases List.mem_append.mp hp with hp | hp
      · exact h.ps p (List.mem_of_mem_take hp)
      · exact h.ps p (List.mem_of_mem_drop hp)
  | stretch m l =>
    obtain ⟨h1, h2, h3, h4⟩ := he
    replace h2 : m ≤ t.length := h2
    have hl := stretch_len (t := t) (x := ((t.getD (m - 1) (0, 0)).1, l)) h1 h2
    refine ⟨⟨?_, fun k p e => ?_⟩, h.len, fun p hp => ?_⟩
    · show (t.take (m - 1) ++ [_] ++ t.drop m).length ≤ 11
      rw [hl]; exact h.tr.1
    · replace e : (t.take (m - 1) ++ [((t.getD (m - 1) (0, 0)).1, l)] ++ t.drop m)[k]? = some p := e
      have ht : ∀ (k : Nat) (p : Nat × Nat), t[k]? = some p → p.1 ≤ k ∧ 1 ≤ p.2 ∧ p.2 ≤ 1000000 := h.tr.2
      rw [List.append_assoc] at e
      by_cases hk : k < m - 1
      · rw [List.getElem?_append_left (by rw [List.length_take]; omega), List.getElem?_take_of_lt hk] at e
        exact ht k p e
      · rw [List.getElem?_append_right (by rw [List.length_take]; omega), List.length_take, show min (m - 1) t.length = m - 1 by omega] at e
        by_cases hk2 : k = m - 1
        · subst hk2
          rw [Nat.sub_self] at e
          cases e
          have hm : m - 1 < t.length := by omega
          have := ht (m - 1) t[m - 1] (List.getElem?_eq_getElem hm)
          refine ⟨?_, h3, h4⟩
          show (t.getD (m - 1) (0, 0)).1 ≤ m - 1
          rw [List.getD_eq_getElem?_getD, List.getElem?_eq_getElem hm]
          exact this.1
        · rw [List.getElem?_append_right (by rw [List.length_singleton]; omega), List.length_singleton, List.getElem?_drop] at e
          exact ht k p (by rw [show k = m + (k - (m - 1) - 1) by omega]; exact e)
    · have := h.ps p hp
      unfold PushOk at this ⊢
      show p.1 ≤ (t.take (m - 1) ++ [_] ++ t.drop m).length ∧ _
      rw [hl]
      exact this
@[reducible] def psD (ps : Ps) : D := .tup (ps.map pushD)
@[reducible] def stateD (s : FS) : D := .tup [treeD s.1, psD s.2]
def tableL (s : FS) : List D := if s.2 = [] then List.replicate (s.1.length + 1) .non else (fallsT s.1 s.2).map D.int
@[reducible] def tableD (s : FS) : D := .tup (tableL s)
theorem StOk.psok {s : FS} (h : StOk s) (hne : s.2 ≠ []) : PsOk s.1 s.2 := ⟨hne, h.len, h.ps⟩
theorem tableL_len (s : FS) : (tableL s).length = s.1.length + 1 := by
  unfold tableL
  split
  · rw [List.length_replicate]
  · rw [List.length_map, fallsT_len]
theorem fall_bnd {t : Tr} (ht : TreeOk t) {ps : Ps} (hp : ∀ p ∈ ps, PushOk t p) (hne : ps ≠ []) {m : Nat} (hm : m ≤ t.length) : 0 ≤ fallT t ps m ∧ fallT t ps m ≤ 1022000000 := by
  obtain ⟨p, h1, e⟩ := fallT_mem (t := t) hne m
  obtain ⟨a, b, c⟩ := hp p h1
  have d0 := dist_nonneg t p.1 m
  have d1 := dist_le ht p.1 m
  have ht1 := ht.1
  rw [e]
  have : ((p.1 + m : Nat) : Int) * 1000000 ≤ 22000000 := by
    have : p.1 + m ≤ 22 := by omega
    omega
  omega
/-! ### a field in the store -/
/-- the five places of a field -/
structure Fp where
  n : Nat
  a : Nat
  b : Nat
  c : Nat
  d : Nat
structure Fp.Ok (p : Fp) : Prop where
  na : p.n ≠ p.a
  nb : p.n ≠ p.b
  nc : p.n ≠ p.c
  nd : p.n ≠ p.d
  ab : p.a ≠ p.b
  ac : p.a ≠ p.c
  ad : p.a ≠ p.d
  bc : p.b ≠ p.c
  bd : p.b ≠ p.d
  cd : p.c ≠ p.d
def fldL (p : Fp) (w : Bool) (more : List (Str × D)) : List (Str × D) := ("states", .ref p.a) :: ("tables", .ref p.b) :: ("notes", .ref p.c) :: ("standing", .ref p.d) :: ("watching", .bl w) :: more
@[reducible] def fldC (C : Addr) (p : Fp) (w : Bool) (more : List (Str × D)) : Cell := .ins C (fldL p w more)
theorem lk_states (p : Fp) (w : Bool) (more : List (Str × D)) : (fldL p w more).lookup ("states" : Str) = some (D.ref p.a) := rfl
theorem lk_tables (p : Fp) (w : Bool) (more : List (Str × D)) : (fldL p w more).lookup ("tables" : Str) = some (D.ref p.b) := rfl
theorem lk_notes (p : Fp) (w : Bool) (more : List (Str × D)) : (fldL p w more).lookup ("notes" : Str) = some (D.ref p.c) := rfl
theorem lk_standing (p : Fp) (w : Bool) (more : List (Str × D)) : (fldL p w more).lookup ("standing" : Str) = some (D.ref p.d) := rfl
theorem lk_watching (p : Fp) (w : Bool) (more : List (Str × D)) : (fldL p w more).lookup ("watching" : Str) = some (D.bl w) := rfl
/-- a field with these states (the present one last), notes and edits -/
structure Fld (C : Addr) (M : Sto) (p : Fp) (w : Bool) (more : List (Str × D)) (hs : List FS) (ns : List D) (es : List Ed) : Prop where
  ok : p.Ok
  ins : M[p.n]? = some (fldC C p w more)
  sts : M[p.a]? = some (.lst (hs.map stateD))
  tbs : M[p.b]? = some (.lst (hs.map tableD))
  nts : M[p.c]? = some (.lst ns)
  eds : M[p.d]? = some (.lst (es.map edD))
/-- the lists written anew -/
def putF (M : Sto) (p : Fp) (hs : List FS) (ns : List D) (es : List Ed) : Sto := (((M.set p.c (.lst ns)).set p.a (.lst (hs.map stateD))).set p.b (.lst (hs.map tableD))).set p.d (.lst (es.map edD))
theorem putF_len (M : Sto) (p : Fp) (hs : List FS) (ns : List D) (es : List Ed) : (putF M p hs ns es).length = M.length := by unfold putF; simp
theorem putF_get {M : Sto} {p : Fp} {hs : List FS} {ns : List D} {es : List Ed} {i : Nat} (ha : i ≠ p.a) (hb : i ≠ p.b) (hc : i ≠ p.c) (hd : i ≠ p.d) : (putF M p hs ns es)[i]? = M[i]? := by
  unfold putF
  rw [List.getElem?_set_ne (Ne.symm hd), List.getElem?_set_ne (Ne.symm hb), List.getElem?_set_ne (Ne.symm ha), List.getElem?_set_ne (Ne.symm hc)]
theorem Fld.put {C : Addr} {M : Sto} {p : Fp} {w : Bool} {more : List (Str × D)} {hs : List FS} {ns : List D} {es : List Ed} (F : Fld C M p w more hs ns es) (hs' : List FS) (ns' : List D) (es' : List Ed) : Fld C (putF M p hs' ns' es') p w more hs' ns' es' := by
  have hl : ∀ {i : Nat} {c : Cell}, M[i]? = some c → i < M.length := fun h => (List.getElem?_eq_some_iff.mp h).1
  have o := F.ok
  refine ⟨o, ?_, ?_, ?_, ?_, ?_⟩
  · rw [putF_get o.na o.nb o.nc o.nd]; exact F.ins
  · unfold putF
    rw [List.getElem?_set_ne (Ne.symm o.ad), List.getElem?_set_ne (Ne.symm o.ab), List.getElem?_set_self (by rw [List.length_set]; exact hl F.sts)]
  · unfold putF
    rw [List.getElem?_set_ne (Ne.symm o.bd), List.getElem?_set_self (by rw [List.length_set, List.length_set]; exact hl F.tbs)]
  · unfold putF
    rw [List.getElem?_set_ne (Ne.symm o.cd), List.getElem?_set_ne o.bc, List.getElem?_set_ne o.ac, List.getElem?_set_self (hl F.nts)]
  · unfold putF
    rw [List.getElem?_set_self (by rw [List.length_set, List.length_set, List.length_set]; exact hl F.eds)]
/-- the field is there whatever else changes -/
theorem Fld.keep {C : Addr} {M M' : Sto} {p : Fp} {w : Bool} {more : List (Str × D)} {hs : List FS} {ns : List D} {es : List Ed} (F : Fld C M p w more hs ns es) (h : ∀ i, i = p.n ∨ i = p.a ∨ i = p.b ∨ i = p.c ∨ i = p.d → M'[i]? = M[i]?) : Fld C M' p w more hs ns es :=
  ⟨F.ok, (h _ (.inl rfl)).trans F.ins, (h _ (.inr (.inl rfl))).trans F.sts, (h _ (.inr (.inr (.inl rfl)))).trans F.tbs, (h _ (.inr (.inr (.inr (.inl rfl))))).trans F.nts, (h _ (.inr (.inr (.inr (.inr rfl))))).trans F.eds⟩
theorem Fld.app {C : Addr} {M : Sto} {p : Fp} {w : Bool} {more : List (Str × D)} {hs : List FS} {ns : List D} {es : List Ed} (F : Fld C M p w more hs ns es) (M' : Sto) : Fld C (M ++ M') p w more hs ns es := by
  have hl : ∀ {i : Nat} {c : Cell}, M[i]? = some c → (M ++ M')[i]? = M[i]? := fun h => List.getElem?_append_left (List.getElem?_eq_some_iff.mp h).1
  exact ⟨F.ok, (hl F.ins).trans F.ins, (hl F.sts).trans F.sts, (hl F.tbs).trans F.tbs, (hl F.nts).trans F.nts, (hl F.eds).trans F.eds⟩
theorem last_at {α : Type} (f : α → D) (hs : List α) (x : α) : atI ((hs ++ [x]).map f) (-1) = some (f x) := by
  rw [List.map_append, List.map_cons, List.map_nil]
  exact atI_back _ _
/-- behind the deck -/
theorem dk_set {cs : List Int} {n : Int} {R : Sto} {i : Nat} {c : Cell} (h : 2 ≤ i) : (dk cs n ++ R).set i c = dk cs n ++ R.set (i - 2) c := by
  obtain ⟨j, rfl⟩ : ∃ j, i = j + 2 := ⟨i - 2, by omega⟩
  rfl
theorem dk_putF {cs : List Int} {n : Int} {R : Sto} {p : Fp} {hs : List FS} {ns : List D} {es : List Ed} (ha : 2 ≤ p.a) (hb : 2 ≤ p.b) (hc : 2 ≤ p.c) (hd : 2 ≤ p.d) : putF (dk cs n ++ R) p hs ns es = dk cs n ++ (((R.set (p.c - 2) (.lst ns)).set (p.a - 2) (.lst (hs.map stateD))).set (p.b - 2) (.lst (hs.map tableD))).set (p.d - 2) (.lst (es.map edD)) := by
  unfold putF
  rw [dk_set hc, dk_set ha, dk_set hb, dk_set hd]
theorem Fld.dk {C : Addr} {cs cs' : List Int} {n n' : Int} {R : Sto} {p : Fp} {w : Bool} {more : List (Str × D)} {hs : List FS} {ns : List D} {es : List Ed} (F : Fld C (dk cs n ++ R) p w more hs ns es) (h : 2 ≤ p.n ∧ 2 ≤ p.a ∧ 2 ≤ p.b ∧ 2 ≤ p.c ∧ 2 ≤ p.d) : Fld C (DL.dk cs' n' ++ R) p w more hs ns es := by
  refine F.keep fun i hi => ?_
  have h2 : 2 ≤ i := by rcases hi with rfl | rfl | rfl | rfl | rfl <;> omega
  obtain ⟨j, rfl⟩ : ∃ j, i = j + 2 := ⟨i - 2, by omega⟩
  rfl
theorem eqv_unit (ds : List D) : PyData.eqv (toPy (.tup ds)) (toPy (.tup [])) = decide (ds = []) := by
  cases ds with
  | nil => rfl
  | cons d ds => rfl
theorem pl_ps (ps : Ps) : Pl 2 (psD ps) := .tup fun d hd => by
  obtain ⟨p, _, rfl⟩ := List.mem_map.mp hd
  exact pl_push p
theorem pl_row (p : Nat × Nat) : Pl 1 (rowD p) := .tup fun d hd => by
  have : d = .int p.1 ∨ d = .int p.2 := by simpa using hd
  rcases this with rfl | rfl <;> exact .int _
theorem pl_tree (t : Tr) : Pl 2 (treeD t) := .tup fun d hd => by
  obtain ⟨p, _, rfl⟩ := List.mem_map.mp hd
  exact pl_row p
theorem pl_unit : Pl 1 (.tup []) := .tup (h := 0) fun d hd => nomatch hd
theorem ps_nil {ps : Ps} : decide (ps.map pushD = []) = decide (ps = []) := by
  cases ps with
  | nil => rfl
  | cons p ps => rfl
@[reducible] def fpAt (n : Nat) : Fp := ⟨n, n + 1, n + 2, n + 3, n + 4⟩
def newF (C : Addr) (n : Nat) (more : List (Str × D)) (t : Tr) : Sto := [fldC C (fpAt n) false more, .lst [stateD (t, [])], .lst [tableD (t, [])], .lst [.non], .lst []]
theorem fpAt_ok (n : Nat) : (fpAt n).Ok := ⟨by simp, by simp, by simp, by simp, by simp, by simp, by simp, by simp, by simp, by simp⟩
theorem newF_fld (C : Addr) (M : Sto) (more : List (Str × D)) (t : Tr) : Fld C (M ++ newF C M.length more t) (fpAt M.length) false more [(t, [])] [.non] [] := by
  have h : ∀ (j : Nat), (M ++ newF C M.length more t)[M.length + j]? = (newF C M.length more t)[j]? := fun j => by
    rw [List.getElem?_append_right (by omega)]
    congr 1
    omega
  exact ⟨fpAt_ok _, h 0, h 1, h 2, h 3, h 4⟩
def finD (s : FS) : D := if s.2 = [] then .non else .int (maxI (fallsT s.1 s.2))
/-! ### texts of numbers, the text of a field -/
def numT (i : Int) : Str := Str.ofString (toString i)
theorem numT_ok {i : Int} (h : i.natAbs < 10 ^ 12) : i.natAbs.log2 < 1920 ∧ (numT i).length ≤ 13 := ⟨of_decide_eq_true (Sh.int h).ok'.showable, (Sh.int h).ok'.len⟩
theorem fits_of {n : Nat} (h : n ≤ 1000000) : n ≤ sizeLine := by rw [sizeLine_eq]; omega
theorem len_app (x y : Str) : (x ++ y).length = x.length + y.length := by
  show (x.cps ++ y.cps).size = _
  rw [Array.size_append]
  rfl
def fldTxt (a b c d : Str) : Str := Str.empty ++ a ++ " marks, " ++ b ++ " pushes, finish " ++ c ++ ", " ++ d ++ " edits"
theorem fldTxt_eq (a b c d : Str) : Str.join " " [a, "marks,", b, "pushes, finish", c ++ ",", d] ++ " edits" = fldTxt a b c d := by
  refine TL.ext_tl ?_
  show TL.tl (a ++ " " ++ ("marks," ++ " " ++ (b ++ " " ++ ("pushes, finish" ++ " " ++ (c ++ "," ++ " " ++ d)))) ++ " edits") = _
  unfold fldTxt
  simp only [TL.tl_append, List.append_assoc]
  have e1 : TL.tl " marks, " = TL.tl " " ++ (TL.tl "marks," ++ TL.tl " ") := by decide +kernel
  have e2 : TL.tl " pushes, finish " = TL.tl " " ++ (TL.tl "pushes, finish" ++ TL.tl " ") := by decide +kernel
  have e3 : TL.tl ", " = TL.tl "," ++ TL.tl " " := by decide +kernel
  have e4 : TL.tl Str.empty = [] := rfl
  rw [e1, e2, e3, e4]
  simp only [List.append_assoc, List.nil_append]
def finT (s : FS) : Str := if s.2 = [] then "None" else numT (maxI (fallsT s.1 s.2))
/-! ### distances by the rows above one of two marks only -/
def xorL (t : Tr) (A B : List Nat) (m : Nat) : Int := if (decide (m ∈ A) != decide (m ∈ B)) = true then (ln t m : Int) else 0
def symd (t : Tr) (i j : Nat) : Int := ((above t i ++ above t j).map (xorL t (above t i) (above t j))).sum
theorem map_eq {α β : Type} {f g : α → β} : ∀ {l : List α}, (∀ x ∈ l, f x = g x) → l.map f = l.map g
  | [], _ => rfl
  | x :: l, h => by rw [List.map_cons, List.map_cons, h x List.mem_cons_self, map_eq fun y hy => h y (List.mem_cons_of_mem _ hy)]
theorem sum_zero : ∀ (l : List Nat) (f : Nat → Int), (∀ x ∈ l, f x = 0) → (l.map f).sum = 0
  | [], _, _ => rfl
  | x :: l, f, h => by rw [List.map_cons, List.sum_cons, h x List.mem_cons_self, sum_zero l f fun y hy => h y (List.mem_cons_of_mem _ hy)]; rfl
theorem symd_eq (t : Tr) (i j : Nat) : symd t i j = dist t i j := by
  suffices h : ∀ n i j, i + j ≤ n → symd t i j = dist t i j from h _ i j (Nat.le_refl _)
  intro n
  induction n with
  | zero =>
    intro i j h
    have h1 : i = 0 := by omega
    have h2 : j = 0 := by omega
    subst h1 h2
    rw [dist_self]
    exact sum_zero _ _ fun x _ => by unfold xorL; rw [bne_self_eq_false, if_neg (by decide)]
  | succ n ih =>
    intro i j h
    rcases Nat.lt_trichotomy i j with hij | hij | hij
    · have hp := par_lt t (m := j) (by omega)
      rw [dist_lt t hij, ← ih i (par t j) (by omega)]
      unfold symd
      rw [above_s t (m := j) (by omega)]
      have hi : ∀ x ∈ above t i, x ≠ j := fun x hx => by have := above_le t i x hx; omega
      have hq : ∀ x ∈ above t (par t j), x ≠ j := fun x hx => by have := above_le t _ x hx; omega
      have hni : j ∉ above t i := fun z => hi j z rfl
      have key : ∀ x, x ≠ j → xorL t (above t i) (j :: above t (par t j)) x = xorL t (above t i) (above t (par t j)) x := fun x hx => by
        unfold xorL
        rw [show decide (x ∈ j :: above t (par t j)) = decide (x ∈ above t (par t j)) by simp [hx]]
      rw [List.map_append, List.sum_append, List.map_cons, List.sum_cons, map_eq fun x hx => key x (hi x hx), map_eq fun x hx => key x (hq x hx)]
      rw [show xorL t (above t i) (j :: above t (par t j)) j = (ln t j : Int) by unfold xorL; rw [if_pos (by simp [hni])]]
      rw [List.map_append, List.sum_append]
      omega
    · subst hij
      rw [dist_self]
      exact sum_zero _ _ fun x _ => by unfold xorL; rw [bne_self_eq_false, if_neg (by decide)]
    · have hp := par_lt t (m := i) (by omega)
      rw [dist_gt t hij, ← ih (par t i) j (by omega)]
      unfold symd
      rw [above_s t (m := i) (by omega)]
      have hi : ∀ x ∈ above t j, x ≠ i := fun x hx => by have := above_le t j x hx; omega
      have hq : ∀ x ∈ above t (par t i), x ≠ i := fun x hx => by have := above_le t _ x hx; omega
      have hni : i ∉ above t j := fun z => hi i z rfl
      have key : ∀ x, x ≠ i → xorL t (i :: above t (par t i)) (above t j) x = xorL t (above t (par t i)) (above t j) x := fun x hx => by
        unfold xorL
        rw [show decide (x ∈ i :: above t (par t i)) = decide (x ∈ above t (par t i)) by simp [hx]]
      rw [List.cons_append, List.map_cons, List.sum_cons, List.map_append, List.sum_append, map_eq fun x hx => key x (hi x hx), map_eq fun x hx => key x (hq x hx)]
      rw [show xorL t (i :: above t (par t i)) (above t j) i = (ln t i : Int) by unfold xorL; rw [if_pos (by simp [hni])]]
      rw [List.map_append, List.sum_append]
theorem fVs_nats : ∀ xs : List Nat, fVs (xs.map natD) = some (xs.map fun (i : Nat) => V.int (i : Int))
  | [] => rfl
  | x :: xs => by
    show (match some (V.int (x : Int)), fVs (xs.map natD) with | some v, some vs => some (v :: vs) | _, _ => none) = _
    rw [fVs_nats xs]
    rfl
theorem inV_nats (m : Nat) : ∀ xs : List Nat, inV (V.int (m : Int)) (xs.map fun (i : Nat) => V.int (i : Int)) = decide (m ∈ xs)
  | [] => rfl
  | x :: xs => by
    have ih := inV_nats m xs
    unfold inV at ih ⊢
    rw [List.map_cons, List.any_cons, ih]
    show (((x : Int) == (m : Int)) || decide (m ∈ xs)) = _
    by_cases e : x = m
    · subst e
      simp
    · have h1 : ((x : Int) == (m : Int)) = false := by
        rw [beq_eq_false_iff_ne]
        omega
      rw [h1, Bool.false_or]
      simp [Ne.symm e]
end DL

set_option maxHeartbeats 1000000
/-! DLF4: try whose body raises nothing, finally behind it; a dict of the module; isinstance of data and a tuple of built-in classes. -/
namespace DL
open PySem PySem.Spec PyProof.Rows L2 MT
section
variable {X : Cx} {body : List Stmt} {h₀ : ExceptHandler} {hs : List ExceptHandler} {f₀ : Stmt} {fs : List Stmt} {pos : Pos} {f g : DTS} {t tf : TS}
@[reducible] def dTryQ (f : DTS) : DTS := fun D ρ M => f (endsX D ρ.x) ⟨ρ.v, noX⟩ M
theorem ds_tryQ (h : DSs X.nox body f) : DS X (.Try body (h₀ :: hs) [] [] pos) (dTryQ f) := by
  refine ⟨PS.of (ps_try_thru0 h.ps) fun E σ H ⟨ρ, M, al, F, G, W, es, q⟩ => ?_, fun D D' ρ M w q => h.mono (endsX D ρ.x) (endsX D' ρ.x) _ _ ⟨fun _ _ k => w.nx _ _ k, w.rt, fun _ _ k => w.bk _ _ k, fun _ _ k => w.ct _ _ k⟩ q⟩
  refine ⟨⟨ρ.v, noX⟩, M, al, F, G, W, Es.none es.sl rfl, MonoS.up h.mono q ⟨fun ρ1 M1 k al1 F1 H1 σ1 e1 W1 s1 _ => ?_, fun d M1 k => k, fun ρ1 M1 k al1 F1 H1 σ1 e1 W1 s1 _ => ?_, fun ρ1 M1 k al1 F1 H1 σ1 e1 W1 s1 _ => ?_⟩⟩
  · exact (show kN X.K al F G ρ.x E.nx ⟨ρ1.v, ρ.x⟩ M1 from k) al1 F1 H1 σ1 e1 W1 s1 rfl
  · exact (show kN X.K al F G ρ.x E.bk ⟨ρ1.v, ρ.x⟩ M1 from k) al1 F1 H1 σ1 e1 W1 s1 rfl
  · exact (show kN X.K al F G ρ.x E.ct ⟨ρ1.v, ρ.x⟩ M1 from k) al1 F1 H1 σ1 e1 W1 s1 rfl
/-- try: body / finally: suite, where nothing is raised and the body runs to its end -/
theorem ps_finQ (hb : PSs X.nox body t) (hf : PSs X.nox (f₀ :: fs) tf) : PS X (.Try body [] [] (f₀ :: fs) pos) (fun D σ H => t { nx := fun σ1 H1 => tf D σ1 H1, rt := fun _ _ => False } σ H) := by
  refine ⟨fun pins s σ H D I h => ?_⟩
  refine wpAny_Try_finally (wpAny_mono (hb.run pins s σ H _ (I.wish _) h) (fun fl s1 q => ?_) fun e s1 z => z.elim)
  have q' : SP X pins { nx := fun σ1 H1 => tf D σ1 H1, rt := fun _ _ => False } fl s1 := q.unwish
  cases fl with
  | next =>
    obtain ⟨σ1, H1, I1, q1⟩ := q'
    refine wpAny_execs_nil ?_
    refine wpAny_mono (hf.run pins s1 σ1 H1 D (I1.wish _) q1) (fun g s2 q2 => ?_) fun _ _ z => False.elim z
    have q3 : SP X pins D g s2 := q2.unwish
    cases g <;> exact q3
  | ret v => obtain ⟨_, _, _, _, _, z⟩ := q'; exact z.elim
  | brk => obtain ⟨_, _, _, z⟩ := q'; exact z.elim
  | cont => obtain ⟨_, _, _, z⟩ := q'; exact z.elim
@[reducible] def dFinQ (f g : DTS) : DTS := fun D ρ M => f { nx := fun ρ1 M1 => g (endsX D ρ.x) ⟨ρ1.v, noX⟩ M1, rt := fun _ _ => False } ⟨ρ.v, noX⟩ M
theorem ds_finQ (hb : DSs X.nox body f) (hf : DSs X.nox (f₀ :: fs) g) : DS X (.Try body [] [] (f₀ :: fs) pos) (dFinQ f g) := by
  have mg0 := hf.mono
  refine ⟨PS.of (ps_finQ hb.ps hf.ps) fun E σ H ⟨ρ, M, al, F, G, W, es, q⟩ => ?_, fun D D' ρ M w q => hb.mono { nx := fun ρ1 M1 => g (endsX D ρ.x) ⟨ρ1.v, noX⟩ M1, rt := fun _ _ => False } { nx := fun ρ1 M1 => g (endsX D' ρ.x) ⟨ρ1.v, noX⟩ M1, rt := fun _ _ => False } _ _ ⟨fun ρ1 M1 k => mg0 (endsX D ρ.x) (endsX D' ρ.x) _ _ ⟨fun _ _ k => w.nx _ _ k, w.rt, fun _ _ k => w.bk _ _ k, fun _ _ k => w.ct _ _ k⟩ k, fun _ _ z => z, fun _ _ z => z, fun _ _ z => z⟩ q⟩
  refine ⟨⟨ρ.v, noX⟩, M, al, F, G, W, Es.none es.sl rfl, MonoS.up hb.mono q ⟨fun ρ1 M1 k al1 F1 H1 σ1 e1 W1 s1 _ => ?_, fun d M1 k => k.elim, fun ρ1 M1 k => k.elim, fun ρ1 M1 k => k.elim⟩⟩
  refine ⟨⟨ρ1.v, noX⟩, M1, al1, F1, G, W1, Es.none s1 rfl, MonoS.up mg0 k ⟨fun ρ2 M2 k al2 F2 H2 σ2 e2 W2 s2 _ => ?_, fun d M2 k => kont.ext k e1, fun ρ2 M2 k al2 F2 H2 σ2 e2 W2 s2 _ => ?_, fun ρ2 M2 k al2 F2 H2 σ2 e2 W2 s2 _ => ?_⟩⟩
  · exact (show kN X.K al F G ρ.x E.nx ⟨ρ2.v, ρ.x⟩ M2 from k) al2 F2 H2 σ2 (e1.trans e2) W2 s2 rfl
  · exact (show kN X.K al F G ρ.x E.bk ⟨ρ2.v, ρ.x⟩ M2 from k) al2 F2 H2 σ2 (e1.trans e2) W2 s2 rfl
  · exact (show kN X.K al F G ρ.x E.ct ⟨ρ2.v, ρ.x⟩ M2 from k) al2 F2 H2 σ2 (e1.trans e2) W2 s2 rfl
end
/-! ### a dict of the module: text keys, int values -/
/-- what stands at a name of the module: a dict with these entries and no others -/
structure KTab (w : World) (K : PySem.W.Frag) (mg : Str → Option Value) (x : Str) (tb : List (Str × Int)) : Prop where
  ex : ∃ (d : Addr) (es : Array DictEntry) (n : Nat), mg x = some (.ref d) ∧ K.lookup d = some ⟨.type "dict", none, .dict es n, #[]⟩ ∧ PySem.W.KeysLit w.params es.toList ∧ (d == sysModules) = false ∧ ∀ (z : Str) (i : Int), (z, i) ∈ tb → ∃ t, PySem.W.nsIn K d z = some (some (.int i t))
section
variable {X : Cx} {a : Expr} {fa : DTE} {pos p : Pos} {x : Str} {tb : List (Str × Int)}
/-- e in x, for keys that are there -/
@[reducible] def dInK (tb : List (Str × Int)) (fa : DTE) : DTE := fun ρ M Q => fa ρ M fun d M1 => match d with
  | .str z => (∃ i, (z, i) ∈ tb) ∧ Q (.bl true) M1
  | _ => False
theorem d_inK (T : KTab X.w X.K X.mg x tb) (h : DE X a fa) (hg : Gl X x := by rfl) (hd : (x == ("__debug__" : Str)) = false := by decide) (hm : behindInMarks .In (.Name x p) = false := by first | exact nobehind _ (by decide) (by decide) | rfl) : DE X (.Compare a [.In] [.Name x p] pos) (dInK tb fa) := by
  obtain ⟨d, es, n, hmg, hlk, hlit, hlow, hns⟩ := T.ex
  refine ⟨⟨fun pins s σ H Q I ⟨ρ, M, al, F, G, W, sl, q⟩ => ?_⟩, fun ρ M Q Q' w q => h.mono _ _ _ _ (fun d M1 q1 => by cases d <;> first | exact q1.elim | exact ⟨q1.1, w _ _ q1.2⟩) q⟩
  have hl : Lift X fa σ H (fun v H1 => ∃ z, v = .str z ∧ (∃ i, (z, i) ∈ tb) ∧ Q (.bl true) H1) := h.seq W sl q fun dx M1 al1 F1 H1 v q1 e1 W1 r1 s1 => by
    cases r1 with
    | str z => exact ⟨z, rfl, q1.1, q1.2 al1 F1 H1 _ e1 W1 (.bl true)⟩
    | _ => exact q1.elim
  refine wpAny_Compare1 (thn (h.pe.run pins s σ H _ I hl) fun v s1 ⟨vv, H1, I1, rv, z, ez, ⟨i, hi⟩, q1⟩ => ?_) hm
  subst ez
  obtain ⟨t, ht⟩ := hns z i hi
  refine thn ((pe_glob (X := X) (pos := p) (v := .ref d) hg hmg rfl hd).run pins s1 σ H1 (fun y H2 => y = .ref d ∧ H2 = H1) I1 ⟨rfl, rfl⟩) fun u s2 ⟨yv, H2, I2, ry, ey, eH⟩ => ?_
  subst ey eH
  exact op_in_kd ⟨hlk, hlit, hlow⟩ pins s2 σ _ (.str z) (.ref d) v u Q I2 rv ry ⟨z, _, rfl, rfl, ht, q1⟩
/-- x[e], for keys that are there -/
@[reducible] def dIxK (tb : List (Str × Int)) (fb : DTE) : DTE := fun ρ M Q => fb ρ M fun d M1 => match d with
  | .str z => ∃ i, (z, i) ∈ tb ∧ Q (.int i) M1
  | _ => False
theorem d_ixK (T : KTab X.w X.K X.mg x tb) (h : DE X a fa) (hs : PlainIx a) (hg : Gl X x := by rfl) (hd : (x == ("__debug__" : Str)) = false := by decide) : DE X (.Subscript (.Name x p) a pos) (dIxK tb fa) := by
  obtain ⟨d, es, n, hmg, hlk, hlit, hlow, hns⟩ := T.ex
  refine ⟨PE.of (pe_ix ix_kdict (pe_glob (v := .ref d) hg hmg rfl hd) h.pe hs) fun σ H Q ⟨ρ, M, al, F, G, W, sl, q⟩ => ?_, fun ρ M Q Q' w q => h.mono _ _ _ _ (fun d M1 q1 => by cases d <;> first | exact q1.elim | exact ⟨q1.1, q1.2.1, w _ _ q1.2.2⟩ | (obtain ⟨i, a, b⟩ := q1; exact ⟨i, a, w _ _ b⟩)) q⟩
  refine h.seq W sl q fun dx M1 al1 F1 H1 v q1 e1 W1 r1 s1 => ?_
  cases r1 with
  | str z =>
    obtain ⟨i, hi, q2⟩ := q1
    obtain ⟨t, ht⟩ := hns z i hi
    exact ⟨d, z, .int i, rfl, rfl, ⟨es, n, _, hlk, hlit, ht, ⟨t, rfl⟩⟩, q2 al1 F1 H1 _ e1 W1 (.int i)⟩
  | _ => exact q1.elim
/-- isinstance(x, (list, tuple)) of data -/
@[reducible] def dIsiLT (fa : DTE) : DTE := fun ρ M Q => fa ρ M fun d M1 => match tyNm d M1 with
  | some t => Q (.bl (tabList t || tabTuple t)) M1
  | none => False
theorem d_isiLT {k : Nat} {p p2 p3 p4 : Pos} (hm : X.mg "isinstance" = none) (h : DE X a fa) (hc : NmCs X [.Name "list" p3, .Name "tuple" p4] [.type "list", .type "tuple"]) (hg : Gl X "isinstance" := by rfl)
    (hs : starEach [a, .Tuple [.Name "list" p3, .Name "tuple" p4] k p2] X.env = (false, eval a X.env) :: starEach [.Tuple [.Name "list" p3, .Name "tuple" p4] k p2] X.env := by rfl) (hs2 : starEach [.Tuple [.Name "list" p3, .Name "tuple" p4] k p2] X.env = (false, eval (.Tuple [.Name "list" p3, .Name "tuple" p4] k p2) X.env) :: starEach [] X.env := by rfl) (hpl : (backTo pos (starEach [.Tuple [.Name "list" p3, .Name "tuple" p4] k p2] X.env)).any (·.1) = false := by rfl) :
    DE X (.Call (.Name "isinstance" p) [a, .Tuple [.Name "list" p3, .Name "tuple" p4] k p2] [] pos) (dIsiLT fa) := by
  obtain ⟨vs, t, ht, kk, w⟩ := hc.pa
  refine ⟨PE.of (pe_callB call_isiT hg hm (by decide +kernel) (pa_cons h.pe (pa_cons (pe_tup ht) pa_nil hs2) hs) (by decide) (by decide) hs hpl) fun σ H Q ⟨ρ, M, al, F, G, W, s, q⟩ => ?_, fun ρ M Q Q' w q => h.mono _ _ _ _ (fun d M1 q1 => ?_) q⟩
  · refine h.seq W s q fun d M1 al1 F1 H1 v q1 e1 W1 r1 s1 => ?_
    split at q1
    · next tn e =>
      refine w σ H1 _ ⟨by rw [Paired.len kk]; decide, fun tp htp => ?_⟩
      obtain ⟨W2, e2⟩ := W1.newF (p := tp) (o := .tup vs) htp
      refine ⟨v, tp, vs, .type tn, _, tabList tn || tabTuple tn, rfl, upd_same, kk, tyNm_ok W2 (r1.ext e2) e, ?_, q1 al1 _ _ _ (e1.trans e2) W2 (.bl _)⟩
      cases hl : tabList tn with
      | true => exact kit_yes (by rw [← hl]; exact kit_ty (tab_list tn (tyNm_in e)))
      | false =>
        refine kit_no (by rw [← hl]; exact kit_ty (tab_list tn (tyNm_in e))) ?_
        cases ht : tabTuple tn with
        | true => exact kit_yes (by rw [← ht]; exact kit_ty (tab_tuple tn (tyNm_in e)))
        | false => exact kit_no (by rw [← ht]; exact kit_ty (tab_tuple tn (tyNm_in e))) kit_nil
    · exact q1.elim
  · try dsimp only at q1 ⊢
    split at q1
    · exact w _ _ q1
    · exact q1.elim
end
end DL

set_option maxHeartbeats 1000000
/-! DLF5: edits one after the other, plainly; the lists of a field written again and again. -/
namespace DL
open PySem PySem.Spec PyProof.Rows L2 MT
def runE (s : FS) : List Ed → List FS
  | [] => []
  | e :: es => aft s e :: runE (aft s e) es
def endE (s : FS) : List Ed → FS
  | [] => s
  | e :: es => endE (aft s e) es
def Chain (s : FS) : List Ed → Prop
  | [] => True
  | e :: es => EdOk s e ∧ Chain (aft s e) es
theorem runE_len (es : List Ed) : ∀ s, (runE s es).length = es.length := by
  induction es with
  | nil => intro s; rfl
  | cons e es ih => intro s; show (runE (aft s e) es).length + 1 = _; rw [ih]; rfl
theorem runE_snoc (es : List Ed) (e : Ed) : ∀ s, runE s (es ++ [e]) = runE s es ++ [aft (endE s es) e] := by
  induction es with
  | nil => intro s; rfl
  | cons x es ih => intro s; show aft s x :: runE (aft s x) (es ++ [e]) = _; rw [ih]; rfl
theorem endE_snoc (es : List Ed) (e : Ed) : ∀ s, endE s (es ++ [e]) = aft (endE s es) e := by
  induction es with
  | nil => intro s; rfl
  | cons x es ih => intro s; show endE (aft s x) (es ++ [e]) = _; rw [ih]; rfl
theorem chn_ok {es : List Ed} : ∀ {s}, StOk s → Chain s es → StOk (endE s es) := by
  induction es with
  | nil => intro s h _; exact h
  | cons e es ih => intro s h c; exact ih (aft_ok h c.1) c.2
theorem chain_at {done todo : List Ed} {e : Ed} : ∀ {s}, Chain s (done ++ e :: todo) → Chain s done ∧ EdOk (endE s done) e := by
  induction done with
  | nil => intro s c; exact ⟨trivial, c.1⟩
  | cons x done ih => intro s c; exact ⟨⟨c.1, (ih c.2).1⟩, (ih c.2).2⟩
/-- the states with the present one last -/
theorem run_end (es : List Ed) : ∀ (hs : List FS) (s : FS), ∃ hs', hs ++ [s] ++ runE s es = hs' ++ [endE s es] ∧ hs'.length = hs.length + es.length := by
  induction es with
  | nil => intro hs s; exact ⟨hs, by simp [runE, endE], by simp⟩
  | cons e es ih =>
    intro hs s
    obtain ⟨hs', h1, h2⟩ := ih (hs ++ [s]) (aft s e)
    refine ⟨hs', ?_, by rw [h2, List.length_append, List.length_singleton, List.length_cons]; omega⟩
    show hs ++ [s] ++ (aft s e :: runE (aft s e) es) = hs' ++ [endE (aft s e) es]
    rw [← h1]
    simp
theorem set_same {M : Sto} {i : Nat} {c : Cell} (h : M[i]? = some c) : M.set i c = M := by
  refine List.ext_getElem? fun j => ?_
  by_cases e : i = j
  · subst e
    rw [List.getElem?_set_self (List.getElem?_eq_some_iff.mp h).1, h]
  · rw [List.getElem?_set_ne e]
theorem putF_self {C : Addr} {M : Sto} {p : Fp} {w : Bool} {more : List (Str × D)} {hs : List FS} {ns : List D} {es : List Ed} (F : Fld C M p w more hs ns es) : putF M p hs ns es = M := by
  unfold putF
  rw [set_same F.nts, set_same F.sts, set_same F.tbs, set_same F.eds]
theorem putF_put {M : Sto} {p : Fp} (o : p.Ok) {hs hs' : List FS} {ns ns' : List D} {es es' : List Ed} : putF (putF M p hs ns es) p hs' ns' es' = putF M p hs' ns' es' := by
  refine List.ext_getElem? fun i => ?_
  by_cases hd : i = p.d
  · subst hd
    unfold putF
    by_cases hl : p.d < M.length
    · rw [List.getElem?_set_self (by simpa using hl), List.getElem?_set_self (by simpa using hl)]
    · rw [List.getElem?_eq_none (by simpa using hl), List.getElem?_eq_none (by simpa using hl)]
  by_cases hb : i = p.b
  · subst hb
    unfold putF
    rw [List.getElem?_set_ne (Ne.symm hd), List.getElem?_set_ne (Ne.symm hd)]
    by_cases hl : p.b < M.length
    · rw [List.getElem?_set_self (by simpa using hl), List.getElem?_set_self (by simpa using hl)]
    · rw [List.getElem?_eq_none (by simpa using hl), List.getElem?_eq_none (by simpa using hl)]
  by_cases ha : i = p.a
  · subst ha
    unfold putF
    rw [List.getElem?_set_ne (Ne.symm hd), List.getElem?_set_ne (Ne.symm hb), List.getElem?_set_ne (Ne.symm hd), List.getElem?_set_ne (Ne.symm hb)]
    by_cases hl : p.a < M.length
    · rw [List.getElem?_set_self (by simpa using hl), List.getElem?_set_self (by simpa using hl)]
    · rw [List.getElem?_eq_none (by simpa using hl), List.getElem?_eq_none (by simpa using hl)]
  by_cases hc : i = p.c
  · subst hc
    unfold putF
    rw [List.getElem?_set_ne (Ne.symm hd), List.getElem?_set_ne (Ne.symm hb), List.getElem?_set_ne (Ne.symm ha), List.getElem?_set_ne (Ne.symm hd), List.getElem?_set_ne (Ne.symm hb), List.getElem?_set_ne (Ne.symm ha)]
    by_cases hl : p.c < M.length
    · rw [List.getElem?_set_self (by simpa using hl), List.getElem?_set_self (by simpa using hl)]
    · rw [List.getElem?_eq_none (by simpa using hl), List.getElem?_eq_none (by simpa using hl)]
  rw [putF_get ha hb hc hd, putF_get ha hb hc hd, putF_get ha hb hc hd]
/-- the places of a field that lie behind M -/
theorem putF_app {M N : Sto} {p : Fp} (ha : M.length ≤ p.a) (hb : M.length ≤ p.b) (hc : M.length ≤ p.c) (hd : M.length ≤ p.d) (hs : List FS) (ns : List D) (es : List Ed) : ∃ N', putF (M ++ N) p hs ns es = M ++ N' ∧ N'.length = N.length := by
  unfold putF
  rw [List.set_append_right _ _ hc, List.set_append_right _ _ ha, List.set_append_right _ _ hb, List.set_append_right _ _ hd]
  exact ⟨_, rfl, by simp⟩
end DL

set_option maxHeartbeats 1000000
/-! DLF6: range(i, j, -1). -/
namespace DL
open PySem PySem.Spec PyProof.Rows L2
/-- lo, lo - 1, .. (n of them) -/
def rngD (lo : Int) (n : Nat) : List D := (List.range n).map fun (i : Nat) => D.int (lo - i)
theorem rngD_get {lo : Int} {n i : Nat} : (rngD lo n)[i]? = if i < n then some (D.int (lo - i)) else none := by
  unfold rngD
  rw [List.getElem?_map]
  by_cases h : i < n
  · rw [List.getElem?_range h, if_pos h]; rfl
  · rw [if_neg h, List.getElem?_eq_none (by simpa using h)]; rfl
theorem rngD_length {lo : Int} {n : Nat} : (rngD lo n).length = n := by unfold rngD; simp
theorem rngD_at {lo : Int} {n : Nat} {done todo : List D} {d : D} (e : done ++ d :: todo = rngD lo n) : d = .int (lo - done.length) ∧ done.length < n := by
  have h : (rngD lo n)[done.length]? = some d := by rw [← e]; simp
  rw [rngD_get] at h
  split at h
  · next hi => exact ⟨(Option.some.inj h).symm, hi⟩
  · cases h
theorem itc_ok {K : PySem.W.Frag} {al : List Addr} {F G : Hp} {st : Sto → Prop} (lo : Int) (n : Nat) : ItOk K (Itc lo (-1) n) (rngD lo n) st al F G := by
  intro al' F' G' H' M' e sg W hst i
  refine ⟨fun d hd => ?_, fun hl => ?_⟩
  rotate_left
  · rw [rngD_length] at hl
    exact hl
  rw [rngD_get] at hd
  split at hd
  · next h =>
    cases hd
    refine ⟨h, fun x H'' hy => ?_⟩
    obtain ⟨rfl, rfl⟩ := hy
    rw [show lo + ((i : Nat) : Int) * -1 = lo - (i : Nat) by omega]
    exact ⟨F', Sm.refl _, W, .int _⟩
  · cases hd
section
variable {X : Cx} {pos : Pos} {a b c : Expr} {fr : DTA}
@[reducible] def diR3 (fr : DTA) : DTI := fun ρ M R => fr ρ M fun ds M1 => match ds with
  | [.int i, .int j, .int c] => c = -1 ∧ (-(2 ^ 62) ≤ i ∧ i < 2 ^ 62 ∧ -(2 ^ 62) ≤ j ∧ j < 2 ^ 62) ∧ R (rngD i (i - j).toNat) stYes M1
  | _ => False
theorem di_range3 {tg : Expr} {p : Pos} (hg : Gl X "range") (hm : X.mg "range" = none) (h : DA X [a, b, c] fr)
    (hs : starEach [a, b, c] X.env = (false, eval a X.env) :: starEach [b, c] X.env := by rfl) (hpl : (backTo pos (starEach [b, c] X.env)).any (·.1) = false := by rfl) : DI X tg (.Call (.Name "range" p) [a, b, c] [] pos) (diR3 fr) := by
  refine ⟨PI.of (pi_range3 hg hm h.pa hs hpl) fun σ H R ⟨ρ, M, al, F, G, W, es, q⟩ => ?_, fun ρ M Q Q' w q => h.mono _ _ _ _ (fun ds M1 q1 => ?_) q⟩
  · refine h.seq W es q fun ds M1 al1 F1 H1 vs q1 e1 W1 r1 s1 => ?_
    split at q1
    · cases r1 with
      | cons a1 b1 =>
        cases b1 with
        | cons a2 b2 =>
          cases b2 with
          | cons a3 b3 =>
            cases a1; cases a2; cases a3; cases b3
            obtain ⟨rfl, h1, q1⟩ := q1
            exact ⟨_, _, _, _, rfl, RgC.neg h1.1 h1.2.1 h1.2.2.1 h1.2.2.2, q1 al1 F1 H1 _ e1 W1 (itc_ok _ _)⟩
    · exact q1.elim
  · try dsimp only at q1 ⊢
    split at q1
    · exact ⟨q1.1, q1.2.1, w _ _ _ q1.2.2⟩
    · exact q1.elim
end
end DL

set_option maxHeartbeats 2000000
/-! DLHH: the head by one kernel run: what the top leaves is looked at by Bools over a part of the heap that is taken by names. -/
namespace DL
open PySem PySem.Spec PyProof.Rows L2
/-! ### a part of the heap, taken by names -/
/-- a list of addresses, each written out -/
def frL {α : Type} : List Addr → (List Addr → α) → α
  | [], k => k []
  | a :: r, k => HandSHeadRun.frNat a fun a => frL r fun r => k (a :: r)
theorem frL_eq {α : Type} : ∀ (l : List Addr) (k : List Addr → α), frL l k = k l
  | [], _ => rfl
  | a :: r, k => by
    show HandSHeadRun.frNat a (fun a => frL r fun r => k (a :: r)) = _
    rw [HandSHeadRun.frNat_eq, frL_eq r]
/-- a list, its cells written out -/
def frC {α β : Type} : List α → (List α → β) → β
  | [], k => k []
  | a :: r, k => frC r fun r => k (a :: r)
theorem frC_eq {α β : Type} : ∀ (l : List α) (k : List α → β), frC l k = k l
  | [], _ => rfl
  | a :: r, k => by
    show frC r (fun r => k (a :: r)) = _
    rw [frC_eq r]
def frObj {β : Type} (o : Obj) (k : Obj → β) : β := match o with
  | ⟨c, d, .dict es n, sl⟩ => frC es.toList fun l => k ⟨c, d, .dict ⟨l⟩ n, sl⟩
  | o => k o
theorem frObj_eq {β : Type} (o : Obj) (k : Obj → β) : frObj o k = k o := by
  obtain ⟨c, d, dt, sl⟩ := o
  cases dt <;> first | rfl | exact frC_eq _ _
/-- the objects at these addresses -/
def frK {β : Type} (g : Addr → Option Obj) : List Addr → (PySem.W.Frag → β) → β
  | [], k => k []
  | a :: r, k => match g a with
    | some o => frObj o fun o => frK g r fun K => k ((a, o) :: K)
    | none => frK g r k
theorem frK_eq {β : Type} (g : Addr → Option Obj) : ∀ (as : List Addr) (k : PySem.W.Frag → β), frK g as k = k (He.frG g as)
  | [], _ => rfl
  | a :: r, k => by
    show (match g a with
      | some o => frObj o fun o => frK g r fun K => k ((a, o) :: K)
      | none => frK g r k) = _
    unfold He.frG
    rw [List.filterMap_cons]
    cases e : g a with
    | some o =>
      show frObj o (fun o => frK g r fun K => k ((a, o) :: K)) = _
      rw [frObj_eq, frK_eq g r] <;> rfl
    | none =>
      show frK g r k = _
      rw [frK_eq g r] <;> rfl
/-- what an object names: a dict's entries of these names alone, a property's getter -/
def refsM (ms : List Str) (o : Obj) : List Addr := match o.data with
  | .func fd => He.refV fd.code ++ He.refV fd.kwdefaults
  | .cls cd => cd.ns :: cd.mro.flatMap He.refV
  | .dict es _ => es.toList.flatMap fun e => match ms.any fun m => e.key.isStr m with
    | true => He.refV e.val
    | false => []
  | .fields vs => (match o.cls with
    | .type t => (match decide (t = "property") with
      | true => vs.toList.flatMap He.refV
      | false => [])
    | _ => [])
  | _ => []
def memA (a : Addr) : List Addr → Bool
  | [] => false
  | b :: r => Nat.beq a b || memA a r
def addA : List Addr → List Addr → List Addr
  | [], acc => acc
  | a :: r, acc => match memA a acc with
    | true => addA r acc
    | false => addA r (acc ++ [a])
/-- n steps on from these addresses -/
def walkA (g : Addr → Option Obj) (ms : List Str) : Nat → List Addr → List Addr
  | 0, as => as
  | n + 1, as => frL (addA (as.flatMap fun a => match g a with
    | some o => refsM ms o
    | none => []) as) fun as => walkA g ms n as
/-- the module's names xs, and what is reached from them -/
def asH (g : Addr → Option Obj) (xs ms : List Str) : List Addr := frK g [mainGlobals] fun K0 => frL (xs.map fun x => He.ga K0 x) fun as => sysModules :: mainGlobals :: walkA g ms 4 (addA as [])
/-! ### the defs -/
structure HDef where
  at_ : PySem.W.Frag → Addr
  name : Str
  qual : Str
  st : Stmt
  kwd : List (Str × He.Dv) := []
def HDef.kws (K : PySem.W.Frag) (d : HDef) : List (Str × V) := d.kwd.map fun q => (q.1, q.2.v K)
def fnH (K : PySem.W.Frag) (a : Addr) : He.FnW := match K.lookup a with
  | some ⟨_, _, .func fd, _⟩ => some (fd.name, fd.qualname, fd.params, fd.body, fd.scope, fd.globals, fd.closure, fd.builtins)
  | _ => none
def HDef.val (d : HDef) : He.FnW := some (d.name, d.qual, defArgs d.st, .stmts (defBody d.st), defScope d.st, mainGlobals, [], builtinsNs)
def HDef.ok (K : PySem.W.Frag) (d : HDef) : Bool := PySem.W.keepIn K (.ref (d.at_ K)) && (match K.lookup (d.at_ K) with
  | some ⟨_, _, .func fd, _⟩ => PySem.W.codeIn K fd.code d.qual && (He.dflB K fd.defaults [] && He.kwdB K fd.kwdefaults (d.kws K))
  | _ => false)
theorem HDef.funD {K : PySem.W.Frag} {d : HDef} (e : fnH K (d.at_ K) = d.val) (c : d.ok K = true) : ∃ fd, FunD K d.name d.qual (defArgs d.st) (defBody d.st) (defScope d.st) [] (d.kws K) (d.at_ K) fd := by
  obtain ⟨kp, c2⟩ := He.ba c
  unfold fnH at e
  cases q : K.lookup (d.at_ K) with
  | none =>
    rw [q] at c2
    cases c2
  | some o =>
    obtain ⟨oc, od, dt, osl⟩ := o
    rw [q] at c2 e
    cases dt with
    | func fd =>
      obtain ⟨n1, n2, n3, n4, n5, n6, n7, n8, n9, n10, n11, n12, n13, n14, n15⟩ := fd
      have e2 : (some (n1, n2, n3, n4, n5, n6, n7, n15) : He.FnW) = some (d.name, d.qual, defArgs d.st, .stmts (defBody d.st), defScope d.st, mainGlobals, [], builtinsNs) := e
      simp only [Option.some.injEq, Prod.mk.injEq] at e2
      obtain ⟨h1, h2, h3, h4, h5, h6, h7, h8⟩ := e2
      subst h1 h2 h3 h4 h5 h6 h7 h8
      have c3 : (PySem.W.codeIn K n13 d.qual && (He.dflB K n8 [] && He.kwdB K n9 (d.kws K))) = true := c2
      obtain ⟨k1, k2⟩ := He.ba c3
      obtain ⟨k3, k4⟩ := He.ba k2
      exact ⟨_, ⟨oc, od, n8, n9, n10, n11, n12, n13, n14, osl, rfl, q, k1, He.dflB_ok k3, He.kwdB_ok k4⟩, kp⟩
    | _ => cases c2
theorem fun_ofD {K : PySem.W.Frag} {x qual : Str} {st : Stmt} {kws : List (Str × V)} {f : Addr} {fd : FuncData} (F : FunD K x qual (defArgs st) (defBody st) (defScope st) [] kws f fd) : Fun K x qual st f fd := by
  obtain ⟨oc, od, dV, kV, doc, pm, an, cdv, ct, osl, e, lk, hc, hd, _⟩ := F.ex
  obtain rfl : dV = .none := by
    rcases hd with ⟨_, h⟩ | ⟨h, _⟩
    · exact h
    · exact absurd rfl h
  exact ⟨⟨oc, od, kV, doc, pm, an, cdv, ct, osl, e, lk, hc⟩, F.kp⟩
/-! ### the Hook -/
abbrev AlH : Type := Bool × List He.FnW × List (Option (List (Option (Str × Int))))
def obsH (ck : List (PySem.W.Frag → Bool)) (fn : List HDef) (ts : List He.Tab) (K : PySem.W.Frag) : AlH := ((ck.all fun f => f K) && fn.all fun d => d.ok K, fn.map fun d => fnH K (d.at_ K), ts.map fun t => He.dicW K (t.1 K))
def valH (fn : List HDef) (ts : List He.Tab) (w : World) : AlH := (true, fn.map HDef.val, ts.map fun t => some (He.keysIn w.params t.2))
def SaysH (ck : List (PySem.W.Frag → Bool)) (fn : List HDef) (ts : List He.Tab) (w : World) (K : PySem.W.Frag) : Prop := obsH ck fn ts K = valH fn ts w
def obsHG (xs ms : List Str) (ck : List (PySem.W.Frag → Bool)) (fn : List HDef) (ts : List He.Tab) (g : Addr → Option Obj) : AlH := frK g (asH g xs ms) fun K => obsH ck fn ts K
def hookH (xs ms : List Str) (ck : List (PySem.W.Frag → Bool)) (fn : List HDef) (ts : List He.Tab) : PySem.W.Hook where
  α := AlH
  obs := fun s => obsHG xs ms ck fn ts s.heap.get?
  val := fun w => valH fn ts w
  says := fun w h => ∃ K : PySem.W.Frag, K.In h ∧ SaysH ck fn ts w K
  of := fun w s e => ⟨He.frG s.heap.get? (asH s.heap.get? xs ms), He.frG_in, (frK_eq _ _ _).symm.trans e⟩
  keeps := fun _ _ _ ⟨K, hK, c⟩ k => ⟨K, PySem.W.Frag.In.keeps hK k, c⟩
theorem obsHG_eq {xs ms : List Str} {ck : List (PySem.W.Frag → Bool)} {fn : List HDef} {ts : List He.Tab} {g : Addr → Option Obj} {s : Shared} (h : ∀ a, g a = s.heap.get? a) : obsHG xs ms ck fn ts g = (hookH xs ms ck fn ts).obs s := by
  have e : g = s.heap.get? := funext h
  rw [e] <;> rfl
section
variable {ck : List (PySem.W.Frag → Bool)} {fn : List HDef} {ts : List He.Tab} {w : World} {K : PySem.W.Frag} {h : Heap} {mg : Str → Option Value}
theorem SaysH.fact (c : SaysH ck fn ts w K) (i : Nat) {f : PySem.W.Frag → Bool} (h : ck[i]? = some f) : f K = true := by
  have c1 := (He.ba (show ((ck.all fun f => f K) && fn.all fun d => d.ok K) = true from congrArg (fun z : AlH => z.1) c)).1
  exact List.all_eq_true.mp c1 f (List.mem_of_getElem? h)
theorem SaysH.def_ (c : SaysH ck fn ts w K) (i : Nat) {d : HDef} (h : fn[i]? = some d) : ∃ fd, FunD K d.name d.qual (defArgs d.st) (defBody d.st) (defScope d.st) [] (d.kws K) (d.at_ K) fd := by
  have c2 := (He.ba (show ((ck.all fun f => f K) && fn.all fun d => d.ok K) = true from congrArg (fun z : AlH => z.1) c)).2
  have e : fn.map (fun d => fnH K (d.at_ K)) = fn.map HDef.val := congrArg (fun z : AlH => z.2.1) c
  have e2 : (fn.map fun d => fnH K (d.at_ K))[i]? = (fn.map HDef.val)[i]? := by rw [e]
  rw [List.getElem?_map, List.getElem?_map, h] at e2
  exact HDef.funD (Option.some.inj e2) (List.all_eq_true.mp c2 d (List.mem_of_getElem? h))
theorem SaysH.tab (c : SaysH ck fn ts w K) (i : Nat) {t : He.Tab} (h : ts[i]? = some t) : ∃ es n, KDict K w (t.1 K) es n := by
  have e : ts.map (fun t => He.dicW K (t.1 K)) = ts.map fun t => some (He.keysIn w.params t.2) := congrArg (fun z : AlH => z.2.2) c
  have e2 : (ts.map fun t => He.dicW K (t.1 K))[i]? = (ts.map fun t => some (He.keysIn w.params t.2))[i]? := by rw [e]
  rw [List.getElem?_map, List.getElem?_map, h] at e2
  exact He.dicW_ok (Option.some.inj e2)
/-! ### facts -/
theorem SaysH.df (c : SaysH ck fn ts w K) (X : K.In h) (G : h.Ns mainGlobals mg) (i j : Nat) {x : Str} {st : Stmt} (h1 : ck[i]? = some fun K => (He.Fa.glo x).ok K) (h2 : fn[j]? = some ⟨fun K => He.ga K x, x, x, st, []⟩) : Df K mg x st := by
  obtain ⟨fd, F⟩ := c.def_ j h2
  exact ⟨_, fd, fun_ofD F, He.glo_ok X G (c.fact i h1)⟩
theorem SaysH.dfK (c : SaysH ck fn ts w K) (X : K.In h) (G : h.Ns mainGlobals mg) (i j : Nat) {x kn : Str} {st : Stmt} {dv : He.Dv} {u : V} (h1 : ck[i]? = some fun K => (He.Fa.glo x).ok K) (h2 : fn[j]? = some ⟨fun K => He.ga K x, x, x, st, [(kn, dv)]⟩) (hu : dv.v K = u) : DfK K mg x st kn u := by
  obtain ⟨fd, F⟩ := c.def_ j h2
  subst hu
  exact ⟨_, fd, ⟨fun_ofD F, F⟩, He.glo_ok X G (c.fact i h1)⟩
theorem SaysH.dfM (c : SaysH ck fn ts w K) (i j : Nat) {C m q : Str} {st : Stmt} (h1 : ck[i]? = some fun K => (He.Fa.meth C m).ok K) (h2 : fn[j]? = some ⟨fun K => He.ma K (He.ga K C) m, m, q, st, []⟩) : DfM K (He.ga K C) m q st := by
  obtain ⟨fd, F⟩ := c.def_ j h2
  exact ⟨_, fd, fun_ofD F, He.meth_ok (c.fact i h1)⟩
theorem SaysH.dfMK (c : SaysH ck fn ts w K) (i j : Nat) {C m q kn : Str} {st : Stmt} {dv : He.Dv} {u : V} (h1 : ck[i]? = some fun K => (He.Fa.meth C m).ok K) (h2 : fn[j]? = some ⟨fun K => He.ma K (He.ga K C) m, m, q, st, [(kn, dv)]⟩) (hu : dv.v K = u) : DfMK K (He.ga K C) m q st kn u := by
  obtain ⟨fd, F⟩ := c.def_ j h2
  subst hu
  exact ⟨_, fd, ⟨fun_ofD F, F⟩, He.meth_ok (c.fact i h1)⟩
theorem SaysH.dfI (c : SaysH ck fn ts w K) (i j : Nat) {C q : Str} {st : Stmt} (h1 : ck[i]? = some fun K => (He.Fa.mkr C).ok K) (h2 : fn[j]? = some ⟨fun K => He.ma K (He.ga K C) "__init__", "__init__", q, st, []⟩) : DfI K (He.ga K C) q st := by
  obtain ⟨fd, F⟩ := c.def_ j h2
  exact ⟨_, fd, fun_ofD F, He.mkr_ok (c.fact i h1)⟩
/-- a property: where its object is, its getter -/
def pgA (K : PySem.W.Frag) (C m : Str) : Addr := match PySem.W.recIn K (He.ma K (He.ga K C) m) "property" with
  | some (.ref g :: _) => g
  | _ => 0
def propB (C m : Str) (K : PySem.W.Frag) : Bool := He.eqO (PySem.W.findIn K (.ref (He.ga K C)) m) (some (some (.ref (He.ma K (He.ga K C) m)))) && (He.eqO (PySem.W.specialIn K (.ref (He.ma K (He.ga K C) m)) "__get__") (some (some (.builtin "property.__get__"))) &&
  (decide (PySem.W.takesIn K (.ref (He.ma K (He.ga K C) m)) = some true) && match PySem.W.recIn K (He.ma K (He.ga K C) m) "property" with
    | some (.ref _ :: _) => true
    | _ => false))
theorem prop_ok {C m : Str} (c : propB C m K = true) : PropOf K (He.ga K C) m (He.ma K (He.ga K C) m) (pgA K C m) := by
  obtain ⟨c1, c⟩ := He.ba c
  obtain ⟨c2, c⟩ := He.ba c
  obtain ⟨c3, c4⟩ := He.ba c
  refine ⟨He.eqO_ok c1, He.eqO_ok c2, of_decide_eq_true c3, ?_⟩
  unfold pgA
  revert c4
  generalize PySem.W.recIn K (He.ma K (He.ga K C) m) "property" = r
  intro c4
  cases r with
  | none => cases c4
  | some l =>
    cases l with
    | nil => cases c4
    | cons v l => cases v <;> first | exact ⟨l, rfl⟩ | cases c4
theorem SaysH.dfP (c : SaysH ck fn ts w K) (i j : Nat) {C m q : Str} {st : Stmt} (h1 : ck[i]? = some (propB C m)) (h2 : fn[j]? = some ⟨fun K => pgA K C m, m, q, st, []⟩) : DfP K (He.ga K C) m q st := by
  obtain ⟨fd, F⟩ := c.def_ j h2
  exact ⟨_, _, fd, fun_ofD F, prop_ok (c.fact i h1)⟩
def gsB (K : PySem.W.Frag) : Bool := He.eqO (PySem.W.specialIn K (.builtin "object.__class__") "__get__") (some (some (.builtin "getset_descriptor.__get__"))) && decide (PySem.W.takesIn K (.builtin "object.__class__") = some true)
def incB (C : Str) (K : PySem.W.Frag) : Bool := (He.Fa.cls C).ok K && (He.eqO (PySem.W.findIn K (.ref (He.ga K C)) "__class__") (some (some (.builtin "object.__class__"))) && (decide (PySem.W.mroIn K (He.ga K C) (.type "object") = some true) && decide (PySem.W.subIn K (.ref (He.ga K C)) (.type "list") = some false)))
theorem inc_ok {C : Str} (g : gsB K = true) (c : incB C K = true) : InC K (He.ga K C) ∧ NotSub K (He.ga K C) "list" := by
  obtain ⟨c1, c⟩ := He.ba c
  obtain ⟨c2, c⟩ := He.ba c
  obtain ⟨c3, c4⟩ := He.ba c
  obtain ⟨g1, g2⟩ := He.ba g
  exact ⟨⟨He.cls_ok c1, He.eqO_ok c2, He.eqO_ok g1, of_decide_eq_true g2, of_decide_eq_true c3⟩, (of_decide_eq_true c4 : PySem.W.subIn K (.ref (He.ga K C)) (.type "list") = some false)⟩
/-! ### exception classes -/
/-- the built-in class above it -/
inductive Eb where
  | value | lookup
def Eb.new : Eb → String
  | .value => "ValueError.__new__"
  | .lookup => "LookupError.__new__"
def Eb.bm : Eb → List Value
  | .value => [.type "ValueError", .type "Exception", .type "BaseException", .type "object"]
  | .lookup => [.type "LookupError", .type "Exception", .type "BaseException", .type "object"]
theorem Eb.facts (b : Eb) : ∃ B initId, ExcBaseFacts B b.new initId b.bm ∧ StoreFacts B b.bm "object.__setattr__" "object" := by
  cases b with
  | value => exact ⟨_, _, PySem.F.excBase_ValueError, PySem.F.store_ValueError⟩
  | lookup => exact ⟨_, _, PySem.F.excBase_LookupError, PySem.F.store_LookupError⟩
def excXIn (b : Eb) (K : PySem.W.Frag) (C : Addr) : Bool := match K.lookup C with
  | some ⟨.type "type", _, .cls cd, sl⟩ => (match cd.mro, sl.toList with
    | .ref C' :: bm, [_, _, _, _, some (.builtin n), _] => C' == C && (n == b.new && (!cd.hasDel && (cd.hasDict && PySem.W.excTail b.bm bm)))
    | _, _ => false)
  | _ => false
theorem excX_of {b : Eb} {C : Addr} (q : excXIn b K C = true) : ∃ nm qn N bs bm sn sub ab col dd k0 k1 k2 k3 k5,
    K.lookup C = some (excClassObj nm qn C N bs bm true sn sub ab col dd k0 k1 k2 k3 k5 b.new) ∧ PySem.W.excTail b.bm bm = true := by
  unfold excXIn at q
  split at q
  · rename_i dd cd sl ho
    split at q
    · rename_i C' bm k0 k1 k2 k3 n k5 hm hs
      simp only [Bool.and_eq_true, beq_iff_eq, Bool.not_eq_true'] at q
      obtain ⟨rfl, rfl, hdel, hhd, ht⟩ := q
      obtain ⟨nm, bs, mro, ns, qn, hd, sn, sub, ab, col, del⟩ := cd
      dsimp only at hm hdel hhd
      subst hm hdel hhd
      have hsl : sl = #[k0, k1, k2, k3, some (.builtin b.new), k5] := by
        obtain ⟨l⟩ := sl
        simp only at hs
        rw [hs]
      subst hsl
      exact ⟨nm, qn, ns, bs, bm, sn, sub, ab, col, dd, k0, k1, k2, k3, k5, ho, ht⟩
    · cases q
  · cases q
def initA (K : PySem.W.Frag) (C : Str) : Addr := He.ma K (He.ga K C) "__init__"
/-- what isinstance asks of it -/
def exiB (C : Str) (K : PySem.W.Frag) : Bool := He.eqO (PySem.W.findIn K (.ref (He.ga K C)) "__getattribute__") (some (some (.builtin "BaseException.__getattribute__"))) && (He.eqO (PySem.W.findIn K (.ref (He.ga K C)) "__getattr__") (some none) &&
  (PySem.W.keepIn K (.ref (He.ga K C)) && (decide (PySem.W.subIn K (.ref (He.ga K C)) (.type "BaseException") = some true) && (decide (PySem.W.typeIn K (.ref (He.ga K C)) = some (.type "type")) && (PySem.W.hasDictIn K (He.ga K C) &&
  (He.eqO (PySem.W.findIn K (.ref (He.ga K C)) "__class__") (some (some (.builtin "object.__class__"))) && decide (PySem.W.mroIn K (He.ga K C) (.type "object") = some true)))))))
structure ExiH (K : PySem.W.Frag) (C : Addr) : Prop where
  i : ExI K C
  kC : PySem.W.keepIn K (.ref C) = true
  tyC : PySem.W.typeIn K (.ref C) = some (.type "type")
theorem exi_ok {C : Str} (g : gsB K = true) (b : exiB C K = true) : ExiH K (He.ga K C) := by
  obtain ⟨b3, b⟩ := He.ba b
  obtain ⟨b4, b⟩ := He.ba b
  obtain ⟨b8, b⟩ := He.ba b
  obtain ⟨b9, b⟩ := He.ba b
  obtain ⟨b10, b⟩ := He.ba b
  obtain ⟨b11, b⟩ := He.ba b
  obtain ⟨b12, b13⟩ := He.ba b
  obtain ⟨g1, g2⟩ := He.ba g
  exact ⟨⟨He.eqO_ok b3, He.eqO_ok b4, of_decide_eq_true b9, b11, He.eqO_ok b12, He.eqO_ok g1, of_decide_eq_true g2, of_decide_eq_true b13⟩, b8, of_decide_eq_true b10⟩
def excB (eb : Eb) (C f : Str) (K : PySem.W.Frag) : Bool := excXIn eb K (He.ga K C) && (He.eqO (PySem.W.findIn K (.ref (He.ga K C)) "__setattr__") (some (some (.builtin "object.__setattr__"))) &&
  (He.eqO (PySem.W.findIn K (.ref (He.ga K C)) f) (some none) && (He.eqO (PySem.W.findIn K (.ref (He.ga K C)) "__init__") (some (some (.ref (initA K C)))) && decide (PySem.W.typeIn K (.ref (initA K C)) = some (.type "function")))))
theorem SaysH.exc (c : SaysH ck fn ts w K) (g : gsB K = true) (i0 i j : Nat) {eb : Eb} {C f q : Str} {st : Stmt} (h0 : ck[i0]? = some (exiB C)) (h1 : ck[i]? = some (excB eb C f)) (h2 : fn[j]? = some ⟨fun K => initA K C, "__init__", q, st, []⟩) (S : FnScope ["self", f] ["self", f] (defScope st)) (hb : initBody f st)
    (v0 : Vis (defScope st) "self") (v1 : Vis (defScope st) f) (hbind : ∀ (kV doc pm : Value) (an : Option Addr) (cdv ct : Value) (us : List Value), us.length = 2 → bindArgs (PySem.W.fnOf "__init__" q (defArgs st) (defBody st) (defScope st) .none kV doc pm an cdv ct) ⟨us, []⟩ = pure ((["self", f] : List Str).zip us))
    (d1 : (f == ("__debug__" : Str)) = false) (d2 : (f == ("__classdict__" : Str)) = false) : EcF K (He.ga K C) f ∧ ExI K (He.ga K C) := by
  obtain ⟨fd, F⟩ := c.def_ j h2
  have EI := exi_ok g (c.fact i0 h0)
  obtain ⟨b1, b⟩ := He.ba (c.fact i h1)
  obtain ⟨b2, b⟩ := He.ba b
  obtain ⟨b5, b⟩ := He.ba b
  obtain ⟨b6, b7⟩ := He.ba b
  have F1 : Fun K "__init__" q st (initA K C) fd := fun_ofD F
  obtain ⟨B, initId, FB, SB⟩ := eb.facts
  have ox : OexB K (He.ga K C) := ⟨⟨B, eb.new, initId, eb.bm, FB, SB, excX_of b1⟩, He.eqO_ok b2, EI.i.ex, EI.tyC, EI.kC⟩
  exact ⟨⟨ox, He.eqO_ok b5, EI.i.ga, EI.i.gg, EI.i.hd, _, fd, He.eqO_ok b6, of_decide_eq_true b7, F1.binds (ps := ["self", f]) hbind, fun P w mg base => init_ok F1 S hb v0 v1 ox (He.eqO_ok b5) d1 d2⟩, EI.i⟩
def exc0B (eb : Eb) (C : Str) (K : PySem.W.Frag) : Bool := PySem.W.excIn K (He.ga K C) eb.bm eb.new
theorem SaysH.exc0 (c : SaysH ck fn ts w K) (g : gsB K = true) (i0 i : Nat) {eb : Eb} {C : Str} (h0 : ck[i0]? = some (exiB C)) (h1 : ck[i]? = some (exc0B eb C)) : Ec0 K (He.ga K C) ∧ ExI K (He.ga K C) := by
  have EI := exi_ok g (c.fact i0 h0)
  obtain ⟨B, initId, FB, SB⟩ := eb.facts
  exact ⟨⟨⟨B, eb.new, initId, eb.bm, FB, c.fact i h1⟩, EI.i.ex, EI.tyC, EI.kC⟩, EI.i⟩
/-- a class of a name: own or built in -/
inductive Cn where
  | own (x : Str) | blt (t : String)
def Cn.v (K : PySem.W.Frag) : Cn → Value
  | .own x => .ref (He.ga K x)
  | .blt t => .type t
def exmB (C : Str) (x : Cn) (b : Bool) (K : PySem.W.Frag) : Bool := decide (PySem.W.exmOne K (.ref (He.ga K C)) (x.v K) = some b)
def kitB (C : Str) (xs : List Cn) (b : Bool) (K : PySem.W.Frag) : Bool := decide (PySem.W.kitAny K (.ref (He.ga K C)) (xs.map (Cn.v K)) = some b)
theorem exmB_ok {C : Str} {x : Cn} {b : Bool} (c : exmB C x b K = true) : PySem.W.exmOne K (.ref (He.ga K C)) (x.v K) = some b := of_decide_eq_true c
def exaB (C : Str) (xs : List Cn) (b : Bool) (K : PySem.W.Frag) : Bool := decide (PySem.W.exmAny K (.ref (He.ga K C)) (xs.map (Cn.v K)) = some b)
theorem exaB_ok {C : Str} {xs : List Cn} {b : Bool} (c : exaB C xs b K = true) : PySem.W.exmAny K (.ref (He.ga K C)) (xs.map (Cn.v K)) = some b := of_decide_eq_true c
theorem kitB_ok {C : Str} {xs : List Cn} {b : Bool} (c : kitB C xs b K = true) : PySem.W.kitAny K (.ref (He.ga K C)) (xs.map (Cn.v K)) = some b := of_decide_eq_true c
/-! ### a dict of the module -/
def ktB (x : Str) (tb : List (Str × Int)) (K : PySem.W.Frag) : Bool := (He.Fa.glo x).ok K && tb.all fun q => match PySem.W.nsIn K (He.ga K x) q.1 with
  | some (some (.int i _)) => decide (i = q.2)
  | _ => false
theorem SaysH.ktab (c : SaysH ck fn ts w K) (X : K.In h) (G : h.Ns mainGlobals mg) (i j : Nat) {x : Str} {tb : List (Str × Int)} {ks : List Str} (h1 : ck[i]? = some (ktB x tb)) (h2 : ts[j]? = some (fun K => He.ga K x, ks)) : KTab w K mg x tb := by
  obtain ⟨es, n, hd⟩ := c.tab j h2
  obtain ⟨b1, b2⟩ := He.ba (c.fact i h1)
  obtain ⟨lk, lit, low⟩ := hd
  refine ⟨_, es, n, He.glo_ok X G b1, lk, lit, low, fun z i hz => ?_⟩
  have b3 := List.all_eq_true.mp b2 (z, i) hz
  revert b3
  dsimp only
  generalize PySem.W.nsIn K (He.ga K x) z = r
  intro b3
  cases r with
  | none => cases b3
  | some o =>
    cases o with
    | none => cases b3
    | some u =>
      cases u <;> first | cases b3 | skip
      obtain rfl := of_decide_eq_true b3
      exact ⟨_, rfl⟩
end
/-! ### the end -/
theorem walkGE {l : PySem.W.OpenLaw} {n k : Nat} {q : Program} {loose : List Str} {XP : (Str → Option Value) → Heap → Prop} {YP : World → Heap → Prop} {d : DefRec} {sp : PySem.W.Frag → Sp} {x : Str}
    (hn : l.most = some n) (hn2 : n ≤ sizeLine) (hdf : d.params.defaults = []) (hr : Room k callerA)
    (F : ∀ (w : World) (mg : Str → Option Value) (fa : Addr) (h : Heap), YP w h → h.Ns mainGlobals mg → mg d.name = some (.ref fa) →
      ∃ (K : PySem.W.Frag) (fd : FuncData), K.In h ∧ (∀ (s : Shared) (u : Value), BindsTo s fd ⟨[u], []⟩ [(x, u)]) ∧ ∀ base : Heap, K.In base → base.Ns mainGlobals mg → FnG l.prog w K mg base (L2N.CX l.prog w) k fa fd [x] (sp K))
    (hsp : ∀ (K : PySem.W.Frag) (H : Hp) (a : Addr) (ns : List Int), ns.length ≤ n → Only H → SqL K H a (ns.map V.int) → sp K [.ref a] H (fun v _ => v = .bl true) fun _ _ _ => False) :
    PySem.W.WalkO q loose XP YP l.row.toRowW d [] (fun f vs => PySem.call f vs) := by
  refine Att.attach_call hn hdf fun w s0 s1 mg mb fa o pm cd doc a vs ns G Y ho hd hcd hmg hobj hints hlen hg => ?_
  obtain ⟨K, fd, KX, hb, hF⟩ := F w mg fa _ Y G.T.g hmg
  exact law_callG KX G.T.g G.T.b G.T.builtins G.T.nolimit hg hobj hints (Nat.le_trans hlen hn2) hr hF hb (fun H hO hS => hsp _ H a ns hlen hO hS) fun H e s' z => cx_no z
end DL

set_option maxHeartbeats 1000000
/-! DLF7: what a law knows of a field that it made and edits: its whole past. -/
namespace DL
open PySem PySem.Spec PyProof.Rows L2 MT
theorem PlOk.vw {h : Nat} {d : D} (s : PlOk h d) (M : Sto) : DL.vw d M = d := by
  have := s.1
  cases d <;> first | rfl | (cases this)
theorem PlOk.eqOk {h : Nat} {d : D} (s : PlOk h d) (hh : h ≤ 60) (M : Sto) : DL.eqOk d M := by
  unfold DL.eqOk
  rw [s.vw M]
  exact s.eq hh
theorem PlOk.same {h : Nat} {d : D} (s : PlOk h d) : PyData.eqv (toPy d) (toPy d) = true := PySem.SeqAt.eqv_refl _ s.2.1
theorem PlOk.tup {h : Nat} {ds : List D} (hd : ∀ d ∈ ds, PlOk h d) : PlOk (h + 1) (.tup ds) := by
  obtain ⟨b1, b2, b3⟩ := plAll hd
  exact ⟨b1, b2, Nat.succ_le_succ b3⟩
theorem PlOk.lst {h : Nat} {ds : List D} (hd : ∀ d ∈ ds, PlOk h d) : PlOk (h + 1) (.lst ds) := by
  obtain ⟨b1, b2, b3⟩ := plAll hd
  exact ⟨b1, b2, Nat.succ_le_succ b3⟩
theorem plok_ed (e : Ed) : PlOk 1 (edD e) := by
  cases e with
  | push m v => exact ⟨rfl, by show (PyData.strOk "push" && (true && (true && true))) = true; decide +kernel, Nat.le_of_eq rfl⟩
  | pull i => exact ⟨rfl, by show (PyData.strOk "pull" && (true && true)) = true; decide +kernel, Nat.le_of_eq rfl⟩
  | stretch m l => exact ⟨rfl, by show (PyData.strOk "stretch" && (true && (true && true))) = true; decide +kernel, Nat.le_of_eq rfl⟩
theorem plok_eds (es : List Ed) : PlOk 2 (.tup (es.map edD)) := .tup fun d hd => by
  obtain ⟨e, _, rfl⟩ := List.mem_map.mp hd
  exact plok_ed e
theorem pl_state (s : FS) : Pl 3 (stateD s) := .tup fun d hd => by
  have hd : d = treeD s.1 ∨ d = psD s.2 := by simpa using hd
  rcases hd with rfl | rfl
  · exact pl_tree _
  · exact pl_ps _
theorem pl_table (s : FS) : Pl 1 (tableD s) := .tup fun d hd => by
  unfold tableL at hd
  by_cases he : s.2 = []
  · rw [if_pos he] at hd
    rw [(List.mem_replicate.mp hd).2]
    exact .non
  · rw [if_neg he] at hd
    obtain ⟨i, _, rfl⟩ := List.mem_map.mp hd
    exact .int _
theorem aft_len {s : FS} {e : Ed} (he : EdOk s e) : (aft s e).1.length = s.1.length := by
  cases e with
  | push m v => rfl
  | pull i => rfl
  | stretch m l => exact stretch_len he.1 he.2.1
@[reducible] def lstS (s : FS) : D := .lst [treeD s.1, psD s.2]
/-- an edit whose numbers are small -/
def EdSm : Ed → Prop
  | .push m v => m ≤ 100 ∧ 0 ≤ v ∧ v ≤ 1000000000
  | .pull i => i ≤ 100
  | .stretch m l => m ≤ 100 ∧ l ≤ 1000000
theorem ed_sm {s : FS} (ho : StOk s) {e : Ed} (he : EdOk s e) : EdSm e := by
  have ht1 := ho.tr.1
  have hl := ho.len
  cases e with
  | push m v =>
    obtain ⟨⟨a, b, c⟩, _⟩ := he
    exact ⟨by replace a : m ≤ s.1.length := a; omega, b, c⟩
  | pull i => replace he : i < s.2.length := he; show i ≤ 100; omega
  | stretch m l =>
    obtain ⟨a, b, c, d⟩ := he
    exact ⟨by omega, d⟩
/-- a field with its past: all states good, of one number of marks; the first is the bare tree -/
structure FH (C : Addr) (M : Sto) (p : Fp) (w : Bool) (more : List (Str × D)) (t : Tr) (hs : List FS) (s : FS) (ns : List D) (es : List Ed) : Prop where
  F : Fld C M p w more (hs ++ [s]) ns es
  ok : ∀ x ∈ hs ++ [s], StOk x ∧ x.1.length = t.length
  sm : ∀ e ∈ es, EdSm e
  lh : hs.length = es.length
  ln : ns.length = es.length + 1
  hd : (hs ++ [s])[0]? = some (t, [])
section
variable {C : Addr} {M : Sto} {p : Fp} {w : Bool} {more : List (Str × D)} {t : Tr} {hs : List FS} {s : FS} {ns : List D} {es : List Ed} {e : Ed}
theorem FH.ho (H : FH C M p w more t hs s ns es) : StOk s := (H.ok s (by simp)).1
theorem FH.hl (H : FH C M p w more t hs s ns es) : s.1.length = t.length := (H.ok s (by simp)).2
theorem FH.of {M' : Sto} (H : FH C M p w more t hs s ns es) (F : Fld C M' p w more (hs ++ [s]) ns es) : FH C M' p w more t hs s ns es := ⟨F, H.ok, H.sm, H.lh, H.ln, H.hd⟩
theorem FH.put {M' : Sto} {n : D} (H : FH C M p w more t hs s ns es) (he : EdOk s e) (F : Fld C M' p w more (hs ++ [s] ++ [aft s e]) (ns ++ [n]) (es ++ [e])) : FH C M' p w more t (hs ++ [s]) (aft s e) (ns ++ [n]) (es ++ [e]) := by
  refine ⟨F, fun x hx => ?_, fun x hx => ?_, by simp [H.lh], by simp [H.ln], ?_⟩
  · rcases List.mem_append.mp hx with hx | hx
    · exact H.ok x hx
    · rw [show x = aft s e by simpa using hx]
      exact ⟨aft_ok H.ho he, (aft_len he).trans H.hl⟩
  · rcases List.mem_append.mp hx with hx | hx
    · exact H.sm x hx
    · rw [show x = e by simpa using hx]
      exact ed_sm H.ho he
  · rw [List.getElem?_append_left (by simp)]
    exact H.hd
/-- a state of the past -/
theorem FH.at_ (H : FH C M p w more t hs s ns es) {j : Nat} (hj : j ≤ es.length) : ∃ x, (hs ++ [s])[j]? = some x ∧ StOk x ∧ x.1.length = t.length := by
  have hl : j < (hs ++ [s]).length := by rw [List.length_append, H.lh, List.length_singleton]; omega
  exact ⟨_, List.getElem?_eq_getElem hl, H.ok _ (List.getElem_mem hl)⟩
theorem FH.now (H : FH C M p w more t hs s ns es) : (hs ++ [s])[es.length]? = some s := by rw [← H.lh, List.getElem?_concat_length]
theorem FH.len (H : FH C M p w more t hs s ns es) : (hs ++ [s]).length = es.length + 1 := by rw [List.length_append, H.lh, List.length_singleton]
end
theorem fh_new (C : Addr) (M : Sto) (more : List (Str × D)) {t : Tr} (ht : TreeOk t) : FH C (M ++ newF C M.length more t) (fpAt M.length) false more t [] (t, []) [.non] [] :=
  ⟨newF_fld C M more t, fun x hx => by
    rw [show x = (t, []) by simpa using hx]
    exact ⟨⟨ht, Nat.zero_le _, fun _ h => nomatch h⟩, rfl⟩, fun _ h => (nomatch h), rfl, rfl, rfl⟩
theorem take_snoc {α : Type} {l : List α} {k : Nat} {x : α} (h : l[k]? = some x) : l.take (k + 1) = l.take k ++ [x] := by rw [List.take_add_one, h]; rfl
theorem map_getD_range {α : Type} (f : α → D) (l : List α) (d : α) : (List.range l.length).map (fun j => f (l.getD j d)) = l.map f := by
  refine List.ext_getElem? fun i => ?_
  rw [List.getElem?_map, List.getElem?_map]
  by_cases hi : i < l.length
  · rw [List.getElem?_range hi, List.getElem?_eq_getElem hi]
    show some (f (l.getD i d)) = _
    rw [List.getD_eq_getElem?_getD, List.getElem?_eq_getElem hi]
    rfl
  · rw [List.getElem?_eq_none (by rw [List.length_range]; omega), List.getElem?_eq_none (by omega)]
    rfl
/-- undone step by step: of all states the first k + 1 stand -/
structure FU (C : Addr) (M : Sto) (p : Fp) (w : Bool) (more : List (Str × D)) (HS : List FS) (NS : List D) (ES : List Ed) (k : Nat) : Prop where
  F : Fld C M p w more (HS.take (k + 1)) (NS.take (k + 1)) (ES.take k)
theorem dk_at {cs cs' : List Int} {n n' : Int} {R : Sto} {x : Nat} (h : 2 ≤ x) : (dk cs n ++ R)[x]? = (dk cs' n' ++ R)[x]? := by
  obtain ⟨j, rfl⟩ : ∃ j, x = j + 2 := ⟨x - 2, by omega⟩
  rfl
def Fp.ge (p : Fp) (k : Nat) : Prop := k ≤ p.n ∧ k ≤ p.a ∧ k ≤ p.b ∧ k ≤ p.c ∧ k ≤ p.d
theorem fpAt_ge (n : Nat) : (fpAt n).ge n := ⟨Nat.le_refl _, by dsimp only [fpAt]; omega, by dsimp only [fpAt]; omega, by dsimp only [fpAt]; omega, by dsimp only [fpAt]; omega⟩
theorem dk_putF' {cs : List Int} {n : Int} {R : Sto} {p : Fp} (h : p.ge 2) (hs : List FS) (ns : List D) (es : List Ed) : ∃ R', putF (dk cs n ++ R) p hs ns es = dk cs n ++ R' ∧ R'.length = R.length := by
  rw [dk_putF h.2.1 h.2.2.1 h.2.2.2.1 h.2.2.2.2]
  exact ⟨_, rfl, by simp⟩
end DL

set_option maxHeartbeats 1000000
/-! DLF8: edits with values of any kind, plainly: what they do or which error they meet first. -/
namespace DL
open PySem PySem.Spec PyProof.Rows L2 MT
theorem numB_true {lo hi : Int} {d : D} (h : numB lo hi d = true) : ∃ i, d = .int i ∧ lo ≤ i ∧ i ≤ hi := by
  cases d <;> first | cases h | skip
  obtain ⟨h1, h2⟩ := of_decide_eq_true (show decide _ = true from h)
  exact ⟨_, rfl, h1, h2⟩
theorem numB_int {lo hi i : Int} (h1 : lo ≤ i) (h2 : i ≤ hi) : numB lo hi (.int i) = true := decide_eq_true ⟨h1, h2⟩
inductive Er where
  | mark (d : D) | tick (d : D) | many | push (d : D) | row (d : D) | length (d : D)
@[reducible] def Er.cls : Er → Str
  | .mark _ => "NoMark" | .tick _ => "BadTick" | .many => "TooManyPushes" | .push _ => "NoPush" | .row _ => "NoRow" | .length _ => "BadLength"
@[reducible] def Er.fl : Er → List (Str × D)
  | .mark d => [("value", d)] | .tick d => [("value", d)] | .many => [] | .push d => [("value", d)] | .row d => [("value", d)] | .length d => [("value", d)]
/-- an edit whose values may be of any kind -/
inductive RE where
  | push (m v : D) | pull (i : D) | stretch (m l : D)
@[reducible] def rawD : RE → D
  | .push m v => .tup [.str "push", m, v] | .pull i => .tup [.str "pull", i] | .stretch m l => .tup [.str "stretch", m, l]
@[reducible] def raw : Ed → RE
  | .push m v => .push (natD m) (.int v) | .pull i => .pull (natD i) | .stretch m l => .stretch (natD m) (natD l)
theorem rawD_raw (e : Ed) : rawD (raw e) = edD e := by cases e <;> rfl
def RE.od : RE → Prop
  | .push m v => DL.od m = true ∧ DL.od v = true
  | .pull i => DL.od i = true
  | .stretch m l => DL.od m = true ∧ DL.od l = true
theorem od_raw (e : Ed) : (raw e).od := by cases e <;> first | exact ⟨rfl, rfl⟩ | exact rfl
def natO : D → Nat
  | .int i => i.toNat
  | _ => 0
def intO : D → Int
  | .int i => i
  | _ => 0
def pushR (s : FS) (m v : D) : Er ⊕ Ed := if numB 0 s.1.length m = true then (if numB 0 1000000000 v = true then (if 20 ≤ s.2.length then .inl .many else .inr (.push (natO m) (intO v))) else .inl (.tick v)) else .inl (.mark m)
def pullR (s : FS) (i : D) : Er ⊕ Ed := if numB 0 ((s.2.length : Int) - 1) i = true then .inr (.pull (natO i)) else .inl (.push i)
def stretchR (s : FS) (m l : D) : Er ⊕ Ed := if numB 1 s.1.length m = true then (if numB 1 1000000 l = true then .inr (.stretch (natO m) (natO l)) else .inl (.length l)) else .inl (.row m)
@[reducible] def tryE (s : FS) : RE → Er ⊕ Ed
  | .push m v => pushR s m v
  | .pull i => pullR s i
  | .stretch m l => stretchR s m l
theorem tryE_ok {s : FS} {e : Ed} (he : EdOk s e) : tryE s (raw e) = .inr e := by
  cases e with
  | push m v =>
    obtain ⟨⟨h1, h2, h3⟩, h4⟩ := he
    have h1 : m ≤ s.1.length := h1
    have h2 : 0 ≤ v := h2
    have h3 : v ≤ 1000000000 := h3
    show pushR s (natD m) (.int v) = _
    unfold pushR
    rw [if_pos (numB_int (by omega) (by omega)), if_pos (numB_int h2 h3), if_neg (by omega)]
    rfl
  | pull i =>
    have h1 : i < s.2.length := he
    show pullR s (natD i) = _
    unfold pullR
    rw [if_pos (numB_int (by omega) (by omega))]
    rfl
  | stretch m l =>
    obtain ⟨h1, h2, h3, h4⟩ := he
    show stretchR s (natD m) (natD l) = _
    unfold stretchR
    rw [if_pos (numB_int (by omega) (by omega)), if_pos (numB_int (by omega) (by omega))]
    rfl
theorem tryE_inr {s : FS} {r : RE} {e : Ed} (h : tryE s r = .inr e) : EdOk s e ∧ r = raw e := by
  cases r with
  | push m v =>
    replace h : pushR s m v = .inr e := h
    unfold pushR at h
    split at h
    · next h1 =>
      split at h
      · next h2 =>
        split at h
        · cases h
        · next h3 =>
          cases h
          obtain ⟨i, rfl, a1, a2⟩ := numB_true h1
          obtain ⟨j, rfl, b1, b2⟩ := numB_true h2
          obtain ⟨n, rfl⟩ := Int.eq_ofNat_of_zero_le a1
          exact ⟨⟨⟨by show n ≤ s.1.length; omega, b1, b2⟩, by omega⟩, rfl⟩
      · cases h
    · cases h
  | pull i =>
    replace h : pullR s i = .inr e := h
    unfold pullR at h
    split at h
    · next h1 =>
      cases h
      obtain ⟨i, rfl, a1, a2⟩ := numB_true h1
      obtain ⟨n, rfl⟩ := Int.eq_ofNat_of_zero_le a1
      exact ⟨by show n < s.2.length; omega, rfl⟩
    · cases h
  | stretch m l =>
    replace h : stretchR s m l = .inr e := h
    unfold stretchR at h
    split at h
    · next h1 =>
      split at h
      · next h2 =>
        cases h
        obtain ⟨i, rfl, a1, a2⟩ := numB_true h1
        obtain ⟨j, rfl, b1, b2⟩ := numB_true h2
        obtain ⟨n, rfl⟩ := Int.eq_ofNat_of_zero_le (show 0 ≤ i by omega)
        obtain ⟨k, rfl⟩ := Int.eq_ofNat_of_zero_le (show 0 ≤ j by omega)
        exact ⟨⟨by show 1 ≤ n; omega, by show n ≤ s.1.length; omega, by show 1 ≤ k; omega, by show k ≤ 1000000; omega⟩, rfl⟩
      · cases h
    · cases h
end DL

set_option maxHeartbeats 1000000
/-! DLF9: list.count, list.index of a list of bools that nobody changes. -/
namespace DL
open PySem PySem.Spec PyProof.Rows L2 MT
section
variable {X : Cx}
def rCountF (K : PySem.W.Frag) : V → List V → Hp → VK → Prop := fun x xs H Q => ∃ (a : Addr) (ys : List V) (y : V), x = V.ref a ∧ xs = [y] ∧ SqL K H a ys ∧ flatV y = true ∧ ys.all flatV = true ∧ Q (.int ((ys.countP fun z => eqV z y : Nat) : Int)) H
theorem count_eqU {x : V} : ∀ {xs : List V} {us : List Value}, Vals xs us → xs.all flatV = true → us.countP (eqU x) = xs.countP fun y => eqV y x
  | _, _, .nil, _ => rfl
  | y :: xs, u :: us, .cons r t, f => by
    rw [List.all_cons, Bool.and_eq_true] at f
    rw [List.countP_cons, List.countP_cons, eqU_of r f.1, count_eqU t f.2]
theorem mt_countF : MtR X "list.count" (rCountF X.K) := by
  intro pins s σ H x xs v us Q I rx rxs h
  obtain ⟨a, ys, y, rfl, rfl, hs, fy, fys, q⟩ := h
  cases rx
  cases rxs with
  | cons ry rt =>
    rename_i uy ut
    cases rt
    obtain ⟨its, rv, ⟨⟨cls, dd, data, sl⟩, n, ho, hc, hdn, hd⟩, hlen⟩ := I.list hs
    simp only at hc hd
    subst hc hd
    refine call_meets PySem.F.slot_list_count ⟨_, ho, rfl⟩ PySem.F.entry_list_count (PySem.F.args_list_count_2 _ _)
      (SeqAt.list_countAt a its.toArray n dd sl uy (eqU y)) ⟨ho, fun u' hu' => mem_eqAt ry fy rv fys u' (by simpa using hu'), ?_⟩
    refine ⟨.int ((ys.countP fun z => eqV z y : Nat) : Int), H, I.tok _, ⟨s.toks, ?_⟩, q⟩
    show Value.int ((its.toArray.toList.countP (eqU y) : Nat) : Int) s.toks = _
    rw [show its.toArray.toList = its from rfl, count_eqU rv fys]
def cntB (bs : List Bool) (b : Bool) : Option Int := some ((bs.count b : Nat) : Int)
def idxB (bs : List Bool) (b : Bool) : Option Int := if b ∈ bs then some ((bs.idxOf b : Nat) : Int) else none
@[reducible] def dFz (f : List Bool → Bool → Option Int) (fo : DTE) (fr : DTA) : DTE := fun ρ M Q => fo ρ M fun o M1 => match o with
  | .lst xs => fr ρ M1 fun ds M2 => match blsOf xs, ds with
    | some bs, [.bl b] => (match f bs b with
      | some i => Q (.int i) M2
      | none => False)
    | _, _ => False
  | _ => False
theorem rps_bls {K : PySem.W.Frag} {F : Hp} {al : List Addr} : ∀ {bs : List Bool} {vs : List V}, Rps K F al vs (bs.map D.bl) → vs = bs.map V.bl
  | [], vs, r => by cases r; rfl
  | b :: bs, vs, r => by
    cases r with
    | cons r1 r2 => cases r1; rw [rps_bls r2]; rfl
theorem fz_ok {r : V → List V → Hp → VK → Prop} {f : List Bool → Bool → Option Int} {o e : Expr} {fo : DTE} {fr : DTA} (ho : DE X o fo) (hr : DA X [e] fr)
    (hk : ∀ (H : Hp) (p : Addr) (bs : List Bool) (b : Bool) (i : Int) (Q : VK), SqL X.K H p (bs.map V.bl) → f bs b = some i → Q (.int i) H → r (.ref p) [.bl b] H Q) {σ : L2.St} {H : Hp} {Q : VK} (h : Lift X (dFz f fo fr) σ H Q) : tBM X.K "list" r (Lift X fo) (LiftA X fr) σ H Q := by
  obtain ⟨ρ, M, al, F, G, W, s, q⟩ := h
  refine ho.seq W s q fun d M1 al1 F1 H1 v q1 e1 W1 r1 s1 => ?_
  cases d <;> first | exact q1.elim | skip
  next xs =>
  obtain ⟨p, zs, rfl, h1, rs⟩ := seqOf_ok W1 r1 (show seqOf (.lst xs) M1 = some xs from rfl)
  refine ⟨.inl ⟨rfl, zs, SqL.of h1⟩, hr.seq W1 s1 q1 fun ys M2 al2 F2 H2 us q2 e2 W2 r2 s2 => ?_⟩
  obtain ⟨p2, zs2, z, h2, rs2⟩ := seqOf_ok W2 (r1.ext e2) (show seqOf (.lst xs) M2 = some xs from rfl)
  cases z
  try dsimp only at q2
  split at q2
  · next bs b eb =>
    cases r2 with
    | cons ra rb =>
      cases ra
      cases rb
      split at q2
      · next i ei =>
        have exs := blsOf_eq eb
        subst exs
        have hz := rps_bls rs2
        subst hz
        exact hk H2 p bs b i Q (SqL.of h2) ei (q2 al2 F2 H2 _ (e1.trans e2) W2 (.int _))
      · exact q2.elim
  · exact q2.elim
theorem fz_mono {f : List Bool → Bool → Option Int} {o e : Expr} {fo : DTE} {fr : DTA} (ho : DE X o fo) (hr : DA X [e] fr) : ∀ (ρ : Dn) (M : Sto) (Q Q' : DK), (∀ d M, Q d M → Q' d M) → dFz f fo fr ρ M Q → dFz f fo fr ρ M Q' := fun ρ M Q Q' w q => ho.mono _ _ _ _ (fun d M1 q1 => by
  cases d <;> first | exact q1.elim | skip
  refine hr.mono _ _ _ _ (fun ds M2 q2 => ?_) q1
  try dsimp only at q2 ⊢
  split at q2
  · split at q2
    · exact w _ _ q2
    · exact q2.elim
  · exact q2.elim) q
theorem all_bls (bs : List Bool) : (bs.map V.bl).all flatV = true := by
  induction bs with
  | nil => rfl
  | cons b bs ih => rw [List.map_cons, List.all_cons, ih]; rfl
theorem count_bls (bs : List Bool) (b : Bool) : ((bs.map V.bl).countP fun z => eqV z (.bl b)) = bs.count b := by
  induction bs with
  | nil => rfl
  | cons c bs ih =>
    rw [List.map_cons, List.countP_cons, ih, List.count_cons]
    cases c <;> cases b <;> rfl
variable {o e : Expr} {fo : DTE} {fr : DTA} {apos cpos : Pos}
theorem d_countB (ho : DE X o fo) (hr : DA X [e] fr) (hb : attributeBase o "count" X.env (eval o X.env) = eval o X.env := by rfl)
    (h2 : ((backTo cpos (starEach [e] X.env)).all (fun x => !x.1) && (backToKw cpos (keywordEach [] X.env)).all (fun x => x.1.isSome) && decide ([e].length + ([] : List Keyword).length + (if ([] : List Keyword).isEmpty = true then 0 else 1) < 30)) = true := by rfl)
    (h3 : (apos.endLine == cpos.line) = true := by rfl) (h4 : starEach [e] X.env = (false, eval e X.env) :: starEach [] X.env := by rfl) (h5 : (backTo cpos (starEach [] X.env)).any (·.1) = false := by rfl) :
    DE X (.Call (.Attribute o "count" apos) [e] [] cpos) (dFz cntB fo fr) :=
  ⟨PE.of (pe_bm PySem.F.plainAttrs_list PySem.F.slot_list_count PySem.F.type_list_count mt_countF ho.pe hr.pa hb h2 h3 h4 h5) fun σ H Q h => fz_ok ho hr (fun H p bs b i Q hp hi q => ⟨p, _, _, rfl, rfl, hp, rfl, all_bls bs, by rw [count_bls]; cases hi; exact q⟩) h, fz_mono ho hr⟩
theorem d_indexB (ho : DE X o fo) (hr : DA X [e] fr) (hb : attributeBase o "index" X.env (eval o X.env) = eval o X.env := by rfl)
    (h2 : ((backTo cpos (starEach [e] X.env)).all (fun x => !x.1) && (backToKw cpos (keywordEach [] X.env)).all (fun x => x.1.isSome) && decide ([e].length + ([] : List Keyword).length + (if ([] : List Keyword).isEmpty = true then 0 else 1) < 30)) = true := by rfl)
    (h3 : (apos.endLine == cpos.line) = true := by rfl) (h4 : starEach [e] X.env = (false, eval e X.env) :: starEach [] X.env := by rfl) (h5 : (backTo cpos (starEach [] X.env)).any (·.1) = false := by rfl) :
    DE X (.Call (.Attribute o "index" apos) [e] [] cpos) (dFz idxB fo fr) :=
  ⟨PE.of (pe_bm PySem.F.plainAttrs_list PySem.F.slot_list_index PySem.F.type_list_index mt_index ho.pe hr.pa hb h2 h3 h4 h5) fun σ H Q h => fz_ok ho hr (fun H p bs b i Q hp hi q => by
    unfold idxB at hi
    split at hi
    · next hm =>
      cases hi
      have hlt := List.idxOf_lt_length_iff.mpr hm
      refine ⟨p, _, _, bs.idxOf b, .bl b, rfl, rfl, hp, rfl, all_bls bs, ?_, by cases b <;> rfl, fun m z hm2 hz => ?_, q⟩
      · rw [List.getElem?_map, List.getElem?_eq_getElem hlt, List.getElem_idxOf hlt]; rfl
      · rw [List.getElem?_map] at hz
        obtain ⟨c, hc, rfl⟩ := Option.map_eq_some_iff.mp hz
        have hne : c ≠ b := fun e => by
          have h1 := List.not_of_lt_findIdx (p := (· == b)) (xs := bs) (i := m) hm2
          obtain ⟨hl, hg⟩ := List.getElem?_eq_some_iff.mp hc
          rw [hg, e] at h1
          simp at h1
        cases c <;> cases b <;> first | rfl | exact absurd rfl hne
    · cases hi) h, fz_mono ho hr⟩
end
end DL

set_option maxHeartbeats 1000000
/-! DLX3: enumerate of a list in the store. -/
namespace DL
open PySem PySem.Spec PyProof.Rows L2 MT
section
variable {X : Cx} {a : Expr} {fr : DTA} {pos : Pos}
@[reducible] def diEnumR (fr : DTA) : DTI := fun ρ M R => fr ρ M fun ds M1 => match ds with
  | [.lst xs] => R (enumD 0 xs) stYes M1
  | [.ref n] => match M1[n]? with
    | some (.lst xs) => R (enumD 0 xs) (fun M' => M'[n]? = some (.lst xs)) M1
    | _ => False
  | _ => False
theorem di_enumR {p tpos : Pos} {elts : List Expr} {kk : Nat} (hg : Gl X "enumerate") (hm : X.mg "enumerate" = none) (h : DA X [a] fr) (hs : starEach [a] X.env = [(false, eval a X.env)] := by rfl) :
    DI X (.Tuple elts kk tpos) (.Call (.Name "enumerate" p) [a] [] pos) (diEnumR fr) := by
  refine ⟨⟨fun pins s σ H R I q => ?_⟩, fun ρ M Q Q' w q => h.mono _ _ _ _ (fun ds M1 q1 => ?_) q⟩
  · obtain ⟨ρ, M, al, F, G, W, es, q⟩ := q
    have hl : LiftA X fr σ H (fun vs H1 => ∃ p xs, vs = [.ref p] ∧ SqL X.K H1 p xs ∧ R (Ite X.K p) H1) := h.seq W es q fun ds M1 al1 F1 H1 vs q1 e1 W1 r1 s1 => by
      match ds, r1, q1 with
      | [.lst xs], .cons (.lst c1 d1) .nil, q1 => exact ⟨_, _, rfl, SqL.of (W1.sm _ _ c1), q1 al1 F1 H1 _ e1 W1 (ite_ok fun al' F' G' H' M' e sg W' _ => ⟨_, W'.sm _ _ (e.sm _ _ c1), d1.ext e⟩)⟩
      | [.ref n], .cons (.ref a1) .nil, q1 =>
        dsimp only at q1
        split at q1
        · next ds e =>
          obtain ⟨xs, hx, rs⟩ := W1.cel _ _ _ e a1
          exact ⟨_, _, rfl, SqL.of hx, q1 al1 F1 H1 _ e1 W1 (ite_ok fun al' F' G' H' M' e' sg W' st => by
            obtain ⟨xs', hx', rs'⟩ := W'.cel _ _ _ st (e'.get a1)
            exact ⟨xs', hx', rs'⟩)⟩
        · exact q1.elim
      | [.non], _, q1 => exact q1.elim
      | [.bl _], _, q1 => exact q1.elim
      | [.int _], _, q1 => exact q1.elim
      | [.str _], _, q1 => exact q1.elim
      | [.tup _], _, q1 => exact q1.elim
      | [.dct _ _], _, q1 => exact q1.elim
      | [.scr _], _, q1 => exact q1.elim
      | [.exo _ _ _ _ _], _, q1 => exact q1.elim
      | [], _, q1 => exact q1.elim
      | x :: _ :: _, _, q1 => cases x <;> exact q1.elim
    refine Call_ (ld_blt I hg hm boot_enumerate (PyProof.Rows.callWith_type1 (thn (h.pa.run pos pins s σ H _ I hl) fun us s1 ⟨vs, H1, I1, r1, q1⟩ => ?_) hs rfl))
    obtain ⟨a, xs, rfl, hq, q⟩ := q1
    cases r1 with
    | cons r rr =>
      cases rr
      cases r
      have go : ∀ b ∈ [s1.heap.objs.size + 1, s1.heap.objs.size], s1.heap.objs.size ≤ b := fun b hb => by
        have e' : b = s1.heap.objs.size + 1 ∨ b = s1.heap.objs.size := by simpa using hb
        omega
      obtain ⟨its, rv, p', hz⟩ := I1.list hq
      refine call_enumerate_list p'.isList fun h' he hit hsz hk => wpAny_pyIter_enum he ?_
      exact ⟨_, [s1.heap.objs.size + 1, s1.heap.objs.size], _, _, H1, rfl, I1.kept (t' := s1.toks) hk, turn_enum a _ s1.heap.objs.size, ⟨⟨.none, he⟩, hit, Nat.succ_ne_self _⟩, fun b hb => I1.fpOk (go b hb) (I1.hok.fresh (go b hb)), q⟩
  · match ds, q1 with
    | [.lst xs], q1 => exact w _ _ _ q1
    | [.ref n], q1 =>
      dsimp only at q1 ⊢
      split at q1
      · exact w _ _ _ q1
      · exact q1.elim
    | [.non], q1 => exact q1.elim
    | [.bl _], q1 => exact q1.elim
    | [.int _], q1 => exact q1.elim
    | [.str _], q1 => exact q1.elim
    | [.tup _], q1 => exact q1.elim
    | [.dct _ _], q1 => exact q1.elim
    | [.scr _], q1 => exact q1.elim
    | [.exo _ _ _ _ _], q1 => exact q1.elim
    | [], q1 => exact q1.elim
    | x :: _ :: _, q1 => cases x <;> exact q1.elim
end
end DL

set_option maxHeartbeats 1000000
/-! DLT2: repr of data with lists and dicts in any place. -/
namespace DL
open PySem PySem.Spec PyProof.Rows L2 MT
mutual
/-- tuples, lists and dicts -/
def pel : D → Bool
  | .non | .bl _ | .int _ | .str _ => true
  | .tup ds => pels ds
  | .lst ds => pels ds
  | .dct _ ds => pels ds
  | .ref _ | .scr _ | .exo _ _ _ _ _ => false
def pels : List D → Bool
  | [] => true
  | d :: ds => pel d && pels ds
end
section
variable {X : Cx} {pins : List (Addr × Obj)} {σ : L2.St} {H F : Hp} {s : Shared} {al : List Addr}
theorem sys_none (hs : (X.K.lookup sysModules).isSome = true) (I : L2.Inv X pins σ H s) : H sysModules = none := by
  obtain ⟨o, ho⟩ := Option.isSome_iff_exists.mp hs
  exact (I.bs sysModules o (I.ok.mod.kin _ _ ho)).2
mutual
theorem readsL (hs : H sysModules = none) (I : L2.Inv X pins σ H s) (sm : Sm F H) : ∀ {d : D} {v : V} {u : Value}, Rp X.K F al v d → pel d = true → RelV v u → ∃ as, Reads s.heap u (toPyE d) as ∧ sysModules ∉ as
  | .non, _, _, h, _, r => by
    cases h
    obtain rfl : _ = Value.none := r
    exact ⟨[], .none, by simp⟩
  | .bl b, _, _, h, _, r => by
    cases h
    obtain rfl : _ = Value.bool b := r
    exact ⟨[], .bool b, by simp⟩
  | .int i, _, _, h, _, r => by
    cases h
    obtain ⟨t, rfl⟩ := r
    exact ⟨[], .int i t, by simp⟩
  | .str x, _, _, h, _, r => by
    cases h
    obtain ⟨t, rfl⟩ := r
    exact ⟨[], .str x t, by simp⟩
  | .tup ds, _, _, h, hp, r => by
    cases h with
    | tup a b =>
      obtain rfl : _ = Value.ref _ := r
      obtain ⟨its, rv, ⟨o, ho, hc, n, hd⟩, _⟩ := I.tuple (SqT.of (sm _ _ a))
      obtain ⟨as, ra, ns⟩ := readsLs hs I sm b hp rv
      exact ⟨as, .tuple ho hc hd (by simpa using ra), ns⟩
  | .lst ds, _, _, h, hp, r => by
    cases h with
    | lst a b =>
      obtain rfl : _ = Value.ref _ := r
      obtain ⟨its, rv, ⟨o, n, ho, hc, _, hd⟩, _⟩ := I.list (SqL.of (sm _ _ a))
      obtain ⟨as, ra, ns⟩ := readsLs hs I sm b hp rv
      refine ⟨_, .list ho hc hd (by simpa using ra), fun z => ?_⟩
      rcases List.mem_cons.mp z with z | z
      · have := sm _ _ a
        rw [← z, hs] at this
        cases this
      · exact ns z
  | .dct ks ds, _, _, h, hp, r => by
    cases h with
    | dct a l b =>
      obtain rfl : _ = Value.ref _ := r
      obtain ⟨_, hne, vs, kv, dd⟩ := dk_of I.hok (sm _ _ a)
      obtain ⟨bs, pr, nb⟩ := pairs_read l kv fun us hu => readsLs hs I sm b hp hu
      refine ⟨_, PyProof.V.reads_dictOf (fun k key hk => ?_) dd pr, fun z => ?_⟩
      · rcases keyIs_shape hk with ⟨i, t, rfl, rfl⟩ | ⟨x, t, rfl, rfl⟩
        · exact .int i t
        · exact .str x t
      · rcases List.mem_cons.mp z with z | z
        · rw [← z] at hne
          simp at hne
        · exact nb z
  | .ref _, _, _, _, hp, _ => by cases hp
  | .scr _, _, _, _, hp, _ => by cases hp
  | .exo _ _ _ _ _, _, _, _, hp, _ => by cases hp
theorem readsLs (hs : H sysModules = none) (I : L2.Inv X pins σ H s) (sm : Sm F H) : ∀ {ds : List D} {vs : List V} {us : List Value}, Rps X.K F al vs ds → pels ds = true → Vals vs us → ∃ as, ReadsAll s.heap us (toPyEs ds) as ∧ sysModules ∉ as
  | [], _, _, h, _, r => by
    cases h
    cases r
    exact ⟨[], .nil, by simp⟩
  | d :: ds, _, _, h, hp, r => by
    cases h with
    | cons a b =>
      cases r with
      | cons r1 r2 =>
        have hp' : pel d = true ∧ pels ds = true := by simpa [pels] using hp
        obtain ⟨as, x1, n1⟩ := readsL hs I sm a hp'.1 r1
        obtain ⟨bs, x2, n2⟩ := readsLs hs I sm b hp'.2 r2
        exact ⟨as ++ bs, .cons x1 x2, fun z => by
          rcases List.mem_append.mp z with z | z
          · exact n1 z
          · exact n2 z⟩
end
end
def showL (d : D) : Prop := pel d = true ∧ (toPyE d).showable = true ∧ (toPyE d).depth ≤ 60 ∧ (toPyE d).shown.length ≤ sizeLine
/-- repr of data with lists and dicts -/
def gReprL : G1 := fun d M Q => showL d ∧ Q (.str (toPyE d).shown) M
theorem gReprL_mono : Mono1 gReprL := fun d M Q Q' w q => ⟨q.1, w _ _ q.2⟩
section
variable {X : Cx} {pos : Pos}
theorem o_reprL (hgd : X.A.guards = some []) (hu : X.A.units + 64 < cLine) (hs : (X.K.lookup sysModules).isSome = true) : ON X (.builtin "repr") (g1 gReprL) := by
  refine ⟨fun pins s σ al F G H M xs us ds Q I rv W rs q => ?_, g1_mono gReprL_mono⟩
  match ds, rs, q with
  | [], _, q => exact q.elim
  | _ :: _ :: _, _, q => exact q.elim
  | [d], .cons r .nil, q =>
    cases rv with
    | cons r1 r2 =>
      cases r2
      obtain ⟨⟨h1, h2, h3, h4⟩, k⟩ := q
      obtain ⟨as, rd, ns⟩ := readsL (sys_none hs I) I W.sm r h1 r1
      have fin : ∀ (h' : Heap) (u : Tok) (tk : Nat), (∀ b o, s.heap.get? b = some o → h'.get? b = some o) → EP X pins σ Q (.str (toPyE d).shown u) { s with heap := h', toks := tk } :=
        fun h' u tk hk => ⟨.str _, H, I.kept hk, ⟨u, rfl⟩, kont.here k W (.str _)⟩
      match d, r, rd, h1, h2, h3, h4, fin with
      | .tup ds, .tup _ _, rd, h1, h2, h3, h4, fin =>
        obtain rfl : _ = Value.ref _ := r1
        exact repr_of_reads' rd h2 (fun _ => ns) hgd (by omega) (fun _ _ z => z) fin h4
      | .lst ds, .lst _ _, rd, h1, h2, h3, h4, fin =>
        obtain rfl : _ = Value.ref _ := r1
        exact repr_of_reads' rd h2 (fun _ => ns) hgd (by omega) (fun _ _ z => z) fin h4
      | .dct ks ds, .dct _ _ _, rd, h1, h2, h3, h4, fin =>
        obtain rfl : _ = Value.ref _ := r1
        exact repr_of_reads' rd h2 (fun _ => ns) hgd (by omega) (fun _ _ z => z) fin h4
      | .int i, _, .int _ t, h1, h2, h3, h4, fin =>
        have hz : i.natAbs.log2 < 1920 := by simpa [toPyE, PyData.showable] using h2
        exact PySem.P.repr_of_int hz (fin s.heap s.toks (s.toks + 1) fun _ _ z => z)
      | .non, _, .none, h1, h2, h3, h4, fin => exact PySem.P.repr_of_none (fin s.heap s.toks (s.toks + 1) fun _ _ z => z)
      | .bl i, _, .bool _, h1, h2, h3, h4, fin => exact PySem.P.repr_of_bool (fin s.heap s.toks (s.toks + 1) fun _ _ z => z)
      | .str i, _, .str _ _, h1, h2, h3, h4, fin => exact PySem.P.repr_of_str (fin s.heap s.toks (s.toks + 1) fun _ _ z => z) h4
end
/-! ### what may be shown so -/
structure ShLOk (n h : Nat) (d : D) : Prop where
  pe : DL.pel d = true
  showable : (toPyE d).showable = true
  depth : (toPyE d).depth ≤ h
  len : (toPyE d).shown.length ≤ n
inductive ShL : Nat → Nat → D → Prop
  | non : ShL 4 0 .non
  | bl (b : Bool) : ShL 5 0 (.bl b)
  | int {i : Int} {n : Nat} (h : Sh n 0 (.int i)) : ShL n 0 (.int i)
  | str {x : Str} {n : Nat} (h : (reprText x).length ≤ n) : ShL n 0 (.str x)
  | by_ {n h : Nat} {d : D} (ok : ShLOk n h d) : ShL n h d
  | tup {n h m : Nat} {ds : List D} (hd : ∀ d ∈ ds, ShL n h d) (hl : ds.length ≤ m) : ShL (m * (n + 2) + 3) (h + 1) (.tup ds)
  | lst {n h m : Nat} {ds : List D} (hd : ∀ d ∈ ds, ShL n h d) (hl : ds.length ≤ m) : ShL (m * (n + 2) + 3) (h + 1) (.lst ds)
  | up {n h n' h' : Nat} {d : D} (s : ShL n h d) (hn : n ≤ n') (hh : h ≤ h') : ShL n' h' d
theorem shLAll {n h : Nat} : ∀ {ds : List D}, (∀ d ∈ ds, ShLOk n h d) → DL.pels ds = true ∧ PyData.showableAll (toPyEs ds) = true ∧ PyData.depthAll (toPyEs ds) ≤ h ∧ ((PyData.shownAll (toPyEs ds)).map (·.length)).sum ≤ ds.length * n ∧ (PyData.shownAll (toPyEs ds)).length = ds.length
  | [], _ => ⟨rfl, rfl, Nat.zero_le _, Nat.zero_le _, rfl⟩
  | d :: ds, hd => by
    obtain ⟨a1, a2, a3, a4⟩ := hd d List.mem_cons_self
    obtain ⟨b1, b2, b3, b4, b5⟩ := shLAll (ds := ds) fun x hx => hd x (List.mem_cons_of_mem _ hx)
    refine ⟨?_, ?_, ?_, ?_, ?_⟩
    · show (DL.pel d && DL.pels ds) = true
      rw [a1, b1]; rfl
    · show (PyData.showable (toPyE d) && PyData.showableAll (toPyEs ds)) = true
      rw [a2, b2]; rfl
    · show max (PyData.depth (toPyE d)) (PyData.depthAll (toPyEs ds)) ≤ h
      exact Nat.max_le.mpr ⟨a3, b3⟩
    · show (PyData.shown (toPyE d)).length + ((PyData.shownAll (toPyEs ds)).map (·.length)).sum ≤ (ds.length + 1) * n
      rw [Nat.add_mul]
      omega
    · show (PyData.shownAll (toPyEs ds)).length + 1 = ds.length + 1
      rw [b5]
theorem ShL.ok' {n h : Nat} {d : D} (s : ShL n h d) : ShLOk n h d := by
  induction s with
  | non => exact ⟨rfl, rfl, Nat.le_refl _, by decide +kernel⟩
  | bl b => exact ⟨rfl, rfl, Nat.zero_le _, by cases b <;> decide +kernel⟩
  | int h => exact ⟨rfl, h.ok'.showable, Nat.zero_le _, h.ok'.len⟩
  | str h => exact ⟨rfl, rfl, Nat.zero_le _, h⟩
  | by_ h => exact h
  | @tup n h m ds hd hl ih =>
    obtain ⟨b1, b2, b3, b4, b5⟩ := shLAll ih
    refine ⟨b1, b2, Nat.succ_le_succ b3, ?_⟩
    show (tupleText (PyData.shownAll (toPyEs ds))).length ≤ _
    refine Nat.le_trans (tupleText_len_le _) ?_
    rw [b5, Nat.mul_add]
    have := Nat.mul_le_mul_right n hl
    omega
  | @lst n h m ds hd hl ih =>
    obtain ⟨b1, b2, b3, b4, b5⟩ := shLAll ih
    refine ⟨b1, b2, Nat.succ_le_succ b3, ?_⟩
    show (listText (PyData.shownAll (toPyEs ds))).length ≤ _
    refine Nat.le_trans (listText_len_le _) ?_
    rw [b5, Nat.mul_add]
    have := Nat.mul_le_mul_right n hl
    omega
  | up s hn hh ih => exact ⟨ih.pe, ih.showable, Nat.le_trans ih.depth hh, Nat.le_trans ih.len hn⟩
theorem Sh.toL {n h : Nat} {d : D} (s : Sh n h d) : ShL n h d := by
  induction s with
  | non => exact .non
  | bl b => exact .bl b
  | int h => exact .int (.int h)
  | intB h hn => exact .int (.intB h hn)
  | str h => exact .str h
  | tup hd hl ih => exact .tup ih hl
  | lst hd hl ih => exact .lst ih hl
  | up s hn hh ih => exact .up ih hn hh
theorem ShL.show_ {n h : Nat} {d : D} (s : ShL n h d) (hn : n ≤ 16000000) (hh : h ≤ 60) : showL d := ⟨s.ok'.pe, s.ok'.showable, Nat.le_trans s.ok'.depth hh, Nat.le_trans s.ok'.len (Nat.le_trans hn (by decide))⟩
theorem shL_dct0 : ShL 100 1 (.dct [] []) := .by_ ⟨rfl, by decide +kernel, by decide +kernel, by decide +kernel⟩
theorem shL_dct1 : ShL 100 1 (.dct [.inr "a"] [.int 0]) := .by_ ⟨rfl, by decide +kernel, by decide +kernel, by decide +kernel⟩
/-! ### l == [] -/
def lstOf (d : D) (M : Sto) : Option (List D) := match d with
  | .lst ds => some ds
  | .ref n => match M[n]? with
    | some (.lst ds) => some ds
    | _ => none
  | _ => none
/-- == and != of any list and an empty one -/
def gEqN (neg : Bool) : G2 := fun x y M Q => y = .lst [] ∧ ∃ ds, lstOf x M = some ds ∧ Q (.bl (decide (ds = []) ^^ neg)) M
theorem gEqN_mono (neg : Bool) : Mono2 (gEqN neg) := fun x y M Q Q' w q => ⟨q.1, q.2.choose, q.2.choose_spec.1, w _ _ q.2.choose_spec.2⟩
def rNil (K : PySem.W.Frag) (neg : Bool) : R2 := fun x y H Q => ∃ l b xs, x = .ref l ∧ y = .ref b ∧ SqL K H l xs ∧ SqL K H b [] ∧ Q (.bl (xs.isEmpty ^^ neg)) H
section
variable {X : Cx}
theorem op_neNil (hu : X.A.units + 64 < cLine) : OpR X (compareOp .NotEq) (rNil X.K true) := by
  intro pins s σ H x y v u Q I rx ry ⟨l, b, xs, ex, ey, h1, h2, q⟩
  subst ex ey
  obtain rfl : v = Value.ref l := rx
  obtain rfl : u = Value.ref b := ry
  obtain ⟨its, rv, p1, _⟩ := I.list h1
  obtain ⟨js, rw_, p2, _⟩ := I.list h2
  cases rw_
  cases xs with
  | nil =>
    cases rv
    exact PySem.SeqAt.RcNeAt.lists (e := fun _ => true) p1.isList p2.isList rfl (by omega) (fun j a _ => absurd a (by simp)) X.prog X.w _ _ ⟨.bl _, H, I, rfl, q⟩
  | cons x xs =>
    have hl := rv.length
    exact PySem.SeqAt.RcNeAt.lists_lengths p1.isList p2.isList (by simp; intro e; rw [e] at hl; cases hl) (by omega) X.prog X.w _ _ ⟨.bl _, H, I, rfl, q⟩
theorem op_eqNil (hu : X.A.units + 64 < cLine) : OpR X (compareOp .Eq) (rNil X.K false) := by
  intro pins s σ H x y v u Q I rx ry ⟨l, b, xs, ex, ey, h1, h2, q⟩
  subst ex ey
  obtain rfl : v = Value.ref l := rx
  obtain rfl : u = Value.ref b := ry
  obtain ⟨its, rv, p1, _⟩ := I.list h1
  obtain ⟨js, rw_, p2, _⟩ := I.list h2
  cases rw_
  cases xs with
  | nil =>
    cases rv
    exact PySem.SeqAt.RcAt.lists (e := fun _ => true) p1.isList p2.isList rfl (by omega) (fun j a _ => absurd a (by simp)) X.prog X.w _ _ ⟨.bl _, H, I, rfl, q⟩
  | cons x xs =>
    have hl := rv.length
    exact PySem.SeqAt.RcAt.lists_lengths p1.isList p2.isList (by simp; intro e; rw [e] at hl; cases hl) (by omega) X.prog X.w _ _ ⟨.bl _, H, I, rfl, q⟩
theorem lstOf_ok {K : PySem.W.Frag} {al : List Addr} {F G H : Hp} {M : Sto} {x : V} {d : D} {ds : List D} (W : Wd K al F G H M) (r : Rp K F al x d) (e : lstOf d M = some ds) : ∃ l xs, x = .ref l ∧ SqL K H l xs ∧ xs.length = ds.length := by
  cases r with
  | lst a b =>
    cases e
    exact ⟨_, _, rfl, SqL.of (W.sm _ _ a), b.length⟩
  | ref a =>
    unfold lstOf at e
    dsimp only at e
    split at e
    · next ds2 e2 =>
      cases e
      obtain ⟨xs, q, rs⟩ := W.cel _ _ _ e2 a
      exact ⟨_, xs, rfl, SqL.of q, rs.length⟩
    · cases e
  | _ => cases e
theorem nil_rel {K : PySem.W.Frag} {neg : Bool} {al : List Addr} {F G H : Hp} {M : Sto} {x y : V} {dx dy : D} {Q : VK} (W : Wd K al F G H M) (r1 : Rp K F al x dx) (r2 : Rp K F al y dy) (q : gEqN neg dx dy M (kont K al F G Q)) : rNil K neg x y H Q := by
  obtain ⟨rfl, ds, e, k⟩ := q
  obtain ⟨l, xs, rfl, h1, hl⟩ := lstOf_ok W r1 e
  cases r2 with
  | lst a b =>
    cases b
    refine ⟨l, _, xs, rfl, rfl, h1, SqL.of (W.sm _ _ a), ?_⟩
    rw [show xs.isEmpty = decide (ds = []) by
      cases xs with
      | nil => cases ds with
        | nil => rfl
        | cons _ _ => cases hl
      | cons _ _ => cases ds with
        | nil => cases hl
        | cons _ _ => simp]
    exact kont.here k W (.bl _)
theorem o_neN (hu : X.A.units + 64 < cLine) : O2 X (compareOp .NotEq) (gEqN true) := O2.of (op_neNil hu) (gEqN_mono _) fun al F G H M x y dx dy Q W r1 r2 q => nil_rel W r1 r2 q
theorem o_eqN (hu : X.A.units + 64 < cLine) : O2 X (compareOp .Eq) (gEqN false) := O2.of (op_eqNil hu) (gEqN_mono _) fun al F G H M x y dx dy Q W r1 r2 q => nil_rel W r1 r2 q
end
/-! ### a def's second name; no tuple -/
structure DfA (K : PySem.W.Frag) (mg : Str → Option Value) (x nm : Str) (st : Stmt) : Prop where
  ex : ∃ (f : Addr) (fd : FuncData), Fun K nm nm st f fd ∧ mg x = some (.ref f)
theorem SaysH.dfA {ck : List (PySem.W.Frag → Bool)} {fn : List HDef} {ts : List He.Tab} {w : World} {K : PySem.W.Frag} {h : Heap} {mg : Str → Option Value} (c : SaysH ck fn ts w K) (X : K.In h) (G : h.Ns mainGlobals mg) (i j : Nat) {x nm : Str} {st : Stmt} (h1 : ck[i]? = some fun K => (He.Fa.glo x).ok K) (h2 : fn[j]? = some ⟨fun K => He.ga K x, nm, nm, st, []⟩) : DfA K mg x nm st := by
  obtain ⟨fd, F⟩ := c.def_ j h2
  exact ⟨_, fd, fun_ofD F, He.glo_ok X G (c.fact i h1)⟩
def ntB (C : Str) (K : PySem.W.Frag) : Bool := decide (PySem.W.subIn K (.ref (He.ga K C)) (.type "tuple") = some false)
theorem ntB_ok {K : PySem.W.Frag} {C : Str} (c : ntB C K = true) : NotSub K (He.ga K C) "tuple" := (of_decide_eq_true c : PySem.W.subIn K (.ref (He.ga K C)) (.type "tuple") = some false)
end DL

set_option maxHeartbeats 1000000
/-! DLT3: texts: split, partition, endswith, count, upper, int of a text, one sign in a text, for over a text, a, *b = list. -/
namespace DL
open PySem PySem.Spec PyProof.Rows L2 MT
theorem rps_strs {K : PySem.W.Frag} {F : Hp} {al : List Addr} : ∀ ys : List Str, Rps K F al (ys.map V.str) (ys.map D.str)
  | [] => .nil
  | y :: ys => .cons (.str y) (rps_strs ys)
section
variable {X : Cx} {o e : Expr} {fo fe : DTE} {pos apos : Pos}
/-- a method of a text with a text -/
@[reducible] def dM1 (g : Str → Str → Sto → DK → Prop) (fo fe : DTE) : DTE := fun ρ M Q => fo ρ M fun x M1 => match x with
  | .str a => fe ρ M1 fun y M2 => match y with
    | .str b => g a b M2 Q
    | _ => False
  | _ => False
theorem dM1_mono {g : Str → Str → Sto → DK → Prop} (ho : DE X o fo) (he : DE X e fe) (hg : ∀ a b M (Q Q' : DK), (∀ d M, Q d M → Q' d M) → g a b M Q → g a b M Q') (ρ : Dn) (M : Sto) (Q Q' : DK) (w : ∀ d M, Q d M → Q' d M) (q : dM1 g fo fe ρ M Q) : dM1 g fo fe ρ M Q' :=
  ho.mono _ _ _ _ (fun x M1 q1 => by
    cases x with
    | str a => exact he.mono _ _ _ _ (fun y M2 q2 => by
        cases y with
        | str b => exact hg a b M2 _ _ w q2
        | _ => exact q2.elim) q1
    | _ => exact q1.elim) q
def gSplit (a b : Str) (M : Sto) (Q : DK) : Prop := (b.length == 0) = false ∧ a.length + 2 ≤ sizeLine ∧ Q (.lst ((Txt.split a b).map D.str)) M
/-- o.split(e) -/
theorem d_split (ho : DE X o fo) (he : DE X e fe) (hs : starEach [e] X.env = [(false, eval e X.env)] := by rfl) (hbase : attributeBase o "split" X.env (eval o X.env) = eval o X.env := by rfl) (hline : (apos.endLine == pos.line) = true := by rfl) :
    DE X (.Call (.Attribute o "split" apos) [e] [] pos) (dM1 gSplit fo fe) := by
  refine ⟨PE.of (pe_split ho.pe he.pe hs hbase hline) fun σ H Q ⟨ρ, M, al, F, G, W, s, q⟩ => ?_, dM1_mono ho he fun a b M Q Q' w q => ⟨q.1, q.2.1, w _ _ q.2.2⟩⟩
  refine ho.seq W s q fun x M1 al1 F1 H1 v q1 e1 W1 r1 s1 => ?_
  cases r1 with
  | str a =>
    refine ⟨⟨a, rfl⟩, ?_⟩
    refine he.seq W1 s1 q1 fun y M2 al2 F2 H2 u q2 e2 W2 r2 s2 => ?_
    cases r2 with
    | str b =>
      refine ⟨a, b, rfl, rfl, q2.1, q2.2.1, fun p hp => ?_⟩
      obtain ⟨W', e'⟩ := W2.newF (o := .lst ((Txt.split a b).map V.str)) hp
      exact q2.2.2 al2 _ _ _ (e1.trans (e2.trans e')) W' (.lst upd_same (rps_strs _))
    | _ => exact q2.elim
  | _ => exact q1.elim
def gPart (a b : Str) (M : Sto) (Q : DK) : Prop := (b.length == 0) = false ∧ a.length ≤ sizeLine ∧ Q (.tup [.str (Txt.partition a b).1, .str (Txt.partition a b).2.1, .str (Txt.partition a b).2.2]) M
/-- o.partition(e) -/
theorem d_partition (ho : DE X o fo) (he : DE X e fe) (hs : starEach [e] X.env = [(false, eval e X.env)] := by rfl) (hbase : attributeBase o "partition" X.env (eval o X.env) = eval o X.env := by rfl) (hline : (apos.endLine == pos.line) = true := by rfl) :
    DE X (.Call (.Attribute o "partition" apos) [e] [] pos) (dM1 gPart fo fe) := by
  refine ⟨PE.of (pe_partition ho.pe he.pe hs hbase hline) fun σ H Q ⟨ρ, M, al, F, G, W, s, q⟩ => ?_, dM1_mono ho he fun a b M Q Q' w q => ⟨q.1, q.2.1, w _ _ q.2.2⟩⟩
  refine ho.seq W s q fun x M1 al1 F1 H1 v q1 e1 W1 r1 s1 => ?_
  cases r1 with
  | str a =>
    refine ⟨⟨a, rfl⟩, ?_⟩
    refine he.seq W1 s1 q1 fun y M2 al2 F2 H2 u q2 e2 W2 r2 s2 => ?_
    cases r2 with
    | str b =>
      refine ⟨a, b, rfl, rfl, q2.1, q2.2.1, fun p hp => ?_⟩
      obtain ⟨W', e'⟩ := W2.newF (o := .tup [.str (Txt.partition a b).1, .str (Txt.partition a b).2.1, .str (Txt.partition a b).2.2]) hp
      exact q2.2.2 al2 _ _ _ (e1.trans (e2.trans e')) W' (.tup upd_same (.cons (.str _) (.cons (.str _) (.cons (.str _) .nil))))
    | _ => exact q2.elim
  | _ => exact q1.elim
def gEnds (a b : Str) (M : Sto) (Q : DK) : Prop := Q (.bl (Txt.endswith a b)) M
/-- o.endswith(e) -/
theorem d_endswith (ho : DE X o fo) (he : DE X e fe) (hs : starEach [e] X.env = [(false, eval e X.env)] := by rfl) (hbase : attributeBase o "endswith" X.env (eval o X.env) = eval o X.env := by rfl) (hline : (apos.endLine == pos.line) = true := by rfl) :
    DE X (.Call (.Attribute o "endswith" apos) [e] [] pos) (dM1 gEnds fo fe) := by
  refine ⟨PE.of (pe_m1 F.slot_str_endswith F.type_str_endswith mt_endswith ho.pe he.pe hs hbase hline) fun σ H Q ⟨ρ, M, al, F, G, W, s, q⟩ => ?_, dM1_mono ho he fun a b M Q Q' w q => w _ _ q⟩
  refine ho.seq W s q fun x M1 al1 F1 H1 v q1 e1 W1 r1 s1 => ?_
  cases r1 with
  | str a =>
    refine ⟨⟨a, rfl⟩, ?_⟩
    refine he.seq W1 s1 q1 fun y M2 al2 F2 H2 u q2 e2 W2 r2 s2 => ?_
    cases r2 with
    | str b => exact ⟨a, b, rfl, rfl, q2 al2 F2 H2 _ (e1.trans e2) W2 (.bl _)⟩
    | _ => exact q2.elim
  | _ => exact q1.elim
def gCntS (a b : Str) (M : Sto) (Q : DK) : Prop := Q (.int (Txt.count a b)) M
/-- o.count(e), texts -/
theorem d_countS (ho : DE X o fo) (he : DE X e fe) (hs : starEach [e] X.env = [(false, eval e X.env)] := by rfl) (hbase : attributeBase o "count" X.env (eval o X.env) = eval o X.env := by rfl) (hline : (apos.endLine == pos.line) = true := by rfl) :
    DE X (.Call (.Attribute o "count" apos) [e] [] pos) (dM1 gCntS fo fe) := by
  refine ⟨PE.of (pe_m1 F.slot_str_count F.type_str_count mt_count ho.pe he.pe hs hbase hline) fun σ H Q ⟨ρ, M, al, F, G, W, s, q⟩ => ?_, dM1_mono ho he fun a b M Q Q' w q => w _ _ q⟩
  refine ho.seq W s q fun x M1 al1 F1 H1 v q1 e1 W1 r1 s1 => ?_
  cases r1 with
  | str a =>
    refine ⟨⟨a, rfl⟩, ?_⟩
    refine he.seq W1 s1 q1 fun y M2 al2 F2 H2 u q2 e2 W2 r2 s2 => ?_
    cases r2 with
    | str b => exact ⟨a, b, rfl, rfl, q2 al2 F2 H2 _ (e1.trans e2) W2 (.int _)⟩
    | _ => exact q2.elim
  | _ => exact q1.elim
/-- int of a text -/
@[reducible] def gIntS : G1 := fun d M Q => match d with
  | .str a => ∃ n, PySem.intText? a = some n ∧ a.length ≤ 640 ∧ Q (.int n) M
  | _ => False
theorem o_intS : ON X (.type "int") (g1 gIntS) := ON.of1 call_int_str (fun d M Q Q' w q => by
    cases d with
    | str a =>
      obtain ⟨n, h1, h2, h3⟩ := q
      exact ⟨n, h1, h2, w _ _ h3⟩
    | _ => exact q.elim) fun al F G H M x d Q W r q => by
  cases r with
  | str a =>
    obtain ⟨n, h1, h2, h3⟩ := q
    exact ⟨a, n, rfl, h1, h2, kont.here h3 W (.int _)⟩
  | _ => exact q.elim
/-- one sign in a text -/
@[reducible] def gInS (neg : Bool) : G2 := fun x y M Q => match x, y with
  | .str a, .str z => ∃ c : Nat, a = ⟨#[c]⟩ ∧ Q (.bl (decide (c ∈ z.cps.toList) ^^ neg)) M
  | _, _ => False
theorem gInS_mono (neg : Bool) : Mono2 (gInS neg) := fun x y M Q Q' w q => by
  cases x with
  | str a =>
    cases y with
    | str z =>
      obtain ⟨c, h1, h2⟩ := q
      exact ⟨c, h1, w _ _ h2⟩
    | _ => exact q.elim
  | _ => cases y <;> exact q.elim
theorem o_inS : O2 X (compareOp .In) (gInS false) := O2.of op_in_sign (gInS_mono _) fun al F G H M x y dx dy Q W r1 r2 q => by
  cases r1 with
  | str a =>
    cases r2 with
    | str z =>
      obtain ⟨c, rfl, h2⟩ := q
      rw [Bool.xor_false] at h2
      exact ⟨c, z, rfl, rfl, kont.here h2 W (.bl _)⟩
    | _ => exact q.elim
  | _ => cases r2 <;> exact q.elim
theorem o_notinS : O2 X (compareOp .NotIn) (gInS true) := O2.of op_notIn_sign (gInS_mono _) fun al F G H M x y dx dy Q W r1 r2 q => by
  cases r1 with
  | str a =>
    cases r2 with
    | str z =>
      obtain ⟨c, rfl, h2⟩ := q
      rw [Bool.xor_true] at h2
      exact ⟨c, z, rfl, rfl, kont.here h2 W (.bl _)⟩
    | _ => exact q.elim
  | _ => cases r2 <;> exact q.elim
/-- for over a text: its signs -/
def signsD (x : Str) : List D := x.cps.toList.map fun c => D.str ⟨#[c]⟩
@[reducible] def diStr (fa : DTE) : DTI := fun ρ M R => fa ρ M fun d M1 => match d with
  | .str x => R (signsD x) stYes M1
  | _ => False
theorem its_ok {K : PySem.W.Frag} {al : List Addr} {F G : Hp} {x : Str} {st : Sto → Prop} : ItOk K (Its x) (signsD x) st al F G := by
  intro al' F' G' H' M' e sg W hst i
  refine ⟨fun d hd => ?_, fun hl => ?_⟩
  · unfold signsD at hd
    rw [List.getElem?_map] at hd
    obtain ⟨c, hc, rfl⟩ := Option.map_eq_some_iff.mp hd
    have hc2 : x.cps[i]? = some c := by rw [← Array.getElem?_toList]; exact hc
    refine ⟨(Array.getElem?_eq_some_iff.mp hc2).1, fun v H'' hy => ?_⟩
    obtain ⟨rfl, c', h1, rfl⟩ := hy
    rw [hc2] at h1
    cases h1
    exact ⟨F', Sm.refl _, W, .str _⟩
  · unfold signsD at hl
    rw [List.length_map, Array.length_toList] at hl
    exact hl
theorem di_str {tg a : Expr} {fa : DTE} (h : DE X a fa) : DI X tg a (diStr fa) := by
  refine ⟨PI.of (pi_str h.pe) fun σ H R ⟨ρ, M, al, F, G, W, es, q⟩ => ?_, fun ρ M Q Q' w q => h.mono _ _ _ _ (fun d M1 q1 => ?_) q⟩
  · refine h.seq W es q fun d M1 al1 F1 H1 v q1 e1 W1 r1 s1 => ?_
    cases r1 with
    | str x => exact ⟨x, rfl, q1 al1 F1 H1 _ e1 W1 its_ok⟩
    | _ => exact q1.elim
  · cases d with
    | str x => exact w _ _ _ q1
    | _ => exact q1.elim
end
end DL

set_option maxHeartbeats 1000000
/-! DLT4: an expression that is never reached, a, *b = a list, isinstance of an instance and an own class, == by an own def. -/
namespace DL
open PySem PySem.Spec PyProof.Rows L2 MT
section
variable {X : Cx} {e : Expr}
/-- an expression that is never reached -/
@[reducible] def dNeverE : DTE := fun _ _ _ => False
theorem d_neverE : DE X e dNeverE := ⟨⟨fun pins s σ H Q I ⟨_, _, _, _, _, _, _, q⟩ => q.elim⟩, fun _ _ _ _ _ q => q⟩
end
/-! ### a, *b = a list -/
section
variable {X : Cx} {pins : List (Addr × Obj)} {σ : L2.St} {H : Hp} {s : Shared}
theorem star_unpackL {a : Addr} {x : V} {xs : List V} {Q : List Value → Shared → Prop} (hc : X.calm = true) (I : L2.Inv X pins σ H s) (hq : SqL X.K H a (x :: xs)) (hz : xs.length ≤ 1000)
    (k : ∀ (p : Addr) (s' : Shared) (u : Value), H p = none → L2.Inv X pins σ (upd H p (.lst xs)) s' → RelV x u → Q [u, .ref p] s') : wpAny (model X.prog X.w) X.A (unpackItems (.ref a) 2 (some 1)) Q X.xe s := by
  obtain ⟨its, rv, hl0, _⟩ := I.list hq
  have hl := hl0.isList
  cases rv with
  | @cons _ u _ us ru rus =>
  have hh := I.ok.hd hc
  have hus : us.length ≤ 1000 := by rw [← rus.length]; exact hz
  have hlt : a ≠ s.heap.objs.size := by obtain ⟨o, ho, _⟩ := hl; exact Nat.ne_of_lt (Heap.lt_size ho)
  unfold unpackItems
  refine wpAny_bind ?_
  unfold notIterableAtAll
  refine wpAny_bind (wpAny_specialOf hl.typeIs F.slot_list_iter.lookup ?_)
  refine wpAny_pure ?_
  simp only [Bool.false_eq_true, if_false]
  have hl1 : ∀ o, (s.heap.push o).IsList a (u :: us).toArray := fun o => hl.at fun _ e => Heap.get?_push_of_some _ e
  refine wpAny_bind (wpAny_holding (wpAny_pyIter_list hl ?_))
  refine wpAny_bind (wpAny_holding (draw_lst hlt 1 0 _ _ ⟨_, Heap.get?_push_size _ rfl, rfl, rfl⟩ (hl1 _) (by simp) fun h₁ hit₁ hl₁ hs₁ => ?_))
  rw [Nat.zero_add] at hit₁
  have hit₁' := hit₁
  obtain ⟨oi, hoi, _⟩ := hit₁'
  have hl₁' := hl₁
  obtain ⟨ol, hol, _⟩ := hl₁'
  rw [show List.take 1 (List.drop 0 (u :: us).toArray.toList) = [u] by simp]
  rw [if_neg (show ¬ ([u].length < 1) from Nat.lt_irrefl 1)]
  refine wpAny_bind (wpAny_holding (PySem.W.kun_collect (s := { s with heap := h₁ }) (T := "list_iterator") (.inr (.inr (.inl rfl))) (Walks.list (A := X.A.in1) hh s.heap.objs.size a hlt (u :: us).toArray) (fun j u st => st.1.typeIs) (k := 1) (by simp) ⟨hit₁, hl₁⟩ (Heap.lt_size hoi) (Heap.lt_size hol) (fun h₂ tk hk => ?_) (by rw [sizeLine_eq]; simp; omega)))
  rw [show List.drop 1 (u :: us).toArray.toList = us by simp]
  show wpAny _ _ (if us.length < 2 - 1 - 1 then _ else _) _ _ _
  rw [if_neg (by omega)]
  show wpAny _ _ (newList (us.take (us.length - (2 - 1 - 1))) >>= fun d => pure ([u] ++ [d] ++ us.drop (us.length - (2 - 1 - 1)))) _ _ _
  rw [show us.length - (2 - 1 - 1) = us.length by omega, List.take_length, List.drop_length]
  have hkeep : ∀ b o, s.heap.get? b = some o → h₂.get? b = some o := fun b o e => hk b o (Nat.ne_of_lt (Heap.lt_size e)) (hs₁.extBut b o (Nat.ne_of_lt (Heap.lt_size e)) (Heap.get?_push_of_some _ e))
  have I2 : L2.Inv X pins σ H { s with heap := h₂, toks := tk } := I.kept hkeep
  refine wpAny_bind (wpAny_newObj_type (wpAny_pure ?_) (by show us.toArray.size ≤ sizeLine; rw [sizeLine_eq]; simp; omega))
  refine k h₂.objs.size _ u (I2.hok.fresh (Nat.le_refl _)) ?_ ru
  exact I2.laid (t' := tk) (h' := h₂.push { cls := .type "list", data := .seq us.toArray }) (fun b o e => Heap.get?_push_of_some _ e) (Nat.le_refl _) ⟨by rw [sizeLine_eq]; omega, us, 0, rus, Heap.get?_push_size _ rfl⟩
def gStar1L (K : PySem.W.Frag) (t : TGs) : TG := fun v σ H Q => ∃ a x xs, v = .ref a ∧ SqL K H a (x :: xs) ∧ xs.length ≤ 1000 ∧ ∀ p, H p = none → t [x, .ref p] σ (upd H p (.lst xs)) Q
theorem pg_star1L {t1 t2 : Expr} {p2 pos : Pos} {k : Nat} {t : TGs} (hc : X.calm = true) (h : PGs X [t1, t2] t) (hn : assignEach [t1, .Starred t2 p2] X.env = [(false, assign t1 X.env), (true, assign t2 X.env)] := by rfl)
    (hm : (assignEach [t1, t2] X.env).map (·.2) = [assign t1 X.env, assign t2 X.env] := by rfl) : PG X (.Tuple [t1, .Starred t2 p2] k pos) (gStar1L X.K t) := by
  refine ⟨fun pins s σ H v u Q I r ⟨a, x, xs, e1, hq, hz, hw⟩ => ?_⟩
  subst e1
  cases r
  rw [assign_Tuple]
  refine wpAny_bind (wpAny_standAt ?_)
  unfold unpack
  rw [hn]
  show wpAny _ _ ((holding [Value.ref a] (unpackItems (.ref a) 2 (some 1))) >>= fun vs => assignInOrder [assign t1 X.env, assign t2 X.env] vs) _ _ s
  refine wpAny_bind (wpAny_holding (star_unpackL hc I hq hz fun p s' u hp I' ru => ?_))
  rw [← hm]
  exact h.run pins s' σ _ [x, .ref p] [u, .ref p] Q I' (.cons ru (.cons rfl .nil)) (hw p hp)
@[reducible] def dgStar1L (g : DTGs) : DTG := fun d ρ M Q => match d with
  | .lst (x :: xs) => xs.length ≤ 1000 ∧ g [x, .lst xs] ρ M Q
  | _ => False
theorem dg_star1L {t1 t2 : Expr} {p2 pos : Pos} {k : Nat} {g : DTGs} {js : List Nat} (hc : X.calm = true) (h : DGs X [t1, t2] g js) (hn : assignEach [t1, .Starred t2 p2] X.env = [(false, assign t1 X.env), (true, assign t2 X.env)] := by rfl)
    (hm : (assignEach [t1, t2] X.env).map (·.2) = [assign t1 X.env, assign t2 X.env] := by rfl) : DG X (.Tuple [t1, .Starred t2 p2] k pos) (dgStar1L g) js := by
  refine ⟨PG.of (pg_star1L hc h.pg hn hm) fun v σ H Q ⟨d, ρ, M, al, F, G, W, es, r, q⟩ => ?_, fun d ρ M Q Q' w q => ?_⟩
  · unfold dgStar1L at q
    split at q
    · next x xs =>
      cases r with
      | lst a b =>
        cases b with
        | cons b1 b2 =>
          refine ⟨_, _, _, rfl, SqL.of (W.sm _ _ a), (by rw [b2.length]; exact q.1), fun p hp => ?_⟩
          obtain ⟨W', e⟩ := W.newF (o := .lst _) hp
          exact ⟨_, ρ, M, al, _, G, W', es.ext e, .cons (b1.ext e) (.cons (.lst upd_same (b2.ext e)) .nil), h.mono _ _ _ _ _ (fun ρ' M' k al' F' H' σ' e' => k al' F' H' σ' (e.trans e')) q.2⟩
    · exact q.elim
  · unfold dgStar1L at q ⊢
    split at q
    · exact ⟨q.1, h.mono _ _ _ _ _ w q.2⟩
    · exact q.elim
end
/-! ### isinstance(e, C), e an instance -/
section
variable {X : Cx} {a : Expr} {fa : DTE} {pos : Pos}
/-- instances of class C are (or are not) instances of class C' -/
def KC (K : PySem.W.Frag) (C C' : Addr) (b : Bool) : Prop := PySem.W.kitOne K (.ref C) (.ref C') = some b
@[reducible] def dIsiC (K : PySem.W.Frag) (C' : Addr) (fa : DTE) : DTE := fun ρ M Q => fa ρ M fun d M1 => match d with
  | .ref n => match M1[n]? with
    | some (.ins C _) => InC K C ∧ ∃ b, KC K C C' b ∧ Q (.bl b) M1
    | _ => False
  | _ => False
theorem d_isiC {x : Str} {C' : Addr} {p p2 : Pos} (hm2 : X.mg x = some (.ref C')) (hm : X.mg "isinstance" = none) (h : DE X a fa) (hg : Gl X "isinstance" := by rfl) (hg2 : Gl X x := by rfl) (hd2 : (x == ("__debug__" : Str)) = false := by decide)
    (hs : starEach [a, .Name x p2] X.env = (false, eval a X.env) :: starEach [.Name x p2] X.env := by rfl) (hs2 : starEach [.Name x p2] X.env = (false, eval (.Name x p2) X.env) :: starEach [] X.env := by rfl) (hpl : (backTo pos (starEach [.Name x p2] X.env)).any (·.1) = false := by rfl) :
    DE X (.Call (.Name "isinstance" p) [a, .Name x p2] [] pos) (dIsiC X.K C' fa) := by
  refine ⟨PE.of (pe_callB call_isi hg hm (by decide +kernel) (pa_cons h.pe (pa_cons (pe_glob (v := .ref C') hg2 hm2 rfl hd2) pa_nil hs2) hs) (by decide) (by decide) hs hpl) fun σ H Q ⟨ρ, M, al, F, G, W, s, q⟩ => ?_, fun ρ M Q Q' w q => h.mono _ _ _ _ (fun d M1 q1 => ?_) q⟩
  · refine h.seq W s q fun d M1 al1 F1 H1 v q1 e1 W1 r1 s1 => ?_
    cases d with
    | ref n =>
      dsimp only at q1
      split at q1
      · next C fs em =>
        obtain ⟨c1, b, c2, q2⟩ := q1
        obtain ⟨p, dx, vs, rfl, _, h2, h3, h4⟩ := cell_ins W1 r1 em
        exact ⟨_, .ref C', .ref C, .ref C', b, rfl, .own C', .base (.ins h2 c1.cl c1.ha c1.hn c1.htk c1.hm), c2, q2 al1 F1 H1 _ e1 W1 (.bl _)⟩
      · exact q1.elim
    | _ => exact q1.elim
  · cases d with
    | ref n =>
      dsimp only at q1 ⊢
      split at q1
      · obtain ⟨c1, b, c2, q2⟩ := q1
        exact ⟨c1, b, c2, w _ _ q2⟩
      · exact q1.elim
    | _ => exact q1.elim
end
/-! ### == of two instances of a class by its own def -/
section
variable {X : Cx} {C f : Addr} {fd : FuncData} {ps : List Str} {k : Nat} {ds : DSp}
theorem own_runN {pins : List (Addr × Obj)} {σ : L2.St} {H : Hp} {s : Shared} {vs : List V} {us : List Value} {Q : VK} {R : Value → Shared → Prop} (F : FnG X.prog X.w X.K X.mg X.base (L2N.CX X.prog X.w) k f fd ps (spOf X.K ds)) (hgd : X.A.guards = some []) (hr : Room k X.A) (hb : Binds X.K fd ps [])
    (I : L2.Inv X pins σ H s) (rv : Vals vs us) (h : spOf X.K ds vs H Q (fun _ _ _ => False)) (fin : ∀ u s', EP X pins σ Q u s' → R u s') : wpAny (model X.prog X.w) X.A (call (.ref f) us) R X.xe s := by
  have hl : (us ++ []).length = ps.length := by
    rw [← F.len _ _ _ _ h, List.append_nil]
    exact rv.length.symm
  refine wpAny_call (codeAny_mono (F.run X.A X.stack s H ⟨us, []⟩ us vs Q (fun _ _ _ => False) hgd hr I.env0 (by
    have := hb s us I.kIn hl
    rw [List.append_nil] at this
    exact this) rv h) fun r s' hq => ?_)
  match r, hq with
  | .error er, hq =>
    obtain ⟨_, _, _, _, _, _, _, _, _, _, _, _, z⟩ := hq
    exact z.elim
  | .ok (.ret u), hq => exact fin u s' (I.after hq)
  | .ok .next, hq => exact hq.elim
  | .ok .brk, hq => exact hq.elim
  | .ok .cont, hq => exact hq.elim
@[reducible] def gEqI (C : Addr) (ds : DSp) : G2 := fun x y M Q => match x with
  | .ref n => match y with
    | .ref m => match M[n]? with
      | some (.ins C' fs) => match M[m]? with
        | some (.ins C'' gs) => C' = C ∧ C'' = C ∧ ds [.ref n, .ref m] M (fun v M2 => ∃ b : Bool, v = .bl b ∧ Q (.bl b) M2) fun _ _ _ => False
        | _ => False
      | _ => False
    | _ => False
  | _ => False
theorem gEqI_mono (hm : MonoSp ds) : Mono2 (gEqI C ds) := fun x y M Q Q' w q => by
  cases x with
  | ref n =>
    cases y with
    | ref m =>
      unfold gEqI at q ⊢
      dsimp only at q ⊢
      split at q
      · split at q
        · exact ⟨q.1, q.2.1, hm _ _ _ _ _ _ (fun v M2 ⟨i, a, d⟩ => ⟨i, a, w _ _ d⟩) (fun _ _ _ z => z) q.2.2⟩
        · exact q.elim
      · exact q.elim
    | _ => exact q.elim
  | _ => exact q.elim
theorem o_eqI (C0 : ClMe X.prog X.w X.K X.mg X.base C "__eq__" k ps ds) (hgd : X.A.guards = some []) (hr : Room (k + 2) X.A) : O2 X (compareOp .Eq) (gEqI C ds) := by
  obtain ⟨f, fd, c, hm, G, hb⟩ := C0.ex
  have hmono := C0.mono
  refine ⟨fun pins s σ al F Gg H M x y v u dx dy Q I rx ry W r1 r2 q => ?_, gEqI_mono hmono⟩
  cases dx with
  | ref n =>
    cases dy with
    | ref m =>
      replace q : gEqI C ds (.ref n) (.ref m) M (kont X.K al F Gg Q) := q
      unfold gEqI at q
      dsimp only at q
      split at q
      · next C' fs em =>
        split at q
        · next C'' gs em2 =>
          obtain ⟨rfl, rfl, q2⟩ := q
          obtain ⟨p, dx, vs, rfl, _, h2, h3, h4⟩ := cell_ins W r1 em
          obtain ⟨p', dx', vs', rfl, _, h2', h3', h4'⟩ := cell_ins W r2 em2
          obtain rfl : v = Value.ref p := rx
          obtain rfl : u = Value.ref p' := ry
          obtain ⟨mA, O, _, _, _, _⟩ := ins_get I.hok h2
          obtain ⟨od, J, _⟩ := O.look
          obtain ⟨mA', O', _, _, _, _⟩ := ins_get I.hok h2'
          obtain ⟨od', J', _⟩ := O'.look
          obtain ⟨mF, hF⟩ := I.fr
          show wpAny (model X.prog X.w) X.A (richCompare .Eq (.ref p) (.ref p')) (EP X pins σ Q) X.xe s
          refine PySem.W.cmp_K (op := .Eq) (tb := .ref _) hr.units0 hF I.ok.mod.kin J J'.type (by simp [PySem.W.notFirst]) hm.at_ hm.fn (own_runN (vs := [V.ref p, V.ref p']) (us := [Value.ref p, Value.ref p']) G hgd (hr.mono (by omega)) hb I (.cons (show L2.RelV (V.ref p) (Value.ref p) from rfl) (.cons (show L2.RelV (V.ref p') (Value.ref p') from rfl) .nil)) (Q := fun v H1 => ∃ b : Bool, v = .bl b ∧ Q (.bl b) H1) ⟨[.ref n, .ref m], M, al, F, Gg, W, .cons r1 (.cons r2 .nil), hmono _ _ _ _ _ _ (fun v M2 ⟨b, e1, q3⟩ => ?_) (fun _ _ _ z => z.elim) q2⟩ fun u s' ⟨v, H', I', rv, b, e1, q3⟩ => ?_)
          · subst e1
            cases (show u = Value.bool b from rv)
            exact ⟨.bl b, H', I', rfl, q3⟩
          · subst e1
            intro al' F' H' v e' W' r'
            cases r'
            exact ⟨b, rfl, q3 al' F' H' _ e' W' (.bl b)⟩
        · exact q.elim
      · exact q.elim
    | _ => exact q.elim
  | _ => exact q.elim
end
/-! ### e or f, by truth -/
section
variable {X : Cx} {a b : Expr} {fa fb : DTE} {rest : List Expr} {pos : Pos}
@[reducible] def dOrT (fa fb : DTE) : DTE := fun ρ M Q => fa ρ M fun d M1 => gTru d M1 fun b M2 => if b = true then Q d M2 else fb ρ M2 Q
theorem d_orT (h : DE X a fa) (g : DE X (.BoolOp .Or (b :: rest) pos) fb) : DE X (.BoolOp .Or (a :: b :: rest) pos) (dOrT fa fb) := by
  refine ⟨PE.of (pe_orT h.pe g.pe) fun σ H Q ⟨ρ, M, al, F, G, W, es, q⟩ => ?_, fun ρ M Q Q' w q => h.mono _ _ _ _ (fun d M1 q1 => gTru_mono _ _ _ _ (fun b M2 q2 => ?_) q1) q⟩
  · refine h.seq W es q fun d M1 al1 F1 H1 v q1 e1 W1 r1 s1 => ?_
    refine gTru_ok (Q := fun k H2 => if k = true then Q v H2 else Lift X fb σ H2 Q) W1 r1 (gTru_mono _ _ _ _ (fun b M2 q2 al' F' H' e' W' => ?_) q1)
    cases b with
    | true => exact q2 al' F' H' v (e1.trans e') W' (r1.ext e')
    | false => exact ⟨ρ, M2, al', F', G, W', s1.ext e', g.mono _ _ _ _ (fun d M3 k => k.ext (e1.trans e')) q2⟩
  · cases b with
    | true => exact w _ _ q2
    | false => exact g.mono _ _ _ _ w q2
end
/-- looked at by a Bool (DLHH) -/
def kcB (C C' : Str) (b : Bool) (K : PySem.W.Frag) : Bool := decide (PySem.W.kitOne K (.ref (He.ga K C)) (.ref (He.ga K C')) = some b)
theorem kcB_ok {K : PySem.W.Frag} {C C' : Str} {b : Bool} (c : kcB C C' b K = true) : KC K (He.ga K C) (He.ga K C') b := by unfold KC; exact of_decide_eq_true c
end DL

set_option maxHeartbeats 1000000
/-! DLT5: texts read back, plainly: numbers, two numbers with a sign between them, rows, pushes, fields. -/
namespace DL
open PySem PySem.Spec PyProof.Rows L2 MT
/-! ### texts of rows and pushes, plainly -/
theorem tl_join (sep x : Str) : ∀ ts : List Str, TL.tl (Str.join sep (x :: ts)) = TL.tl x ++ ts.flatMap fun t => TL.tl sep ++ TL.tl t
  | [] => by rw [List.flatMap_nil, List.append_nil]; rfl
  | y :: r => by
    have e : Str.join sep (x :: y :: r) = x ++ sep ++ Str.join sep (y :: r) := rfl
    rw [e, TL.tl_append, TL.tl_append, tl_join sep y r, List.flatMap_cons]
    simp only [List.append_assoc]
def digs (n : Nat) : List Nat := TL.tl (numT (n : Int))
theorem digs_eq (n : Nat) : digs n = (Nat.toDigits 10 n).map Char.toNat := PySem.W.KIN.signs_num n
def Dig (c : Nat) : Prop := 48 ≤ c ∧ c ≤ 57
theorem digs_all (n : Nat) : ∀ c ∈ digs n, Dig c := fun c hc => by
  rw [digs_eq] at hc
  obtain ⟨ch, hch, e⟩ := List.mem_map.mp hc
  have r := PyProof.Rows.digit_range (Nat.isDigit_of_mem_toDigits (by decide) (by decide) hch)
  rw [← e]
  exact r
theorem digs_inj {m n : Nat} (h : digs m = digs n) : m = n := by
  rw [digs_eq, digs_eq] at h
  rw [← PySem.W.KIN.val_back m, h, PySem.W.KIN.val_back]
theorem digs_ne (n : Nat) : digs n ≠ [] := by
  rw [digs_eq]
  intro e
  have h := PySem.toDigits_len_ge 10 n
  rw [List.map_eq_nil_iff.mp e] at h
  exact absurd h (by decide)
def NoDig (l : List Nat) : Prop := ∀ c r, l = c :: r → ¬ Dig c
theorem split_digs : ∀ {u v r q : List Nat}, (∀ c ∈ u, Dig c) → (∀ c ∈ v, Dig c) → NoDig r → NoDig q → u ++ r = v ++ q → u = v ∧ r = q
  | [], [], _, _, _, _, _, _, h => ⟨rfl, h⟩
  | [], c :: v, r, q, _, h2, h3, _, h => absurd (h2 c (List.mem_cons_self)) (h3 c _ h)
  | c :: u, [], r, q, h1, _, _, h4, h => absurd (h1 c (List.mem_cons_self)) (h4 c _ h.symm)
  | c :: u, d :: v, r, q, h1, h2, h3, h4, h => by
    rw [List.cons_append, List.cons_append] at h
    obtain ⟨e1, e2⟩ := List.cons.inj h
    obtain ⟨e3, e4⟩ := split_digs (fun x hx => h1 x (List.mem_cons_of_mem _ hx)) (fun x hx => h2 x (List.mem_cons_of_mem _ hx)) h3 h4 e2
    exact ⟨by rw [e1, e3], e4⟩
def wordL (s : Nat) (p : Nat × Nat) : List Nat := digs p.1 ++ s :: digs p.2
theorem word_split {s : Nat} (hs : ¬ Dig s) {p q : Nat × Nat} {r z : List Nat} (h1 : NoDig r) (h2 : NoDig z) (h : wordL s p ++ r = wordL s q ++ z) : p = q ∧ r = z := by
  unfold wordL at h
  rw [List.append_assoc, List.append_assoc, List.cons_append, List.cons_append] at h
  obtain ⟨e1, e2⟩ := split_digs (digs_all _) (digs_all _) (fun c r e => by cases e; exact hs) (fun c r e => by cases e; exact hs) h
  obtain ⟨e3, e4⟩ := split_digs (digs_all _) (digs_all _) h1 h2 (List.cons.inj e2).2
  exact ⟨Prod.ext (digs_inj e1) (digs_inj e3), e4⟩
def wordsL (s : Nat) (ps : List (Nat × Nat)) : List Nat := ps.flatMap fun p => 32 :: wordL s p
theorem words_nodig {s : Nat} {ps : List (Nat × Nat)} {r : List Nat} (h : NoDig r) : NoDig (wordsL s ps ++ r) := by
  cases ps with
  | nil => exact h
  | cons p ps =>
    intro c z e
    unfold wordsL at e
    rw [List.flatMap_cons, List.cons_append, List.cons_append] at e
    obtain ⟨e1, _⟩ := List.cons.inj e
    subst e1
    unfold Dig
    omega
theorem words_inj {s : Nat} (hs : ¬ Dig s) : ∀ {ps qs : List (Nat × Nat)} {r z : List Nat}, NoDig r → NoDig z → (∀ c x, r = c :: x → c ≠ 32) → (∀ c x, z = c :: x → c ≠ 32) → wordsL s ps ++ r = wordsL s qs ++ z → ps = qs ∧ r = z
  | [], [], _, _, _, _, _, _, h => ⟨rfl, h⟩
  | [], q :: qs, r, z, _, _, h3, _, h => absurd rfl (h3 32 (wordL s q ++ (wordsL s qs ++ z)) (by rw [show r = wordsL s [] ++ r from rfl, h]; unfold wordsL; rw [List.flatMap_cons]; simp))
  | p :: ps, [], r, z, _, _, _, h4, h => absurd rfl (h4 32 (wordL s p ++ (wordsL s ps ++ r)) (by rw [show z = wordsL s [] ++ z from rfl, ← h]; unfold wordsL; rw [List.flatMap_cons]; simp))
  | p :: ps, q :: qs, r, z, h1, h2, h3, h4, h => by
    have h' : 32 :: (wordL s p ++ (wordsL s ps ++ r)) = 32 :: (wordL s q ++ (wordsL s qs ++ z)) := by
      have e : ∀ (p : Nat × Nat) (ps : List (Nat × Nat)) (r : List Nat), wordsL s (p :: ps) ++ r = 32 :: (wordL s p ++ (wordsL s ps ++ r)) := fun p ps r => by unfold wordsL; rw [List.flatMap_cons]; simp
      rw [← e, ← e, h]
    obtain ⟨e1, e2⟩ := word_split hs (words_nodig h1) (words_nodig h2) (List.cons.inj h').2
    obtain ⟨e3, e4⟩ := words_inj hs h1 h2 h3 h4 e2
    exact ⟨by rw [e1, e3], e4⟩
def rowsL : List (Nat × Nat) → List Nat
  | [] => []
  | p :: r => wordL 58 p ++ wordsL 58 r
def fieldL (t ps : List (Nat × Nat)) : List Nat := rowsL t ++ 59 :: wordsL 64 ps
theorem word_head (s : Nat) (p : Nat × Nat) (r : List Nat) : ∃ c x, wordL s p ++ r = c :: x ∧ Dig c := by
  unfold wordL
  have h := digs_ne p.1
  have ha := digs_all p.1
  cases hd : digs p.1 with
  | nil => exact absurd hd h
  | cons c x => exact ⟨c, _, rfl, ha c (by rw [hd]; exact List.mem_cons_self)⟩
theorem field_inj {t t' ps ps' : List (Nat × Nat)} (h : fieldL t ps = fieldL t' ps') : t = t' ∧ ps = ps' := by
  have n0 : NoDig [] := fun _ _ e => nomatch e
  have n59 : ∀ x, NoDig (59 :: x) := fun x c r e => by cases e; unfold Dig; omega
  have z0 : ∀ (c : Nat) (x : List Nat), ([] : List Nat) = c :: x → c ≠ 32 := fun _ _ e => nomatch e
  have z59 : ∀ (y : List Nat) (c : Nat) (x : List Nat), 59 :: y = c :: x → c ≠ 32 := fun y c x e => by cases e; decide
  have hps : ∀ {ps ps' : List (Nat × Nat)}, 59 :: wordsL 64 ps = 59 :: wordsL 64 ps' → ps = ps' := fun e => by
    refine (words_inj (s := 64) (by unfold Dig; omega) (r := []) (z := []) n0 n0 z0 z0 ?_).1
    rw [List.append_nil, List.append_nil]
    exact (List.cons.inj e).2
  unfold fieldL at h
  cases t with
  | nil =>
    cases t' with
    | nil => exact ⟨rfl, hps h⟩
    | cons q r =>
      obtain ⟨c, x, e, hc⟩ := word_head 58 q (wordsL 58 r ++ 59 :: wordsL 64 ps')
      have h' : 59 :: wordsL 64 ps = c :: x := by rw [← e, ← List.append_assoc]; exact h
      exact absurd hc (n59 _ _ _ h')
  | cons p r =>
    cases t' with
    | nil =>
      obtain ⟨c, x, e, hc⟩ := word_head 58 p (wordsL 58 r ++ 59 :: wordsL 64 ps)
      have h' : 59 :: wordsL 64 ps' = c :: x := by rw [← e, ← List.append_assoc]; exact h.symm
      exact absurd hc (n59 _ _ _ h')
    | cons q r' =>
      unfold rowsL at h
      rw [List.append_assoc, List.append_assoc] at h
      obtain ⟨e1, e2⟩ := word_split (by unfold Dig; omega) (words_nodig (n59 _)) (words_nodig (n59 _)) h
      obtain ⟨e3, e4⟩ := words_inj (by unfold Dig; omega) (n59 _) (n59 _) (z59 _) (z59 _) e2
      exact ⟨by rw [e1, e3], hps e4⟩
/-! ### the texts -/
def rowT (p : Nat × Nat) : Str := numT (p.1 : Int) ++ ":" ++ numT (p.2 : Int)
def pushT (p : Nat × Int) : Str := numT (p.1 : Int) ++ "@" ++ numT p.2
def rowsT (t : Tr) : Str := Str.join " " (t.map rowT)
def textS (s : FS) : Str := Str.join " " ((rowsT s.1 ++ ";") :: s.2.map pushT)
theorem empty_app (x : Str) : Str.empty ++ x = x := TL.ext_tl (by rw [TL.tl_append]; rfl)
theorem tl_row (p : Nat × Nat) : TL.tl (rowT p) = wordL 58 p := by
  unfold rowT wordL digs
  rw [TL.tl_append, TL.tl_append, show TL.tl ":" = [58] by decide +kernel, List.append_assoc]
  rfl
theorem tl_push {p : Nat × Int} (h : 0 ≤ p.2) : TL.tl (pushT p) = wordL 64 (p.1, p.2.toNat) := by
  unfold pushT wordL digs
  rw [TL.tl_append, TL.tl_append, show TL.tl "@" = [64] by decide +kernel, List.append_assoc]
  show _ = TL.tl (numT (p.1 : Int)) ++ 64 :: TL.tl (numT ((p.2.toNat : Nat) : Int))
  rw [Int.toNat_of_nonneg h]
  rfl
theorem tl_rows (t : Tr) : TL.tl (rowsT t) = rowsL t := by
  cases t with
  | nil => rfl
  | cons p r =>
    show TL.tl (Str.join " " (rowT p :: r.map rowT)) = _
    rw [tl_join, tl_row, show TL.tl " " = [32] by decide +kernel]
    unfold rowsL wordsL
    rw [List.flatMap_map]
    congr 1
    congr 1
    funext q
    rw [tl_row]
    rfl
theorem tl_text {s : FS} (ho : StOk s) : TL.tl (textS s) = fieldL s.1 (s.2.map fun p => (p.1, p.2.toNat)) := by
  unfold textS fieldL
  rw [tl_join, TL.tl_append, tl_rows, show TL.tl ";" = [59] by decide +kernel, show TL.tl " " = [32] by decide +kernel, List.append_assoc]
  congr 1
  rw [List.cons_append, List.nil_append]
  congr 1
  unfold wordsL
  have hp := ho.ps
  generalize s.2 = ps at hp ⊢
  induction ps with
  | nil => rfl
  | cons p ps ih =>
    rw [List.map_cons, List.map_cons, List.flatMap_cons, List.flatMap_cons, ih fun q hq => hp q (List.mem_cons_of_mem _ hq), tl_push (hp p List.mem_cons_self).2.1]
    rfl
theorem text_inj {s u : FS} (h1 : StOk s) (h2 : StOk u) (h : textS s = textS u) : s = u := by
  have e := congrArg TL.tl h
  rw [tl_text h1, tl_text h2] at e
  obtain ⟨e1, e2⟩ := field_inj e
  refine Prod.ext e1 ?_
  have p1 := h1.ps
  have p2 := h2.ps
  generalize s.2 = ps at e2 p1
  generalize u.2 = qs at e2 p2
  clear h e e1
  induction ps generalizing qs with
  | nil =>
    cases qs with
    | nil => rfl
    | cons q qs => cases e2
  | cons p ps ih =>
    cases qs with
    | nil => cases e2
    | cons q qs =>
      rw [List.map_cons, List.map_cons] at e2
      obtain ⟨a, b⟩ := List.cons.inj e2
      have ha := Prod.mk.inj a
      have b1 := (p1 p List.mem_cons_self).2.1
      have b2 := (p2 q List.mem_cons_self).2.1
      rw [ih (fun x hx => p1 x (List.mem_cons_of_mem _ hx)) qs b (fun x hx => p2 x (List.mem_cons_of_mem _ hx)), show p = q from Prod.ext ha.1 (by have := ha.2; omega)]
/-! lengths -/
theorem join_lenE (sep x : Str) (ts : List Str) {n : Nat} (hx : x.length ≤ n) (ht : ∀ t ∈ ts, t.length ≤ n) : (Str.join sep (x :: ts)).length ≤ n + ts.length * (sep.length + n) := by
  rw [TL.len_tl, tl_join, List.length_append, ← TL.len_tl]
  refine Nat.add_le_add hx ?_
  clear hx
  induction ts with
  | nil => simp
  | cons t ts ih =>
    rw [List.flatMap_cons, List.length_append, List.length_append, ← TL.len_tl, ← TL.len_tl, List.length_cons, Nat.add_mul, Nat.one_mul]
    have := ht t List.mem_cons_self
    have := ih fun u hu => ht u (List.mem_cons_of_mem _ hu)
    omega
theorem sum_le {α : Type} (f : α → Nat) {n : Nat} : ∀ {l : List α}, (∀ x ∈ l, f x ≤ n) → (l.map f).sum ≤ l.length * n
  | [], _ => Nat.zero_le _
  | x :: l, h => by
    rw [List.map_cons, List.sum_cons, List.length_cons, Nat.add_mul, Nat.one_mul]
    have := h x List.mem_cons_self
    have := sum_le f fun y hy => h y (List.mem_cons_of_mem _ hy)
    omega
theorem num_bnd {i : Int} (h0 : 0 ≤ i) (h1 : i ≤ 1000000000) : i.natAbs < 10 ^ 12 := by omega
theorem row_len {p : Nat × Nat} (h1 : p.1 ≤ 1000000000) (h2 : p.2 ≤ 1000000000) : (rowT p).length ≤ 27 := by
  unfold rowT
  rw [len_app, len_app]
  have := (numT_ok (num_bnd (i := (p.1 : Int)) (by omega) (by omega))).2
  have := (numT_ok (num_bnd (i := (p.2 : Int)) (by omega) (by omega))).2
  have : Str.length (":" : Str) = 1 := by decide +kernel
  omega
theorem push_len {p : Nat × Int} (h1 : p.1 ≤ 1000000000) (h0 : 0 ≤ p.2) (h2 : p.2 ≤ 1000000000) : (pushT p).length ≤ 27 := by
  unfold pushT
  rw [len_app, len_app]
  have := (numT_ok (num_bnd (i := (p.1 : Int)) (by omega) (by omega))).2
  have := (numT_ok (num_bnd h0 h2)).2
  have : Str.length ("@" : Str) = 1 := by decide +kernel
  omega
theorem rows_len {t : Tr} (ht : TreeOk t) : (rowsT t).length ≤ 400 := by
  have hl := ht.1
  have hr : ∀ x ∈ t.map rowT, x.length ≤ 27 := fun x hx => by
    obtain ⟨p, hp, rfl⟩ := List.mem_map.mp hx
    obtain ⟨k, hk⟩ := List.getElem?_of_mem hp
    have h := ht.2 k p hk
    have : k < t.length := (List.getElem?_eq_some_iff.mp hk).1
    exact row_len (by omega) (by omega)
  unfold rowsT
  cases t with
  | nil => decide +kernel
  | cons p r =>
    rw [List.map_cons] at hr ⊢
    have := join_lenE " " (rowT p) (r.map rowT) (n := 27) (hr _ List.mem_cons_self) fun x hx => hr x (List.mem_cons_of_mem _ hx)
    rw [List.length_map, show Str.length (" " : Str) = 1 by decide +kernel] at this
    rw [List.length_cons] at hl
    omega
theorem text_len {s : FS} (ho : StOk s) : (textS s).length ≤ 10000 := by
  have hl := ho.len
  unfold textS
  have h1 := rows_len ho.tr
  have h2 : (rowsT s.1 ++ ";").length ≤ 401 := by
    rw [len_app, show Str.length (";" : Str) = 1 by decide +kernel]
    omega
  have := join_lenE " " (rowsT s.1 ++ ";") (s.2.map pushT) (n := 401) h2 fun x hx => by
    obtain ⟨p, hp, rfl⟩ := List.mem_map.mp hx
    have h := ho.ps p hp
    have := ho.tr.1
    have h3 : p.1 ≤ s.1.length := h.1
    exact Nat.le_trans (push_len (by omega) h.2.1 h.2.2) (by decide)
  rw [List.length_map, show Str.length (" " : Str) = 1 by decide +kernel] at this
  omega
/-! ### field_text -/
theorem size_line {n : Nat} (h : n ≤ 1000) : n ≤ sizeLine := by rw [sizeLine_eq]; omega
theorem fmt_ok {a b : Int} {s : Str} (ha : a.natAbs < 10 ^ 12) (hb : b.natAbs < 10 ^ 12) (hs : s.length = 1) : (Str.empty ++ Str.ofString (toString a)).length ≤ sizeLine ∧ (Str.empty ++ Str.ofString (toString a) ++ s).length ≤ sizeLine ∧ (Str.empty ++ Str.ofString (toString a) ++ s ++ Str.ofString (toString b)).length ≤ sizeLine := by
  have h1 := (numT_ok ha).2
  have h2 := (numT_ok hb).2
  unfold numT at h1 h2
  rw [empty_app, len_app, len_app, len_app]
  exact ⟨size_line (by omega), size_line (by omega), size_line (by omega)⟩
theorem c1 : Str.length (":" : Str) = 1 := by decide +kernel
theorem c2 : Str.length ("@" : Str) = 1 := by decide +kernel
theorem c3 : Str.length (" " : Str) = 1 := by decide +kernel
theorem row_bnd {t : Tr} (ht : TreeOk t) {p : Nat × Nat} (hp : p ∈ t) : p.1 ≤ 1000000000 ∧ p.2 ≤ 1000000000 := by
  obtain ⟨k, hk⟩ := List.getElem?_of_mem hp
  have h := ht.2 k p hk
  have h1 := ht.1
  have : k < t.length := (List.getElem?_eq_some_iff.mp hk).1
  exact ⟨by omega, by omega⟩
def isFig (c : Nat) : Bool := decide (48 ≤ c) && decide (c ≤ 57)
theorem isFig_iff {c : Nat} : isFig c = true ↔ 48 ≤ c ∧ c ≤ 57 := by unfold isFig; simp
/-- the number of at most ten figures, without a needless zero ahead -/
def numQ (l : List Nat) : Option Nat := if (1 ≤ l.length ∧ l.length ≤ 10) ∧ l.all isFig = true ∧ ¬ (l.head? = some 48 ∧ l ≠ [48]) then some (NumText.digitsVal l) else none
@[reducible] def optN : Option Nat → D
  | none => .non
  | some n => natD n
structure NumQ (l : List Nat) (n : Nat) : Prop where
  l1 : 1 ≤ l.length
  l2 : l.length ≤ 10
  fig : ∀ c ∈ l, 48 ≤ c ∧ c ≤ 57
  hd : ¬ (l.head? = some 48 ∧ l ≠ [48])
  val : NumText.digitsVal l = n
theorem numQ_some {l : List Nat} {n : Nat} : numQ l = some n ↔ NumQ l n := by
  unfold numQ
  constructor
  · intro h
    split at h
    · next c =>
      obtain ⟨⟨a, b⟩, e, f⟩ := c
      exact ⟨a, b, fun c hc => isFig_iff.mp (List.all_eq_true.mp e c hc), f, Option.some.inj h⟩
    · cases h
  · intro h
    rw [if_pos ⟨⟨h.l1, h.l2⟩, List.all_eq_true.mpr fun c hc => isFig_iff.mpr (h.fig c hc), h.hd⟩, h.val]
theorem numL_back : ∀ (m : Nat) (l : List Nat), l.length = m → l ≠ [] → (∀ c ∈ l, 48 ≤ c ∧ c ≤ 57) → ¬ (l.head? = some 48 ∧ l ≠ [48]) → TL.numL (NumText.digitsVal l) = l := by
  intro m
  induction m with
  | zero => intro l h1 h2; exact absurd (List.length_eq_zero_iff.mp h1) h2
  | succ m ih =>
    intro l h1 h2 h3 h4
    rcases List.eq_nil_or_concat l with h | ⟨r, c, h⟩
    · exact absurd h h2
    rw [List.concat_eq_append] at h
    subst h
    have hc := h3 c (by simp)
    rw [NumText.digitsVal_snoc]
    by_cases hr : r = []
    · subst hr
      have e : NumText.digitsVal [] = 0 := rfl
      rw [e, TL.numL_lt (by omega)]
      show [48 + (0 * 10 + (c - 48))] = [c]
      congr 1
      omega
    · have hlr : r.length = m := by rw [List.length_append, List.length_singleton] at h1; omega
      have hd : (r ++ [c]).head? = r.head? := by
        cases r with
        | nil => exact absurd rfl hr
        | cons x y => rfl
      have h48 : r.head? ≠ some 48 := fun e => h4 ⟨by rw [hd, e], fun z => hr (by
        cases r with
        | nil => rfl
        | cons x y => simp at z)⟩
      have i := ih r hlr hr (fun x hx => h3 x (List.mem_append_left _ hx)) (fun z => h48 z.1)
      have hv : 1 ≤ NumText.digitsVal r := by
        rcases Nat.eq_zero_or_pos (NumText.digitsVal r) with z | z
        · rw [z] at i
          rw [show TL.numL 0 = [48] from TL.numL_lt (by omega)] at i
          rw [← i] at h48
          exact absurd rfl h48
        · exact z
      have h10 : 10 ≤ NumText.digitsVal r * 10 + (c - 48) := by omega
      rw [TL.numL_step h10, show (NumText.digitsVal r * 10 + (c - 48)) / 10 = NumText.digitsVal r by omega, show (NumText.digitsVal r * 10 + (c - 48)) % 10 = c - 48 by omega, i]
      congr 2
      omega
theorem NumQ.back {l : List Nat} {n : Nat} (h : NumQ l n) : TL.numL n = l := by
  rw [← h.val]
  exact numL_back _ l rfl (fun z => by have := h.l1; rw [z] at this; simp at this) h.fig h.hd
theorem numL_head {n : Nat} (hn : n ≠ 0) : (TL.numL n).head? ≠ some 48 := by
  induction n using Nat.strongRecOn with
  | _ n ih =>
    by_cases h : n < 10
    · rw [TL.numL_lt h]
      intro e
      have := Option.some.inj e
      omega
    · rw [TL.numL_step (by omega)]
      have i := ih (n / 10) (by omega) (by omega)
      cases e : TL.numL (n / 10) with
      | nil => exact absurd e (TL.numL_ne _)
      | cons a r => rw [e] at i; exact i
theorem numQ_num {n : Nat} (h : n < 10 ^ 10) : numQ (TL.numL n) = some n := by
  refine numQ_some.mpr ⟨?_, TL.numL_len (by decide) h, fun c hc => TL.numL_digits n c hc, ?_, TL.numL_val n⟩
  · have := TL.numL_ne n
    have := List.length_pos_iff.mpr this
    omega
  · rintro ⟨h1, h2⟩
    by_cases hn : n = 0
    · subst hn
      exact h2 (TL.numL_lt (by omega))
    · exact numL_head hn h1
def numW (x : Str) : Option Nat := numQ (TL.tl x)
theorem numW_num {n : Nat} (h : n < 10 ^ 10) : numW (numT (n : Int)) = some n := by
  unfold numW
  rw [show TL.tl (numT (n : Int)) = TL.numL n from TL.tl_num n]
  exact numQ_num h
theorem numW_back {x : Str} {n : Nat} (h : numW x = some n) : x = numT (n : Int) := by
  refine TL.ext_tl ?_
  rw [show TL.tl (numT (n : Int)) = TL.numL n from TL.tl_num n]
  exact (numQ_some.mp h).back.symm
theorem numW_lt {x : Str} {n : Nat} (h : numW x = some n) : x.length ≤ 10 := by
  rw [TL.len_tl]
  exact (numQ_some.mp h).l2
/-- the two numbers of a word with a sign between them -/
def twoL (s : Nat) (l : List Nat) : Option (Nat × Nat) := match TL.par [s] [] l with
  | none => none
  | some (a, b) => match numQ a, numQ b with
    | some m, some n => some (m, n)
    | _, _ => none
def twoW (s : Nat) (x : Str) : Option (Nat × Nat) := twoL s (TL.tl x)
@[reducible] def twoD : Option (Nat × Nat) → D
  | none => .non
  | some p => .tup [natD p.1, natD p.2]
theorem par_sum {s : Nat} : ∀ {l acc a b : List Nat}, TL.par [s] acc l = some (a, b) → ∃ p, a = acc ++ p ∧ l = p ++ s :: b ∧ s ∉ p
  | [], acc, a, b, h => by cases h
  | c :: r, acc, a, b, h => by
    by_cases hc : c = s
    · subst hc
      rw [TL.par_hit (S := [c]) (show TL.pre [c] (c :: r) = true from TL.pre_self [c] r)] at h
      cases h
      exact ⟨[], by simp, by simp, by simp⟩
    · rw [TL.par_miss (TL.pre_of_head [] r hc)] at h
      obtain ⟨p, e1, e2, e3⟩ := par_sum h
      exact ⟨c :: p, by rw [e1]; simp, by rw [e2]; simp, fun z => by
        rcases List.mem_cons.mp z with z | z
        · exact hc z.symm
        · exact e3 z⟩
theorem twoL_some {s : Nat} {l : List Nat} {p : Nat × Nat} (h : twoL s l = some p) : l = TL.numL p.1 ++ s :: TL.numL p.2 := by
  unfold twoL at h
  cases hp : TL.par [s] [] l with
  | none => rw [hp] at h; cases h
  | some q =>
    obtain ⟨a, b⟩ := q
    rw [hp] at h
    dsimp only at h
    obtain ⟨a', e1, e2, _⟩ := par_sum hp
    rw [List.nil_append] at e1
    subst e1
    cases ha : numQ a with
    | none => rw [ha] at h; cases h
    | some m =>
      cases hb : numQ b with
      | none => rw [ha, hb] at h; cases h
      | some n =>
        rw [ha, hb] at h
        cases h
        rw [e2, (numQ_some.mp ha).back, (numQ_some.mp hb).back]
theorem twoL_num {s m n : Nat} (hs : s < 48 ∨ 57 < s) (hm : m < 10 ^ 10) (hn : n < 10 ^ 10) : twoL s (TL.numL m ++ s :: TL.numL n) = some (m, n) := by
  unfold twoL
  rw [show TL.numL m ++ s :: TL.numL n = TL.numL m ++ ([s] ++ TL.numL n) from rfl, TL.par_part1 (TL.numL_free hs)]
  dsimp only
  rw [List.nil_append, numQ_num hm, numQ_num hn]
def splW (x : Str) : List Str := Txt.split x " "
def endB (w : Str) : Bool := Txt.endswith w ";"
def lastOff (w : Str) : Str := cutS w none (some (-1))
def rowsP : Nat → List Str → Tr ⊕ Nat
  | _, [] => .inl []
  | k, w :: ws => match twoW 58 w with
    | none => .inr k
    | some p => if p.1 ≤ k ∧ (1 ≤ p.2 ∧ p.2 ≤ 1000000) ∧ k ≠ 11 then (match rowsP (k + 1) ws with | .inl t => .inl (p :: t) | .inr i => .inr i) else .inr k
def pushP (n : Nat) : Nat → List Str → Ps ⊕ Nat
  | _, [] => .inl []
  | k, w :: ws => match twoW 64 w with
    | none => .inr k
    | some p => if p.1 ≤ n ∧ p.2 ≤ 1000000000 ∧ k ≠ 20 then (match pushP n (k + 1) ws with | .inl t => .inl ((p.1, (p.2 : Int)) :: t) | .inr i => .inr i) else .inr k
def endsP (ws : List Str) : List Nat := ws.zipIdx.filterMap fun q => if endB q.1 = true then some q.2 else none
def treeP (ws : List Str) : Tr ⊕ Nat := if ws = [("" : Str)] then .inl [] else rowsP 0 ws
def fieldP (x : Str) : FS ⊕ Nat := match endsP (splW x) with
  | [] => .inr (match rowsP 0 (splW x ++ [("" : Str)]) with | .inr i => i | .inl _ => 0)
  | e :: _ => match treeP ((splW x).take e ++ [lastOff ((splW x).getD e "")]) with
    | .inr i => .inr i
    | .inl t => match pushP t.length 0 ((splW x).drop (e + 1)) with
      | .inl ps => .inl (t, ps)
      | .inr k => .inr (e + 1 + k)
theorem tl_rowT (p : Nat × Nat) : TL.tl (rowT p) = TL.numL p.1 ++ 58 :: TL.numL p.2 := by
  rw [tl_row]
  unfold wordL digs
  rw [show TL.tl (numT (p.1 : Int)) = TL.numL p.1 from TL.tl_num _, show TL.tl (numT (p.2 : Int)) = TL.numL p.2 from TL.tl_num _]
theorem tl_pushT {p : Nat × Int} (h : 0 ≤ p.2) : TL.tl (pushT p) = TL.numL p.1 ++ 64 :: TL.numL p.2.toNat := by
  rw [tl_push h]
  unfold wordL digs
  rw [show TL.tl (numT (p.1 : Int)) = TL.numL p.1 from TL.tl_num _, show TL.tl (numT (p.2.toNat : Int)) = TL.numL p.2.toNat from TL.tl_num _]
theorem two_row {w : Str} {p : Nat × Nat} (h : twoW 58 w = some p) : w = rowT p := TL.ext_tl (by rw [tl_rowT]; exact twoL_some h)
theorem two_push {w : Str} {p : Nat × Nat} (h : twoW 64 w = some p) : w = pushT (p.1, (p.2 : Int)) := TL.ext_tl (by rw [tl_pushT (by show (0 : Int) ≤ (p.2 : Int); omega)]; exact twoL_some h)
theorem row_two {p : Nat × Nat} (h1 : p.1 < 10 ^ 10) (h2 : p.2 < 10 ^ 10) : twoW 58 (rowT p) = some p := by
  unfold twoW
  rw [tl_rowT]
  exact twoL_num (.inr (by omega)) h1 h2
theorem push_two {p : Nat × Int} (h0 : 0 ≤ p.2) (h1 : p.1 < 10 ^ 10) (h2 : p.2 < 10 ^ 10) : twoW 64 (pushT p) = some (p.1, p.2.toNat) := by
  unfold twoW
  rw [tl_pushT h0]
  exact twoL_num (.inr (by omega)) h1 (by omega)
theorem rowsP_back : ∀ (ws : List Str) (k : Nat) (t : Tr), rowsP k ws = .inl t → ws = t.map rowT ∧ ∀ (j : Nat) (p : Nat × Nat), t[j]? = some p → p.1 ≤ k + j ∧ (1 ≤ p.2 ∧ p.2 ≤ 1000000) ∧ k + j ≠ 11
  | [], k, t, h => by cases h; exact ⟨rfl, fun j p e => by simp at e⟩
  | w :: ws, k, t, h => by
    unfold rowsP at h
    cases hw : twoW 58 w with
    | none => rw [hw] at h; cases h
    | some p =>
      rw [hw] at h
      dsimp only at h
      split at h
      · next c =>
        cases hr : rowsP (k + 1) ws with
        | inr i => rw [hr] at h; cases h
        | inl r =>
          rw [hr] at h
          cases h
          obtain ⟨e, f⟩ := rowsP_back ws (k + 1) r hr
          refine ⟨by rw [List.map_cons, ← two_row hw, ← e], fun j q ej => ?_⟩
          cases j with
          | zero => cases ej; exact c
          | succ j =>
            have := f j q ej
            rw [show k + (j + 1) = k + 1 + j by omega]
            exact this
      · cases h
theorem rows_ok {ws : List Str} {t : Tr} (h : rowsP 0 ws = .inl t) : TreeOk t := by
  have hb := (rowsP_back ws 0 t h).2
  refine ⟨?_, fun k p e => ?_⟩
  · refine Nat.le_of_not_lt fun hl => ?_
    have := (hb 11 t[11] (List.getElem?_eq_getElem hl)).2.2
    exact this rfl
  · have := hb k p e
    exact ⟨by omega, this.2.1⟩
theorem rowsP_of : ∀ (t : Tr) (k : Nat), (∀ (j : Nat) (p : Nat × Nat), t[j]? = some p → p.1 ≤ k + j ∧ (1 ≤ p.2 ∧ p.2 ≤ 1000000)) → k + t.length ≤ 11 → rowsP k (t.map rowT) = .inl t
  | [], k, _, _ => rfl
  | p :: t, k, h, hl => by
    have h0 := h 0 p rfl
    rw [List.length_cons] at hl
    rw [List.map_cons]
    unfold rowsP
    rw [row_two (by omega) (by omega)]
    dsimp only
    rw [if_pos ⟨by omega, h0.2, by omega⟩, rowsP_of t (k + 1) (fun j q e => by have := h (j + 1) q e; exact ⟨by omega, this.2⟩) (by omega)]
theorem pushP_back {n : Nat} : ∀ (ws : List Str) (k : Nat) (ps : Ps), pushP n k ws = .inl ps → ws = ps.map pushT ∧ (∀ p ∈ ps, p.1 ≤ n ∧ 0 ≤ p.2 ∧ p.2 ≤ 1000000000) ∧ (k ≤ 20 → k + ps.length ≤ 20)
  | [], k, t, h => by cases h; exact ⟨rfl, fun p hp => (nomatch hp), fun h => h⟩
  | w :: ws, k, t, h => by
    unfold pushP at h
    cases hw : twoW 64 w with
    | none => rw [hw] at h; cases h
    | some p =>
      rw [hw] at h
      dsimp only at h
      split at h
      · next c =>
        cases hr : pushP n (k + 1) ws with
        | inr i => rw [hr] at h; cases h
        | inl r =>
          rw [hr] at h
          cases h
          obtain ⟨e, f, g⟩ := pushP_back ws (k + 1) r hr
          refine ⟨by rw [List.map_cons, ← two_push hw, ← e], fun q hq => ?_, fun hk => ?_⟩
          · rcases List.mem_cons.mp hq with rfl | hq
            · exact ⟨c.1, by show (0 : Int) ≤ (p.2 : Int); omega, by show (p.2 : Int) ≤ _; omega⟩
            · exact f q hq
          · rw [List.length_cons]
            have := g (by omega)
            omega
      · cases h
theorem pushP_of {n : Nat} : ∀ (ps : Ps) (k : Nat), (∀ p ∈ ps, p.1 ≤ n ∧ 0 ≤ p.2 ∧ p.2 ≤ 1000000000) → n ≤ 1000 → k + ps.length ≤ 20 → pushP n k (ps.map pushT) = .inl ps
  | [], k, _, _, _ => rfl
  | p :: ps, k, h, hn, hl => by
    have h0 := h p List.mem_cons_self
    rw [List.length_cons] at hl
    rw [List.map_cons]
    unfold pushP
    rw [push_two h0.2.1 (by omega) (by omega)]
    dsimp only
    rw [if_pos ⟨h0.1, by omega, by omega⟩, pushP_of ps (k + 1) (fun q hq => h q (List.mem_cons_of_mem _ hq)) hn (by omega)]
    dsimp only
    rw [Int.toNat_of_nonneg h0.2.1]
theorem rowsP_at {ws : List Str} {k : Nat} {w : Str} (h : ws[k]? = some w) (j : Nat) : rowsP j (ws.drop k) = (match twoW 58 w with
    | none => .inr j
    | some p => if p.1 ≤ j ∧ (1 ≤ p.2 ∧ p.2 ≤ 1000000) ∧ j ≠ 11 then (match rowsP (j + 1) (ws.drop (k + 1)) with | .inl t => .inl (p :: t) | .inr i => .inr i) else .inr j) := by
  obtain ⟨hl, e⟩ := List.getElem?_eq_some_iff.mp h
  rw [List.drop_eq_getElem_cons hl, e]
  rfl
theorem pushP_at {ws : List Str} {n k : Nat} {w : Str} (h : ws[k]? = some w) (j : Nat) : pushP n j (ws.drop k) = (match twoW 64 w with
    | none => .inr j
    | some p => if p.1 ≤ n ∧ p.2 ≤ 1000000000 ∧ j ≠ 20 then (match pushP n (j + 1) (ws.drop (k + 1)) with | .inl t => .inl ((p.1, (p.2 : Int)) :: t) | .inr i => .inr i) else .inr j) := by
  obtain ⟨hl, e⟩ := List.getElem?_eq_some_iff.mp h
  rw [List.drop_eq_getElem_cons hl, e]
  rfl
/-! ### split and its words -/
theorem tl_sp : TL.tl (" " : Str) = [32] := by decide +kernel
theorem tl_sc : TL.tl (";" : Str) = [59] := by decide +kernel
theorem spl_back (x : Str) : Str.join " " (splW x) = x := StrLaws.join_split x " "
theorem spl_words {ws : List Str} (hne : ws ≠ []) (h : ∀ w ∈ ws, 32 ∉ TL.tl w) : splW (Str.join " " ws) = ws := by
  unfold splW
  have := TL.split_join (y := " ") tl_sp (by decide +kernel) (parts := ws) hne h
  rw [TL.join_eq] at this
  exact this
theorem spl_tl (x : Str) : (splW x).map TL.tl = TL.spl [32] 0 [] (TL.tl x) := by
  have := TL.split_spl x " " (by rw [tl_sp]; simp) (TL.kind_ok (by decide +kernel))
  rw [tl_sp] at this
  exact this
theorem splL_free {s : Nat} : ∀ (l acc : List Nat), s ∉ acc → ∀ p ∈ TL.spl [s] 0 acc l, s ∉ p
  | [], acc, h, p, hp => by
    rw [TL.spl_nil] at hp
    rw [List.mem_singleton.mp hp]
    exact h
  | c :: r, acc, h, p, hp => by
    by_cases hc : c = s
    · subst hc
      rw [TL.spl_hit (S := [c]) (show TL.pre [c] (c :: r) = true from TL.pre_self [c] r)] at hp
      rcases List.mem_cons.mp hp with rfl | hp
      · exact h
      · exact splL_free r [] (by simp) p hp
    · rw [TL.spl_miss (TL.pre_of_head [] r hc)] at hp
      exact splL_free r (acc ++ [c]) (fun z => by
        rcases List.mem_append.mp z with z | z
        · exact h z
        · exact hc (List.mem_singleton.mp z).symm) p hp
theorem spl_free {x w : Str} (h : w ∈ splW x) : 32 ∉ TL.tl w := by
  refine splL_free (TL.tl x) [] (by simp) _ ?_
  rw [← spl_tl]
  exact List.mem_map_of_mem h
theorem spl_ne (x : Str) : splW x ≠ [] := by
  intro e
  have := spl_tl x
  rw [e] at this
  have h : ∀ (l acc : List Nat), TL.spl [32] 0 acc l ≠ [] := fun l => by
    induction l with
    | nil => intro acc; rw [TL.spl_nil]; simp
    | cons c r ih =>
      intro acc
      by_cases hc : c = 32
      · subst hc
        rw [TL.spl_hit (S := [32]) (show TL.pre [32] (32 :: r) = true from TL.pre_self [32] r)]
        simp
      · rw [TL.spl_miss (TL.pre_of_head [] r hc)]
        exact ih _
  exact h _ _ this.symm
theorem spl_sub {s : Nat} : ∀ (l acc : List Nat), ∀ p ∈ TL.spl [s] 0 acc l, ∀ c ∈ p, c ∈ acc ∨ c ∈ l
  | [], acc, p, hp, c, hc => by
    rw [TL.spl_nil] at hp
    rw [List.mem_singleton.mp hp] at hc
    exact .inl hc
  | d :: r, acc, p, hp, c, hc => by
    by_cases hd : d = s
    · subst hd
      rw [TL.spl_hit (S := [d]) (show TL.pre [d] (d :: r) = true from TL.pre_self [d] r)] at hp
      rcases List.mem_cons.mp hp with rfl | hp
      · exact .inl hc
      · rcases spl_sub r [] p hp c hc with h | h
        · exact nomatch h
        · exact .inr (List.mem_cons_of_mem _ h)
    · rw [TL.spl_miss (TL.pre_of_head [] r hd)] at hp
      rcases spl_sub r (acc ++ [d]) p hp c hc with h | h
      · rcases List.mem_append.mp h with h | h
        · exact .inl h
        · exact .inr (by rw [List.mem_singleton.mp h]; exact List.mem_cons_self)
      · exact .inr (List.mem_cons_of_mem _ h)
theorem spl_okS {x w : Str} (hx : okS x) (h : w ∈ splW x) : okS w := fun c hc => by
  have h2 : TL.tl w ∈ TL.spl [32] 0 [] (TL.tl x) := by
    rw [← spl_tl]
    exact List.mem_map_of_mem h
  rcases spl_sub _ _ _ h2 c hc with h | h
  · exact nomatch h
  · exact hx c h
theorem spl_one_len {s : Nat} : ∀ (l acc : List Nat), (∀ p ∈ TL.spl [s] 0 acc l, p.length ≤ acc.length + l.length) ∧ (TL.spl [s] 0 acc l).length ≤ l.length + 1
  | [], acc => by
    rw [TL.spl_nil]
    exact ⟨fun p hp => by rw [List.mem_singleton.mp hp]; omega, by simp⟩
  | d :: r, acc => by
    by_cases hd : d = s
    · subst hd
      rw [TL.spl_hit (S := [d]) (show TL.pre [d] (d :: r) = true from TL.pre_self [d] r)]
      obtain ⟨i1, i2⟩ := spl_one_len (s := d) r []
      refine ⟨fun p hp => ?_, ?_⟩
      · rcases List.mem_cons.mp hp with rfl | hp
        · omega
        · have := i1 p hp
          simp only [List.length_nil, List.length_cons] at this ⊢
          omega
      · simp only [List.length_cons] at i2 ⊢
        show (TL.spl [d] 0 [] r).length + 1 ≤ _
        omega
    · rw [TL.spl_miss (TL.pre_of_head [] r hd)]
      obtain ⟨i1, i2⟩ := spl_one_len (s := s) r (acc ++ [d])
      refine ⟨fun p hp => ?_, ?_⟩
      · have := i1 p hp
        simp only [List.length_append, List.length_cons, List.length_nil] at this ⊢
        omega
      · simp only [List.length_cons]
        omega
theorem spl_len {x w : Str} (h : w ∈ splW x) : w.length ≤ x.length := by
  have h2 : TL.tl w ∈ TL.spl [32] 0 [] (TL.tl x) := by
    rw [← spl_tl]
    exact List.mem_map_of_mem h
  have := (spl_one_len (s := 32) (TL.tl x) []).1 _ h2
  rw [TL.len_tl, TL.len_tl]
  simpa using this
theorem spl_many (x : Str) : (splW x).length ≤ x.length + 1 := by
  have := (spl_one_len (s := 32) (TL.tl x) []).2
  rw [← spl_tl, List.length_map] at this
  rw [TL.len_tl]
  exact this
theorem eqvAll_map {α : Type} [DecidableEq α] {f : α → D} (hf : ∀ a b, PyData.eqv (toPy (f a)) (toPy (f b)) = decide (a = b)) : ∀ l m : List α, PyData.eqvAll (toPys (l.map f)) (toPys (m.map f)) = decide (l = m)
  | [], [] => rfl
  | [], _ :: _ => rfl
  | _ :: _, [] => rfl
  | a :: l, b :: m => by
    show (PyData.eqv (toPy (f a)) (toPy (f b)) && PyData.eqvAll (toPys (l.map f)) (toPys (m.map f))) = _
    rw [hf, eqvAll_map hf l m]
    by_cases h : a = b <;> by_cases h2 : l = m <;> simp [h, h2]
theorem eqv_str (x y : Str) : PyData.eqv (toPy (.str x)) (toPy (.str y)) = decide (x = y) := by
  show (x == y) = _
  by_cases h : x = y
  · subst h
    simp
  · rw [decide_eq_false h]
    exact beq_eq_false_iff_ne.mpr h
theorem eqv_strs (ws vs : List Str) : PyData.eqv (toPy (.lst (ws.map D.str))) (toPy (.lst (vs.map D.str))) = decide (ws = vs) := eqvAll_map eqv_str ws vs
theorem pl_str {x : Str} (h : okS x) : PlOk 0 (.str x) := ⟨rfl, strOk_of h, Nat.zero_le _⟩
theorem pl_strs {ws : List Str} (h : ∀ w ∈ ws, okS w) : PlOk 1 (.lst (ws.map D.str)) := .lst fun d hd => by
  obtain ⟨w, hw, rfl⟩ := List.mem_map.mp hd
  exact pl_str (h w hw)
/-! ### the last sign -/
theorem endB_iff {w : Str} : endB w = true ↔ ∃ u, TL.tl w = u ++ [59] := by
  have hl : Str.length (";" : Str) = 1 := by decide +kernel
  have hy : (";" : Str).cps.toList = [59] := tl_sc
  have hw := TL.len_tl w
  unfold endB Txt.endswith
  rw [Bool.and_eq_true, decide_eq_true_iff, StrLaws.subAt_eq, hl, hy]
  constructor
  · rintro ⟨h1, h2⟩
    have h2 := eq_of_beq h2
    refine ⟨(TL.tl w).take (w.length - 1), ?_⟩
    have : (TL.tl w).drop (w.length - 1) = [59] := by
      rw [← h2]
      refine (List.take_of_length_le ?_).symm
      rw [List.length_drop]
      omega
    rw [← this, List.take_append_drop]
  · rintro ⟨u, e⟩
    have hlu : w.length = u.length + 1 := by rw [hw, e, List.length_append, List.length_singleton]
    refine ⟨by omega, ?_⟩
    show ((TL.tl w).drop (w.length - 1)).take 1 == [59]
    rw [e, hlu, Nat.add_sub_cancel, List.drop_left']
    · rfl
    · rfl
theorem endB_app (u : Str) : endB (u ++ ";") = true := endB_iff.mpr ⟨TL.tl u, by rw [TL.tl_append, tl_sc]⟩
theorem lastOff_app (u : Str) : lastOff (u ++ ";") = u := by
  unfold lastOff
  rw [C8.cutS_slice]
  have h1 : (u ++ ";" : Str) = SX.S (TL.tl u ++ [59]) := TL.ext_tl (by rw [TL.tl_append, tl_sc])
  rw [h1, SX.butlast_snoc]
theorem endB_some {w : Str} (h : endB w = true) : w = lastOff w ++ ";" := by
  obtain ⟨u, e⟩ := endB_iff.mp h
  have h1 : w = (⟨u.toArray⟩ : Str) ++ ";" := TL.ext_tl (by rw [e, TL.tl_append, tl_sc])
  rw [h1, lastOff_app]
theorem endB_dig {w : Str} {a : List Nat} {n : Nat} (h : TL.tl w = a ++ TL.numL n) : endB w = false := by
  rw [Bool.eq_false_iff]
  intro z
  obtain ⟨u, e⟩ := endB_iff.mp z
  rw [h] at e
  have hne := TL.numL_ne n
  rcases List.eq_nil_or_concat (TL.numL n) with h0 | ⟨r, c, h0⟩
  · exact hne h0
  rw [List.concat_eq_append] at h0
  have hc := TL.numL_digits n c (by rw [h0]; simp)
  rw [h0, ← List.append_assoc] at e
  have := List.append_inj_right' e rfl
  have := List.cons.inj this
  omega
theorem endB_row (p : Nat × Nat) : endB (rowT p) = false := endB_dig (a := TL.numL p.1 ++ [58]) (n := p.2) (by rw [tl_rowT]; simp)
/-! ### fields -/
theorem joinW_in (c : Str) : ∀ (A : List Str) (b : Str) (D : List Str), Str.join " " ((Str.join " " (A ++ [b]) ++ c) :: D) = Str.join " " (A ++ (b ++ c) :: D)
  | [], b, D => rfl
  | a :: A, b, D => by
    refine TL.ext_tl ?_
    rw [tl_join, List.cons_append, List.cons_append, TL.tl_append, tl_join, tl_join, List.flatMap_append, List.flatMap_append, List.flatMap_cons, List.flatMap_cons, TL.tl_append, List.flatMap_nil]
    simp only [List.append_assoc, List.append_nil, List.nil_append]
theorem rowsT_eq {ws : List Str} {t : Tr} (h : treeP ws = .inl t) : rowsT t = Str.join " " ws ∧ TreeOk t := by
  unfold treeP at h
  split at h
  · next e =>
    cases h
    subst e
    exact ⟨rfl, by decide, fun k p e => by simp at e⟩
  · exact ⟨by unfold rowsT; rw [← (rowsP_back ws 0 t h).1], rows_ok h⟩
theorem ends_at {ws : List Str} {e : Nat} {r : List Nat} (h : endsP ws = e :: r) : e < ws.length ∧ endB (ws.getD e "") = true := by
  have : e ∈ endsP ws := by rw [h]; exact List.mem_cons_self
  obtain ⟨q, hq, e2⟩ := List.mem_filterMap.mp this
  split at e2
  · next hb =>
    obtain ⟨i, hi⟩ := List.getElem?_of_mem hq
    obtain ⟨h1, h2⟩ := idx_at hi
    have e3 := Option.some.inj e2
    rw [h1] at e3
    subst e3
    refine ⟨(List.getElem?_eq_some_iff.mp h2).1, ?_⟩
    rw [List.getD_eq_getElem?_getD, h2]
    exact hb
  · cases e2
theorem lastOff_sub (w : Str) : (lastOff w).length ≤ w.length := cutS_length _ _ _
theorem fieldP_back {x : Str} {s : FS} (h : fieldP x = .inl s) : StOk s ∧ textS s = x := by
  unfold fieldP at h
  cases he : endsP (splW x) with
  | nil => rw [he] at h; cases h
  | cons e r =>
    rw [he] at h
    dsimp only at h
    obtain ⟨hlt, hb⟩ := ends_at he
    cases ht : treeP ((splW x).take e ++ [lastOff ((splW x).getD e "")]) with
    | inr i => rw [ht] at h; cases h
    | inl t =>
      rw [ht] at h
      dsimp only at h
      cases hp : pushP t.length 0 ((splW x).drop (e + 1)) with
      | inr i => rw [hp] at h; cases h
      | inl ps =>
        rw [hp] at h
        cases h
        obtain ⟨e1, ok⟩ := rowsT_eq ht
        obtain ⟨e2, b1, b2⟩ := pushP_back _ _ _ hp
        refine ⟨⟨ok, by have := b2 (by omega); show ps.length ≤ 20; omega, fun p hp => b1 p hp⟩, ?_⟩
        unfold textS
        rw [e1, ← e2, joinW_in, ← endB_some hb]
        have : (splW x).getD e "" = (splW x)[e] := by rw [List.getD_eq_getElem?_getD, List.getElem?_eq_getElem hlt]; rfl
        rw [this, ← List.drop_eq_getElem_cons hlt, List.take_append_drop, spl_back]
theorem rowsP_bad : ∀ (ws : List Str) (k : Nat), ∃ i, rowsP k (ws ++ [("" : Str)]) = .inr i
  | [], k => by
    refine ⟨k, ?_⟩
    have : twoW 58 ("" : Str) = none := by decide +kernel
    rw [List.nil_append]
    unfold rowsP
    rw [this]
  | w :: ws, k => by
    rw [List.cons_append]
    unfold rowsP
    obtain ⟨i, e⟩ := rowsP_bad ws (k + 1)
    rw [e]
    cases twoW 58 w with
    | none => exact ⟨k, rfl⟩
    | some p =>
      dsimp only
      split
      · exact ⟨i, rfl⟩
      · exact ⟨k, rfl⟩
theorem treeP_bad {ws : List Str} (h : ws ≠ []) : ∃ i, rowsP 0 (ws ++ [("" : Str)]) = .inr i ∧ treeP (ws ++ [("" : Str)]) = .inr i := by
  obtain ⟨i, e⟩ := rowsP_bad ws 0
  refine ⟨i, e, ?_⟩
  unfold treeP
  rw [if_neg, e]
  intro z
  have := congrArg List.length z
  rw [List.length_append, List.length_singleton] at this
  exact h (List.length_eq_zero_iff.mp (by omega))
/-- what parse_field makes of any value -/
def fieldV : D → FS ⊕ D
  | .str x => match fieldP x with
    | .inl s => .inl s
    | .inr i => .inr (natD i)
  | _ => .inr .non
def headW (t : Tr) : List Str := match t.getLast? with
  | none => [(";" : Str)]
  | some p => t.dropLast.map rowT ++ [rowT p ++ ";"]
def wordsT (s : FS) : List Str := headW s.1 ++ s.2.map pushT
theorem rev_cases {α : Type} (t : List α) : t = [] ∨ ∃ r p, t = r ++ [p] := by
  rcases List.eq_nil_or_concat t with h | ⟨r, p, h⟩
  · exact .inl h
  · exact .inr ⟨r, p, by simpa using h⟩
theorem headW_snoc (r : Tr) (p : Nat × Nat) : headW (r ++ [p]) = r.map rowT ++ [rowT p ++ ";"] := by
  unfold headW
  rw [List.getLast?_concat]
  dsimp only
  rw [List.dropLast_concat]
theorem headW_len (t : Tr) : (headW t).length = max 1 t.length := by
  rcases rev_cases t with rfl | ⟨r, p, rfl⟩
  · rfl
  · rw [headW_snoc, List.length_append, List.length_append, List.length_map, List.length_singleton, List.length_singleton]
    omega
theorem wordsT_join (s : FS) : Str.join " " (wordsT s) = textS s := by
  obtain ⟨t, ps⟩ := s
  unfold wordsT textS rowsT
  dsimp only
  rcases rev_cases t with rfl | ⟨r, p, rfl⟩
  · rfl
  · rw [headW_snoc, List.append_assoc, List.map_append]
    show _ = Str.join " " ((Str.join " " (r.map rowT ++ [rowT p]) ++ ";") :: ps.map pushT)
    rw [joinW_in]
    rfl
theorem free_num {n c : Nat} (h : c < 48 ∨ 57 < c) : c ∉ TL.numL n := TL.numL_free h
theorem free_row (p : Nat × Nat) : 32 ∉ TL.tl (rowT p) := by
  rw [tl_rowT]
  intro h
  rcases List.mem_append.mp h with h | h
  · exact free_num (.inl (by omega)) h
  · rcases List.mem_cons.mp h with h | h
    · omega
    · exact free_num (.inl (by omega)) h
theorem free_push {p : Nat × Int} (h0 : 0 ≤ p.2) : 32 ∉ TL.tl (pushT p) := by
  rw [tl_pushT h0]
  intro h
  rcases List.mem_append.mp h with h | h
  · exact free_num (.inl (by omega)) h
  · rcases List.mem_cons.mp h with h | h
    · omega
    · exact free_num (.inl (by omega)) h
theorem wordsT_free {s : FS} (ho : StOk s) : ∀ w ∈ wordsT s, 32 ∉ TL.tl w := by
  obtain ⟨t, ps⟩ := s
  intro w hw
  unfold wordsT at hw
  rcases List.mem_append.mp hw with hw | hw
  · dsimp only at hw
    rcases rev_cases t with rfl | ⟨r, p, rfl⟩
    · have : w = (";" : Str) := by simpa [headW] using hw
      rw [this, tl_sc]
      decide
    · rw [headW_snoc] at hw
      rcases List.mem_append.mp hw with hw | hw
      · obtain ⟨q, _, rfl⟩ := List.mem_map.mp hw
        exact free_row q
      · rw [List.mem_singleton.mp hw, TL.tl_append, tl_sc]
        intro h
        rcases List.mem_append.mp h with h | h
        · exact free_row p h
        · simp at h
  · obtain ⟨q, hq, rfl⟩ := List.mem_map.mp hw
    exact free_push (ho.ps q hq).2.1
theorem text_words {s : FS} (ho : StOk s) : splW (textS s) = wordsT s := by
  rw [← wordsT_join]
  refine spl_words ?_ (wordsT_free ho)
  intro z
  have := congrArg List.length z
  unfold wordsT at this
  rw [List.length_append, headW_len, List.length_nil] at this
  omega
theorem ends_first {A D : List Str} {w : Str} (hA : ∀ a ∈ A, endB a = false) (hw : endB w = true) : ∃ r, endsP (A ++ w :: D) = A.length :: r := by
  unfold endsP
  rw [List.zipIdx_append, List.filterMap_append, List.zipIdx_cons, List.filterMap_cons]
  have : (A.zipIdx.filterMap fun q => if endB q.1 = true then some q.2 else none) = [] := by
    rw [List.filterMap_eq_nil_iff]
    intro q hq
    obtain ⟨i, hi⟩ := List.getElem?_of_mem hq
    have h := hA q.1 (List.mem_of_getElem? (idx_at hi).2)
    rw [h]
    rfl
  rw [this, hw]
  exact ⟨_, by rw [if_pos rfl, List.nil_append, Nat.zero_add]⟩
theorem fieldP_of {s : FS} (ho : StOk s) : fieldP (textS s) = .inl s := by
  unfold fieldP
  rw [text_words ho]
  obtain ⟨t, ps⟩ := s
  have hp : pushP t.length 0 (ps.map pushT) = .inl ps := pushP_of ps 0 (fun p hp => ho.ps p hp) (by have := ho.tr.1; dsimp only at this; omega) (by have := ho.len; dsimp only at this; omega)
  unfold wordsT
  dsimp only
  rcases rev_cases t with rfl | ⟨r, p, rfl⟩
  · obtain ⟨z, e⟩ := ends_first (A := []) (D := ps.map pushT) (w := (";" : Str)) (fun _ h => nomatch h) (by decide +kernel)
    have e : endsP ((";" : Str) :: ps.map pushT) = 0 :: z := e
    have e2 : treeP [lastOff (";" : Str)] = .inl [] := by
      rw [show lastOff (";" : Str) = "" by decide +kernel]
      rfl
    rw [show headW [] ++ ps.map pushT = (";" : Str) :: ps.map pushT from rfl, e]
    dsimp only
    rw [List.take_zero, List.nil_append, show ((";" : Str) :: ps.map pushT).getD 0 "" = ";" from rfl, e2]
    dsimp only
    rw [show ((";" : Str) :: ps.map pushT).drop (0 + 1) = ps.map pushT from rfl, hp]
  · rw [headW_snoc, List.append_assoc, List.singleton_append]
    obtain ⟨z, e⟩ := ends_first (A := r.map rowT) (D := ps.map pushT) (w := rowT p ++ ";") (fun a ha => by
      obtain ⟨q, _, rfl⟩ := List.mem_map.mp ha
      exact endB_row q) (endB_app _)
    rw [e]
    dsimp only
    rw [List.take_left' rfl, List.getD_eq_getElem?_getD, List.getElem?_append_right (Nat.le_refl _), Nat.sub_self, List.getElem?_cons_zero, Option.getD_some, lastOff_app]
    have e2 : treeP (r.map rowT ++ [rowT p]) = .inl (r ++ [p]) := by
      rw [show r.map rowT ++ [rowT p] = (r ++ [p]).map rowT by rw [List.map_append]; rfl]
      unfold treeP
      rw [if_neg, rowsP_of (r ++ [p]) 0 (fun j q e => by have := ho.tr.2 j q e; omega) (by have := ho.tr.1; dsimp only at this; omega)]
      intro z
      rw [List.map_append, List.map_cons, List.map_nil] at z
      have h0 := congrArg List.getLast? z
      rw [List.getLast?_concat] at h0
      have h1 : rowT p = "" := by simpa using h0
      have h2 := congrArg TL.tl h1
      rw [tl_rowT] at h2
      have h3 := congrArg List.length h2
      rw [List.length_append, List.length_cons] at h3
      have h4 : (TL.tl ("" : Str)).length = 0 := by decide +kernel
      omega
    rw [e2]
    dsimp only
    rw [List.drop_append, List.drop_eq_nil_of_le (by omega), List.nil_append, Nat.add_sub_cancel_left, List.drop_one, List.tail_cons, hp]
end DL

set_option maxHeartbeats 1000000
/-! DLT6: text times a number, upper, replace. -/
namespace DL
open PySem PySem.Spec PyProof.Rows L2 MT
def mulS (a : Str) (n : Nat) : Str := ⟨((List.replicate n (TL.tl a)).flatten).toArray⟩
section
variable {X : Cx}
theorem foldl_cat : ∀ (l : List (Array Nat)) (a : Array Nat), (l.foldl (· ++ ·) a).toList = a.toList ++ (l.map Array.toList).flatten
  | [], a => by simp
  | b :: l, a => by
    rw [List.foldl_cons, foldl_cat l (a ++ b), Array.toList_append, List.map_cons, List.flatten_cons, List.append_assoc]
theorem mulS_eq (a : Str) (n : Nat) : (⟨(List.replicate n a.cps).foldl (· ++ ·) #[]⟩ : Str) = mulS a n := by
  refine TL.ext_tl ?_
  show ((List.replicate n a.cps).foldl (· ++ ·) #[]).toList = _
  rw [foldl_cat, List.map_replicate]
  rfl
theorem mulS_len (a : Str) (n : Nat) : (mulS a n).length = n * a.length := by
  rw [TL.len_tl]
  show ((List.replicate n (TL.tl a)).flatten).length = _
  rw [List.length_flatten, List.map_replicate, List.sum_replicate_nat, TL.len_tl a]
theorem op_mul_str : OpR X (binaryOp .Mult) (fun x y H Q => ∃ a k, x = .str a ∧ y = .int k ∧ 0 ≤ k ∧ k ≤ 1000 ∧ a.length ≤ 10000 ∧ Q (.str (mulS a k.toNat)) H) := by
  intro pins s σ H x y v u Q I rx ry h
  obtain ⟨a, k, rfl, rfl, k0, k1, hl, q⟩ := h
  obtain ⟨t, rfl⟩ := rx
  obtain ⟨t', rfl⟩ := ry
  have hm : a.length * k.toNat ≤ 10000 * 1000 := Nat.mul_le_mul hl (by omega)
  refine PySem.P.mul_str ?_ (fun h1 _ => ?_) (fun h1 _ => ?_) ?_
  · rw [decide_eq_false (by omega), decide_eq_false (by omega)]; rfl
  · have : (a.length : Int) * k ≤ 2 ^ 63 - 1 := by
      have e : ((a.length * k.toNat : Nat) : Int) = (a.length : Int) * k := by
        rw [Int.natCast_mul, Int.toNat_of_nonneg k0]
      omega
    have := (Int.le_ediv_iff_mul_le (show (0 : Int) < k by omega)).mpr this
    omega
  · show decide (a.length * k.toNat > sizeLine) = false
    refine decide_eq_false ?_
    rw [sizeLine_eq]
    omega
  · by_cases c1 : k < 1
    · rw [if_pos c1]
      have e : mulS a k.toNat = Str.empty := by rw [show k.toNat = 0 by omega]; rfl
      rw [e] at q
      exact ⟨by decide, ⟨.str Str.empty, H, I.tok _, ⟨_, rfl⟩, q⟩⟩
    rw [if_neg c1]
    by_cases c2 : (k == 1 || a.length == 0) = true
    · rw [if_pos c2]
      have e : mulS a k.toNat = a := by
        rcases Bool.or_eq_true_iff.mp c2 with h | h
        · rw [eq_of_beq h]
          refine TL.ext_tl ?_
          show ((List.replicate 1 (TL.tl a)).flatten) = _
          simp
        · have hz : TL.tl a = [] := List.length_eq_zero_iff.mp ((TL.len_tl a).symm.trans (eq_of_beq h))
          refine TL.ext_tl ?_
          show ((List.replicate k.toNat (TL.tl a)).flatten) = _
          rw [hz]
          simp
      rw [e] at q
      exact ⟨.str a, H, I, ⟨_, rfl⟩, q⟩
    · rw [if_neg c2, mulS_eq]
      exact ⟨by rw [mulS_len, sizeLine_eq, Nat.mul_comm]; omega, ⟨.str _, H, I.tok _, ⟨_, rfl⟩, q⟩⟩
@[reducible] def gMulS : G2 := fun x y M Q => match x, y with
  | .str a, .int k => 0 ≤ k ∧ k ≤ 1000 ∧ a.length ≤ 10000 ∧ Q (.str (mulS a k.toNat)) M
  | _, _ => False
theorem gMulS_mono : Mono2 gMulS := fun x y M Q Q' w q => by
  unfold gMulS at q ⊢
  split at q
  · exact ⟨q.1, q.2.1, q.2.2.1, w _ _ q.2.2.2⟩
  · exact q.elim
theorem o_mulS : O2 X (binaryOp .Mult) gMulS := O2.of op_mul_str gMulS_mono fun al F G H M x y dx dy Q W r1 r2 q => by
  unfold gMulS at q
  split at q
  · cases r1; cases r2
    exact ⟨_, _, rfl, rfl, q.1, q.2.1, q.2.2.1, kont.here q.2.2.2 W (.str _)⟩
  · exact q.elim
/-! ### except C: (without a name) -/
@[reducible] def dTryN (K : PySem.W.Frag) (c : Value) (fb : DTS) (fs : Addr → Value → Option Addr → DTS) : DTS := fun D ρ M =>
  ∃ x' : DXS, (∀ cls fl vs M', x' cls fl vs M' → ∃ b, PySem.W.exmOne K cls c = some b ∧ (b = true → ∀ a o, fs a cls o (endsX D ρ.x) ⟨vs, noX⟩ M') ∧ (b = false → ρ.x cls fl vs M')) ∧ fb (endsX D ρ.x) ⟨ρ.v, x'⟩ M
variable {pos : Pos}
theorem ds_tryN {x : Str} {c : Value} {body suite : List Stmt} {b0 : Stmt} {np pos' : Pos} {fb : DTS} {fs : Addr → Value → Option Addr → DTS} (hc : X.mg x = some c)
    (hb : ∀ (pn : List (Addr × Obj)) (xe : Value → Shared → Prop), PassesOwn (model X.prog X.w) X.A X.env xe → DSs (X.tr pn xe) body fb)
    (hsu : ∀ (a : Addr) (oe : Obj) (cls : Value) (d : Option Addr) (pn : List (Addr × Obj)), L2N.Zn cls d oe → (∃ vs, oe.data = .fields vs) → DSs (X.suite a ((a, oe) :: pn)) (b0 :: suite) (fs a cls d))
    (hs : X.stack = X.env :: X.outer := by rfl) (hf : X.env.frame = some X.env.locals := by rfl) (hg : Gl X x := by rfl) (hdb : (x == ("__debug__" : Str)) = false := by decide) :
    DS X (.Try body [.ExceptHandler (some (.Name x np)) none (b0 :: suite) pos'] [] [] pos) (dTryN X.K c fb fs) := by
  have mf : ∀ a cls d, MonoS (fs a cls d) := fun a cls d => (hsu a { cls := cls, dict := d, data := .fields #[.none, .none, .none] } cls d [] ⟨rfl, rfl, fun vs e => by cases e; rfl⟩ ⟨_, rfl⟩).mono
  have mb : MonoS fb := (hb [] (fun _ _ => False) PassesOwn.never).mono
  refine ⟨PS.of (L2N.ps_try_many (l := [(c, fun a cls d => LiftSN X.K (fs a cls d))]) (tb := LiftSW X.K fb) hs hf (takesW X) (fun Wx pn xe tk po => PSs.of (hb pn xe po).ps fun E σ H ⟨ρ, M, al, F, G, W, s, xo, q⟩ => ?_) (.cons ⟨hg, hdb, .inl hc⟩ (fun a oe cls d pn hz hd => PSs.of (hsu a oe cls d pn hz hd).ps fun E σ H h => LiftSN.of h) .nil)) ?_, fun D D' ρ M w q => ?_⟩
  · exact ⟨ρ, M, al, F, G, W, ⟨s, fun c' fl vs M' al' F' H' o σ' e' W' s' f' z => W0.of tk (xo c' fl vs M' al' F' H' o σ' e' W' s' f' z)⟩, q⟩
  · rintro E σ H ⟨ρ, M, al, F, G, W, es, x', hx, q⟩
    refine ⟨⟨ρ.v, x'⟩, M, al, F, G, W, es.sl, ?_, MonoS.up mb q ⟨fun ρ1 M1 k al1 F1 H1 σ1 e1 W1 s1 _ => ?_, fun d M1 k => k, fun ρ1 M1 k al1 F1 H1 σ1 e1 W1 s1 _ => ?_, fun ρ1 M1 k al1 F1 H1 σ1 e1 W1 s1 _ => ?_⟩⟩
    rotate_left
    · exact (show kN X.K al F G ρ.x E.nx ⟨ρ1.v, ρ.x⟩ M1 from k) al1 F1 H1 σ1 e1 W1 s1 rfl
    · exact (show kN X.K al F G ρ.x E.bk ⟨ρ1.v, ρ.x⟩ M1 from k) al1 F1 H1 σ1 e1 W1 s1 rfl
    · exact (show kN X.K al F G ρ.x E.ct ⟨ρ1.v, ρ.x⟩ M1 from k) al1 F1 H1 σ1 e1 W1 s1 rfl
    intro cls fl vs M' al' F' H' o σ' e' W' s' f' z
    obtain ⟨b, hb1, yes, no⟩ := hx cls fl vs M' z
    refine ⟨b, hb1, fun eb a na => ?_, fun eb => es.xo cls fl vs M' al' F' H' o σ' e' W' s' f' (no eb)⟩
    refine ⟨⟨vs, noX⟩, M', al', F', G, W', s', rfl, MonoS.up (mf a cls o) (yes eb a o) ⟨fun ρ1 M1 k al1 F1 H1 σ1 e1 W1 s1 _ => ?_, fun d M1 k => kont.ext k e', fun ρ1 M1 k al1 F1 H1 σ1 e1 W1 s1 _ => ?_, fun ρ1 M1 k al1 F1 H1 σ1 e1 W1 s1 _ => ?_⟩⟩
    · exact (show kN X.K al F G ρ.x E.nx ⟨ρ1.v, ρ.x⟩ M1 from k) al1 F1 H1 _ (e'.trans e1) W1 s1 rfl
    · exact (show kN X.K al F G ρ.x E.bk ⟨ρ1.v, ρ.x⟩ M1 from k) al1 F1 H1 _ (e'.trans e1) W1 s1 rfl
    · exact (show kN X.K al F G ρ.x E.ct ⟨ρ1.v, ρ.x⟩ M1 from k) al1 F1 H1 _ (e'.trans e1) W1 s1 rfl
  · obtain ⟨x', hx, q⟩ := q
    refine ⟨x', fun cls fl vs M' z => ?_, mb (endsX D ρ.x) (endsX D' ρ.x) _ _ ⟨fun _ _ k => w.nx _ _ k, w.rt, fun _ _ k => w.bk _ _ k, fun _ _ k => w.ct _ _ k⟩ q⟩
    obtain ⟨b, hb1, yes, no⟩ := hx cls fl vs M' z
    exact ⟨b, hb1, fun eb a o => mf a cls o (endsX D ρ.x) (endsX D' ρ.x) _ _ ⟨fun _ _ k => w.nx _ _ k, w.rt, fun _ _ k => w.bk _ _ k, fun _ _ k => w.ct _ _ k⟩ (yes eb a o), no⟩
/-! ### slices with a step, of any expression -/
theorem sliceStepA {A : Around} {env : Env} {E : Value → Shared → Prop} {s : Shared} {prog : Program} {w : World} {value st : Expr} {lower upper : Option Expr} {p pos : Pos} {T id : String} {Q : Value → Shared → Prop}
    (hl : typeLookup (.type T) "__getitem__" = pure (some (.builtin id)))
    (h : wpAny (model prog w) A (eval value env) (fun o s₁ => wpAny (model prog w) A (eval (.Slice lower upper (some st) p) env) (fun i s₂ => s₂.TypeIs o T ∧ wpAny (model prog w) A (getItem o i) Q E s₂) E s₁) E s) :
    wpAny (model prog w) A (eval (.Subscript value (.Slice lower upper (some st) p) pos) env) Q E s := by
  rw [eval_Subscript]
  refine wpAny_bind (wpAny_mono h (fun o s₁ h₁ => wpAny_bind (wpAny_holding (wpAny_mono h₁ (fun i s₂ h₂ => wpAny_bind (wpAny_standAt ?_)) fun _ _ x => x)))
    fun _ _ x => x)
  have fin : wpAny (model prog w) A (operate [o, i] (getItem o i)) (fun r s₃ => wpAny (model prog w) A (letTemporaryGo value o r >>= fun _ => pure r) Q E s₃) E s₂ :=
    wpAny_operating (wpAny_mono h₂.2 (fun r s₃ h₃ => wpAny_bind (wpAny_letTemporaryGo (wpAny_pure h₃))) fun _ _ x => x)
  first
    | (refine wpAny_bind ?_
       rw [getitemInPython_of_ne h₂.1.not_modules]
       refine wpAny_bind (wpAny_specialOf h₂.1 hl ?_)
       first
         | exact wpAny_pure (wpAny_bind fin)
         | exact wpAny_bind (wpAny_pure (wpAny_bind fin))
         | exact wpAny_bind fin)
    | (refine wpAny_bind (wpAny_specialOf h₂.1 hl ?_)
       first
         | exact wpAny_bind (wpAny_pure (wpAny_bind fin))
         | exact wpAny_bind fin)
variable {a : Expr} {fa : DTE}
theorem d_sliceSA {lo hi : Option Expr} {st : Expr} {fl fh fs : DTO} {p2 : Pos} (ha : DE X a fa) (hl : DO X lo fl) (hh : DO X hi fh) (hs : DO X (some st) fs) : DE X (.Subscript a (.Slice lo hi (some st) p2) pos) (dSlS fa fl fh fs) := by
  refine ⟨⟨fun pins s σ H Q I q => ?_⟩, fun ρ M Q Q' w q => ha.mono _ _ _ _ (fun d M1 q1 => hl.mono _ _ _ _ (fun l M2 q2 => hh.mono _ _ _ _ (fun h M3 q3 => hs.mono _ _ _ _ (fun k M4 q4 => ?_) q3) q2) q1) q⟩
  · obtain ⟨ρ, M, al, F, G, W, es, q⟩ := q
    have r0 : Lift X fa σ H (fun v H1 => LiftO X fl σ H1 fun l H2 => LiftO X fh σ H2 fun h H3 => LiftO X fs σ H3 fun k H4 => ∃ p xs, v = .ref p ∧ H4 p = some (.lst xs) ∧ k ≠ some 0 ∧ (pick xs l h k).length ≤ sizeLine ∧ ∀ z, H4 z = none → Q (.ref z) (upd H4 z (.lst (pick xs l h k)))) := by
      refine ha.seq W es q fun d M1 al1 F1 H1 v q1 e1 W1 r1 s1 => ?_
      refine hl.seq W1 s1 q1 fun l M2 al2 F2 H2 q2 e2 W2 s2 => ?_
      refine hh.seq W2 s2 q2 fun h M3 al3 F3 H3 q3 e3 W3 s3 => ?_
      refine hs.seq W3 s3 q3 fun k M4 al4 F4 H4 q4 e4 W4 s4 => ?_
      split at q4
      · next ds e =>
        obtain ⟨p1, xs1, rfl, h1, rs⟩ := seqOf_ok W4 (r1.ext (e2.trans (e3.trans e4))) e
        have rp := rs.pick l h k
        exact ⟨p1, xs1, rfl, h1, q4.1, le_line (by rw [rp.length]; exact q4.2.1), fun z hz => kont.lst (kont.ext q4.2.2 (e1.trans (e2.trans (e3.trans e4)))) W4 rp hz⟩
      · exact q4.elim
    refine sliceStepA PySem.slot_list_getitem.lookup (thn (ha.pe.run pins s σ H _ I r0) fun v s1 ⟨x, H1, I1, r1, q1⟩ => ?_)
    refine wpAny_Slice (thn (hl.po.run pins s1 σ H1 _ I1 q1) fun vl s2 ⟨l, H2, I2, pl, q2⟩ => ?_)
    refine thn (hh.po.run pins s2 σ H2 _ I2 q2) fun vu s3 ⟨u, H3, I3, pu, q3⟩ => ?_
    refine thn (hs.po.run pins s3 σ H3 _ I3 q3) fun vs s4 ⟨k, H4, I4, pk, p, xs, ex, hx, k0, hz, q4⟩ => ?_
    subst ex
    cases r1
    have I5 : Inv X pins σ H4 { s4 with heap := s4.heap.push { cls := .type "slice", data := .fields #[vl, vu, vs] } } := I4.kept (t' := s4.toks) fun b ob q => Heap.get?_push_of_some _ q
    obtain ⟨its, rv, pl5, hz5⟩ := I5.list (SqL.of hx)
    refine ⟨pl5.isList.typeIs, wpAny_getItem_list_slice pl5.isList (Heap.IsSliceOf.new _ vl vu vs) pl pu pk k0 ?_ (by rw [List.size_toArray, ← rv.length]; exact hz5)⟩
    refine ⟨.ref _, _, I5.laid (t' := s4.toks) (o := .lst (pick xs l u k)) (fun b ob q => Heap.get?_push_of_some _ q) (Nat.le_refl _) ?_, rfl, q4 _ (I5.hok.fresh (Nat.le_refl _))⟩
    exact ⟨hz, _, _, pick_vals rv l u k, Heap.get?_push_size _ rfl⟩
  · try dsimp only at q4 ⊢
    split at q4
    · exact ⟨q4.1, q4.2.1, w _ _ q4.2.2⟩
    · exact q4.elim

theorem d_revTA {st : Expr} {fs : DTO} {p2 : Pos} (ha : DE X a fa) (hs : DO X (some st) fs) : DE X (.Subscript a (.Slice none none (some st) p2) pos) (dRevT fa fs) := by
  refine ⟨⟨fun pins s σ H Q I q => ?_⟩, fun ρ M Q Q' w q => ha.mono _ _ _ _ (fun d M1 q1 => hs.mono _ _ _ _ (fun k M4 q4 => ?_) q1) q⟩
  · obtain ⟨ρ, M, al, F, G, W, es, q⟩ := q
    have r0 : Lift X fa σ H (fun v H1 => LiftO X dNoPart σ H1 fun l H2 => LiftO X dNoPart σ H2 fun h H3 => LiftO X fs σ H3 fun k H4 => ∃ p xs, v = .ref p ∧ SqT X.K H4 p xs ∧ l = none ∧ h = none ∧ k = some (-1) ∧ ∀ z, H4 z = none → Q (.ref z) (upd H4 z (.tup xs.reverse))) := by
      refine ha.seq W es q fun d M1 al1 F1 H1 v q1 e1 W1 r1 s1 => ?_
      refine (do_none (X := X)).seq W1 s1 (R := fun l M2 => l = none ∧ M2 = M1) ⟨rfl, rfl⟩ fun l M2 al2 F2 H2 q2 e2 W2 s2 => ?_
      obtain ⟨rfl, rfl⟩ := q2
      refine (do_none (X := X)).seq W2 s2 (R := fun l M3 => l = none ∧ M3 = M2) ⟨rfl, rfl⟩ fun l M3 al3 F3 H3 q3 e3 W3 s3 => ?_
      obtain ⟨rfl, rfl⟩ := q3
      refine hs.seq W3 s3 q1 fun k M4 al4 F4 H4 q4 e4 W4 s4 => ?_
      have r4 := r1.ext (e2.trans (e3.trans e4))
      split at q4
      · cases r4 with
        | tup a1 b1 =>
          exact ⟨_, _, rfl, SqT.of (W4.sm _ _ a1), rfl, rfl, q4.1, fun z hz => kont.tup (kont.ext q4.2 (e1.trans (e2.trans (e3.trans e4)))) W4 b1.rev hz⟩
      · exact q4.elim
    refine sliceStepA slot_tuple_getitem.lookup (thn (ha.pe.run pins s σ H _ I r0) fun v s1 ⟨x, H1, I1, r1, q1⟩ => ?_)
    refine wpAny_Slice (thn ((do_none (X := X)).po.run pins s1 σ H1 _ I1 q1) fun vl s2 ⟨l, H2, I2, pl, q2⟩ => ?_)
    refine thn ((do_none (X := X)).po.run pins s2 σ H2 _ I2 q2) fun vu s3 ⟨u, H3, I3, pu, q3⟩ => ?_
    refine thn (hs.po.run pins s3 σ H3 _ I3 q3) fun vs s4 ⟨k, H4, I4, pk, p, xs, ex, hx, el, eu, ek, q4⟩ => ?_
    subst ex el eu ek
    cases r1
    cases pl
    cases pu
    obtain ⟨tk, rfl⟩ : ∃ tk, vs = Value.int (-1) tk := by
      cases pk
      exact ⟨_, rfl⟩
    have I5 : L2.Inv X pins σ H4 { s4 with heap := s4.heap.push { cls := .type "slice", data := .fields #[Value.none, Value.none, .int (-1) tk] } } := I4.kept (t' := s4.toks) fun b ob q => Heap.get?_push_of_some _ q
    obtain ⟨its, rv, pl5, hz5⟩ := I5.tuple hx
    refine ⟨pl5.typeIs, getItem_rev pl5 (Heap.IsSliceOf.new _ Value.none Value.none (.int (-1) tk)) ?_ (by rw [List.size_toArray, ← rv.length]; exact hz5)⟩
    refine ⟨.ref _, _, I5.laid (t' := s4.toks) (o := .tup xs.reverse) (fun b ob q => Heap.get?_push_of_some _ q) (Nat.le_refl _) ?_, rfl, q4 _ (I5.hok.fresh (Nat.le_refl _))⟩
    refine ⟨by rw [List.length_reverse]; exact hz5, its.reverse, ?_, ⟨_, Heap.get?_push_size _ rfl, rfl, 0, by simp⟩⟩
    exact vals_rev rv
  · try dsimp only at q4 ⊢
    split at q4
    · exact ⟨q4.1, w _ _ q4.2⟩
    · exact q4.elim
end
end DL


namespace Law
open PySem PySem.Spec PyProof.Rows L2 DL MT
local macro_rules | `(tactic| walk_at "go1") => `(tactic| ((repeat (first | (with_reducible conv => whnf); (simp only [lk_states, lk_tables, lk_notes, lk_standing, lk_watching, seqDs_lt, seqDs_tt, seqDs_tl, seqDs_ll, seqD_tup, seqD_lst, tyNm_non, tyNm_bl, tyNm_int, tyNm_str, tyNm_tup, tyNm_lst, tyNm_dct, tabInt_NoneType, tabInt_bool, tabInt_int, tabInt_str, tabInt_tuple, tabInt_list, tabInt_dict, tabBool_NoneType, tabBool_bool, tabBool_int, tabBool_str, tabBool_tuple, tabBool_list, tabBool_dict, tabTuple_NoneType, tabTuple_bool, tabTuple_int, tabTuple_str, tabTuple_tuple, tabTuple_list, tabTuple_dict, tabStr_NoneType, tabStr_bool, tabStr_int, tabStr_str, tabStr_tuple, tabStr_list, tabStr_dict, tabList_NoneType, tabList_bool, tabList_int, tabList_str, tabList_tuple, tabList_list, tabList_dict, vw_tup, vw_lst, vw_int, vw_str, vw_bl, vw_non, get_ga, get_gb, set_ga, set_gb, range_2, gTru, decide_true, len_snoc, get_newS, set_newS, List.getLast?_concat, rng_two, List.dropLast_concat, List.flatten_cons, List.flatten_nil, Bool.false_eq_true, reduceIte, Bool.not_true, Bool.not_false, get_new, get_new1, set_new, set_new1, atI_back, atI_back2, Int.zero_add, itemsOf_tup, itemsOf_lst, itemsOf_ref, seqOf_lst, seqOf_ref, lenOf_tup, lenOf_lst, lenOf_ref, List.getElem?_cons_zero, List.getElem?_cons_succ, List.set_cons_zero, List.set_cons_succ, List.cons_append, List.nil_append, List.length_cons, List.length_nil, List.length_map, List.length_append, Nat.zero_add, atI_0, atI_1, atI_2, atI_3, ixN_0, ixN_1, Option.bind_some, Option.map_some, Bool.xor_false, Bool.xor_true, startD, DL.isNon, List.map_cons, List.map_nil, List.replicate_succ, List.replicate_zero, List.append_nil, Nat.reduceAdd, Nat.reduceSub, Int.reduceToNat, Int.reducePow, Int.reduceNeg, Int.reduceSub, Int.reduceAdd, Int.reduceMul, wipeD]) | (with_reducible conv => whnf); (with_reducible refine And.intro ?side ?_); (case side => first | (with_reducible assumption) | (with_reducible rfl) | omega | decide | (exact ⟨by omega, by omega, by omega⟩) | (exact ⟨by omega, by omega⟩) | (unfold CMul; omega) | (exact ⟨_, get_new _ _⟩) | (exact ⟨_, get_new1 _ _ _⟩) | (exact ⟨_, get_newS _ _ _⟩) | (exact ⟨_, get_ga _ _ _ _⟩) | (exact ⟨_, get_gb _ _ _ _ _⟩) | (exact ⟨_, rfl⟩)))); (with_reducible conv => whnf)))
local macro_rules | `(tactic| walk_at "go4") => `(tactic| ((repeat (first | (simp only [dSeq, dAsg, dBin, dUn, dVar, dC, dNil, dCons, dApp, dTru, dBl, dAnd, dOr, dNot, dAndV, dOrV, dNotV, dIf, dIfS, dNext, dDrop, dRet, dRetN, dPar, dPar3, dgName, dgNil, dgCons, dgTup, dgSub, dTup, dLst, dLstM, dStar, dSl, dSlS, dNoPart, dPart, dMt, dMt0, stApp, stPop, dExt, diEnum, diEnum2, diEnumR, gMulA, dChain, dCall, dIsi, dYes, diSeq, diStr, dM1, dIsiC, gEqI, dgStar1L, dNeverE, dOrT, diR1, diR2, diR3, diZip, g1, g2I, gI0, gInt, gAdd, gMul, gMulM, gAddM, gNeg, gLen, lenOf, gTuple, gList, gAbs, gIx, gSl, gTru, gIsN, gInt1, gStrI, seqOf, itemsOf, spF, List.map_cons, List.map_nil, List.length_cons, List.length_nil, List.append_nil, List.cons_append, List.nil_append, List.getElem?_cons_zero, List.getElem?_cons_succ, List.set_cons_zero, List.set_cons_succ, Nat.reduceAdd, Nat.reduceSub, Option.bind_some, Option.map_some, Bool.xor_false, Bool.xor_true, dRevT, lk_states, lk_tables, lk_notes, lk_standing, lk_watching, seqDs_lt, seqDs_tt, seqDs_tl, seqDs_ll, seqD_tup, seqD_lst, tyNm_non, tyNm_bl, tyNm_int, tyNm_str, tyNm_tup, tyNm_lst, tyNm_dct, tabInt_NoneType, tabInt_bool, tabInt_int, tabInt_str, tabInt_tuple, tabInt_list, tabInt_dict, tabBool_NoneType, tabBool_bool, tabBool_int, tabBool_str, tabBool_tuple, tabBool_list, tabBool_dict, tabTuple_NoneType, tabTuple_bool, tabTuple_int, tabTuple_str, tabTuple_tuple, tabTuple_list, tabTuple_dict, tabStr_NoneType, tabStr_bool, tabStr_int, tabStr_str, tabStr_tuple, tabStr_list, tabStr_dict, tabList_NoneType, tabList_bool, tabList_int, tabList_str, tabList_tuple, tabList_list, tabList_dict, vw_tup, vw_lst, vw_int, vw_str, vw_bl, vw_non, get_ga, get_gb, set_ga, set_gb, range_2, decide_true, len_snoc, get_newS, set_newS, List.getLast?_concat, rng_two, List.dropLast_concat, Bool.false_eq_true, reduceIte, Bool.not_true, Bool.not_false, get_new, get_new1, set_new, set_new1, atI_back, atI_back2, Int.zero_add, itemsOf_tup, itemsOf_lst, itemsOf_ref, seqOf_lst, seqOf_ref, lenOf_tup, lenOf_lst, lenOf_ref, List.length_map, List.length_append, Nat.zero_add, atI_0, atI_1, atI_2, atI_3, ixN_0, ixN_1, DL.isNon, Int.reduceToNat, Int.reducePow, Int.reduceNeg, Int.reduceSub, Int.reduceAdd, Int.reduceMul]) | (with_reducible refine And.intro ?side ?_); (case side => first | (with_reducible assumption) | (with_reducible rfl) | omega | decide | (exact ⟨by omega, by omega, by omega⟩) | (exact ⟨by omega, by omega⟩) | (unfold CMul; omega) | (exact ⟨_, get_new _ _⟩) | (exact ⟨_, get_new1 _ _ _⟩) | (exact ⟨_, get_newS _ _ _⟩) | (exact ⟨_, get_ga _ _ _ _⟩) | (exact ⟨_, get_gb _ _ _ _ _⟩) | (exact ⟨_, rfl⟩))))))
local macro_rules | `(tactic| walk_at "go3") => `(tactic| ((repeat (first | (with_reducible conv => whnf); (simp only [lk_states, lk_tables, lk_notes, lk_standing, lk_watching, seqDs_lt, seqDs_tt, seqDs_tl, seqDs_ll, seqD_tup, seqD_lst, tyNm_non, tyNm_bl, tyNm_int, tyNm_str, tyNm_tup, tyNm_lst, tyNm_dct, tabInt_NoneType, tabInt_bool, tabInt_int, tabInt_str, tabInt_tuple, tabInt_list, tabInt_dict, tabBool_NoneType, tabBool_bool, tabBool_int, tabBool_str, tabBool_tuple, tabBool_list, tabBool_dict, tabTuple_NoneType, tabTuple_bool, tabTuple_int, tabTuple_str, tabTuple_tuple, tabTuple_list, tabTuple_dict, tabStr_NoneType, tabStr_bool, tabStr_int, tabStr_str, tabStr_tuple, tabStr_list, tabStr_dict, tabList_NoneType, tabList_bool, tabList_int, tabList_str, tabList_tuple, tabList_list, tabList_dict, vw_tup, vw_lst, vw_int, vw_str, vw_bl, vw_non, get_ga, get_gb, set_ga, set_gb, range_2, gTru, decide_true, len_snoc, get_newS, set_newS, List.getLast?_concat, rng_two, List.dropLast_concat, Bool.false_eq_true, reduceIte, Bool.not_true, Bool.not_false, get_new, get_new1, set_new, set_new1, atI_back, atI_back2, Int.zero_add, itemsOf_tup, itemsOf_lst, itemsOf_ref, seqOf_lst, seqOf_ref, lenOf_tup, lenOf_lst, lenOf_ref, List.getElem?_cons_zero, List.getElem?_cons_succ, List.set_cons_zero, List.set_cons_succ, List.cons_append, List.nil_append, List.length_cons, List.length_nil, List.length_map, List.length_append, Nat.zero_add, atI_0, atI_1, atI_2, atI_3, ixN_0, ixN_1, Option.bind_some, Option.map_some, Bool.xor_false, Bool.xor_true, startD, DL.isNon, List.map_cons, List.map_nil, List.append_nil, Nat.reduceAdd, Nat.reduceSub, Int.reduceToNat, Int.reducePow, Int.reduceNeg, Int.reduceSub, Int.reduceAdd, Int.reduceMul, wipeD]) | (with_reducible conv => whnf); (with_reducible refine And.intro ?side ?_); (case side => first | (with_reducible assumption) | (with_reducible rfl) | omega | decide | (exact ⟨by omega, by omega, by omega⟩) | (exact ⟨by omega, by omega⟩) | (unfold CMul; omega) | (exact ⟨_, get_new _ _⟩) | (exact ⟨_, get_new1 _ _ _⟩) | (exact ⟨_, get_newS _ _ _⟩) | (exact ⟨_, get_ga _ _ _ _⟩) | (exact ⟨_, get_gb _ _ _ _ _⟩) | (exact ⟨_, rfl⟩)))); (with_reducible conv => whnf)))
local macro_rules | `(tactic| walk_at "go2") => `(tactic| ((repeat (first | (with_reducible conv => whnf); (simp only [lk_states, lk_tables, lk_notes, lk_standing, lk_watching, seqDs_lt, seqDs_tt, seqDs_tl, seqDs_ll, seqD_tup, seqD_lst, tyNm_non, tyNm_bl, tyNm_int, tyNm_str, tyNm_tup, tyNm_lst, tyNm_dct, tabInt_NoneType, tabInt_bool, tabInt_int, tabInt_str, tabInt_tuple, tabInt_list, tabInt_dict, tabBool_NoneType, tabBool_bool, tabBool_int, tabBool_str, tabBool_tuple, tabBool_list, tabBool_dict, tabTuple_NoneType, tabTuple_bool, tabTuple_int, tabTuple_str, tabTuple_tuple, tabTuple_list, tabTuple_dict, tabStr_NoneType, tabStr_bool, tabStr_int, tabStr_str, tabStr_tuple, tabStr_list, tabStr_dict, tabList_NoneType, tabList_bool, tabList_int, tabList_str, tabList_tuple, tabList_list, tabList_dict, vw_tup, vw_lst, vw_int, vw_str, vw_bl, vw_non, get_ga, get_gb, set_ga, set_gb, range_2, gTru, decide_true, len_snoc, get_newS, set_newS, List.getLast?_concat, rng_two, List.dropLast_concat, List.flatten_cons, List.flatten_nil, Bool.false_eq_true, reduceIte, Bool.not_true, Bool.not_false, get_new, get_new1, set_new, set_new1, atI_back, atI_back2, Int.zero_add, itemsOf_tup, itemsOf_lst, itemsOf_ref, seqOf_lst, seqOf_ref, lenOf_tup, lenOf_lst, lenOf_ref, List.getElem?_cons_zero, List.getElem?_cons_succ, List.set_cons_zero, List.set_cons_succ, List.cons_append, List.nil_append, List.length_cons, List.length_nil, List.length_map, List.length_append, Nat.zero_add, atI_0, atI_1, atI_2, atI_3, ixN_0, ixN_1, Option.bind_some, Option.map_some, Bool.xor_false, Bool.xor_true, startD, DL.isNon, List.map_cons, List.map_nil, List.replicate_succ, List.replicate_zero, List.append_nil, Nat.reduceAdd, Nat.reduceSub, Int.reduceToNat, Int.reducePow, Int.reduceNeg, Int.reduceSub, Int.reduceAdd, Int.reduceMul, wipeD, get_dkA, get_dkB, get_dkC, set_dkA, set_dkB, set_dkC, intsOf_ints, eqv_tabs]) | (with_reducible conv => whnf); (with_reducible refine And.intro ?side ?_); (case side => first | (with_reducible assumption) | (with_reducible rfl) | omega | decide | (exact ⟨by omega, by omega, by omega⟩) | (exact ⟨by omega, by omega⟩) | (unfold CMul; omega) | (exact ⟨_, get_new _ _⟩) | (exact ⟨_, get_new1 _ _ _⟩) | (exact ⟨_, get_newS _ _ _⟩) | (exact ⟨_, get_ga _ _ _ _⟩) | (exact ⟨_, get_gb _ _ _ _ _⟩) | (exact ⟨_, get_dkA _ _ _ _ _⟩) | (exact ⟨_, get_dkB _ _ _ _ _ _⟩) | (exact ⟨_, get_dkC _ _ _ _ _ _ _⟩) | (exact ⟨_, rfl⟩)))); (with_reducible conv => whnf)))
def topS (i : Nat) : Stmt := PySem.Challenge.pw_marktopples_k63_whole_texts_there_and_ba.main.body.getD i (.Pass ⟨0, 0, 0, 0⟩)
abbrev s_is_number : Stmt := topS 9
theorem sc_is_number : FnScope ["value", "low", "high"] ["value", "low", "high"] (defScope s_is_number) := ⟨rfl, rfl, rfl, by decide +kernel, rfl, by decide +kernel, by decide +kernel⟩
abbrev s_is_row : Stmt := topS 10
theorem sc_is_row : FnScope ["index", "value"] ["index", "value"] (defScope s_is_row) := ⟨rfl, rfl, rfl, by decide +kernel, rfl, by decide +kernel, by decide +kernel⟩
abbrev s_is_mark : Stmt := topS 11
theorem sc_is_mark : FnScope ["tree", "value"] ["tree", "value"] (defScope s_is_mark) := ⟨rfl, rfl, rfl, by decide +kernel, rfl, by decide +kernel, by decide +kernel⟩
abbrev s_hung : Stmt := topS 12
theorem sc_hung : FnScope ["tree", "mark", "length"] ["tree", "mark", "length"] (defScope s_hung) := ⟨rfl, rfl, rfl, by decide +kernel, rfl, by decide +kernel, by decide +kernel⟩
abbrev s_is_tick : Stmt := topS 14
theorem sc_is_tick : FnScope ["value"] ["value"] (defScope s_is_tick) := ⟨rfl, rfl, rfl, by decide +kernel, rfl, by decide +kernel, by decide +kernel⟩
abbrev s_is_push : Stmt := topS 15
theorem sc_is_push : FnScope ["tree", "value"] ["tree", "value"] (defScope s_is_push) := ⟨rfl, rfl, rfl, by decide +kernel, rfl, by decide +kernel, by decide +kernel⟩
abbrev s_parse_number : Stmt := topS 20
theorem sc_parse_number : FnScope ["word", "figure"] ["word"] (defScope s_parse_number) := ⟨rfl, rfl, rfl, by decide +kernel, rfl, by decide +kernel, by decide +kernel⟩
abbrev s_parse_two : Stmt := topS 21
theorem sc_parse_two : FnScope ["word", "mark", "head", "found", "tail", "numbers"] ["word", "mark"] (defScope s_parse_two) := ⟨rfl, rfl, rfl, by decide +kernel, rfl, by decide +kernel, by decide +kernel⟩
abbrev s_push_text : Stmt := topS 22
theorem sc_push_text : FnScope ["push", "mark", "tick"] ["push"] (defScope s_push_text) := ⟨rfl, rfl, rfl, by decide +kernel, rfl, by decide +kernel, by decide +kernel⟩
abbrev s_field_text : Stmt := topS 23
theorem sc_field_text : FnScope ["tree", "pushes", "rows", "parent", "length", "push"] ["tree", "pushes"] (defScope s_field_text) := ⟨rfl, rfl, rfl, by decide +kernel, rfl, by decide +kernel, by decide +kernel⟩
abbrev s_parse_rows : Stmt := topS 24
theorem sc_parse_rows : FnScope ["words", "tree", "index", "word", "row"] ["words"] (defScope s_parse_rows) := ⟨rfl, rfl, rfl, by decide +kernel, rfl, by decide +kernel, by decide +kernel⟩
abbrev s_parse_field : Stmt := topS 25
theorem sc_parse_field : FnScope ["value", "words", "ends", "index", "end", "tree", "pushes", "push", "word"] ["value"] (defScope s_parse_field) := ⟨rfl, rfl, rfl, by decide +kernel, rfl, by decide +kernel, by decide +kernel⟩
abbrev s__law_deck : Stmt := topS 27
theorem sc__law_deck : FnScope ["_law_script", "_law_cell"] ["_law_script"] (defScope s__law_deck) := ⟨rfl, rfl, rfl, by decide +kernel, rfl, by decide +kernel, by decide +kernel⟩
abbrev s__law_draw : Stmt := topS 28
theorem sc__law_draw : FnScope ["_law_deck_here", "_law_many", "_law_cell", "_law_place"] ["_law_deck_here", "_law_many"] (defScope s__law_draw) := ⟨rfl, rfl, rfl, by decide +kernel, rfl, by decide +kernel, by decide +kernel⟩
abbrev s__law_same : Stmt := topS 29
theorem sc__law_same : FnScope ["_law_found", "_law_due", "_law_one", "_law_other"] ["_law_found", "_law_due"] (defScope s__law_same) := ⟨rfl, rfl, rfl, by decide +kernel, rfl, by decide +kernel, by decide +kernel⟩
abbrev s__law_tree : Stmt := topS 30
theorem sc__law_tree : FnScope ["_law_deck_here", "_law_most", "_law_long", "_law_n", "_law_way", "_law_parents", "_law_k", "_law_parent"] ["_law_deck_here", "_law_most", "_law_long"] (defScope s__law_tree) := ⟨rfl, rfl, rfl, by decide +kernel, rfl, by decide +kernel, by decide +kernel⟩
abbrev s__law_pushes : Stmt := topS 31
theorem sc__law_pushes : FnScope ["_law_deck_here", "_law_tree_here", "_law_most", "_law_late", "_law_found", "_law_k", "_law_push"] ["_law_deck_here", "_law_tree_here", "_law_most", "_law_late"] (defScope s__law_pushes) := ⟨rfl, rfl, rfl, by decide +kernel, rfl, by decide +kernel, by decide +kernel⟩
abbrev s__law_state : Stmt := topS 32
theorem sc__law_state : FnScope ["_law_deck_here", "_law_marks", "_law_most", "_law_far", "_law_tree_here"] ["_law_deck_here", "_law_marks", "_law_most"] (defScope s__law_state) := ⟨rfl, rfl, rfl, by decide +kernel, rfl, by decide +kernel, by decide +kernel⟩
abbrev s__law_bent : Stmt := topS 33
theorem sc__law_bent : FnScope ["_law_deck_here", "_law_text", "_law_words", "_law_at", "_law_way", "_law_place", "_law_sign"] ["_law_deck_here", "_law_text"] (defScope s__law_bent) := ⟨rfl, rfl, rfl, by decide +kernel, rfl, by decide +kernel, by decide +kernel⟩
abbrev s__law_accepted_right : Stmt := topS 34
theorem sc__law_accepted_right : FnScope ["_law_text", "_law_found"] ["_law_text"] (defScope s__law_accepted_right) := ⟨rfl, rfl, rfl, by decide +kernel, rfl, by decide +kernel, by decide +kernel⟩
abbrev s__law_words_right : Stmt := topS 35
theorem sc__law_words_right : FnScope ["_law_deck_here", "_law_tree_here", "_law_pushes_here", "_law_words", "_law_rows", "_law_cut", "_law_parts", "_law_mark", "_law_length", "_law_more"] ["_law_deck_here", "_law_tree_here", "_law_pushes_here"] (defScope s__law_words_right) := ⟨rfl, rfl, rfl, by decide +kernel, rfl, by decide +kernel, by decide +kernel⟩
abbrev s_law : Stmt := topS 36
theorem sc_law : FnScope ["_law_script", "_law_deck_here", "_law_turn", "_law_tree_here", "_law_pushes_here", "_law_text", "_law_k", "_law_once"] ["_law_script"] (defScope s_law) := ⟨rfl, rfl, rfl, by decide +kernel, rfl, by decide +kernel, by decide +kernel⟩
abbrev si_BadText : Stmt := (cdBody (topS 7)).getD 0 (.Pass ⟨0, 0, 0, 0⟩)
theorem sci_BadText : FnScope ["self", "index"] ["self", "index"] (defScope si_BadText) := ⟨rfl, rfl, rfl, by decide +kernel, rfl, by decide +kernel, by decide +kernel⟩
structure Tp (K : PySem.W.Frag) (mg : Str → Option Value) : Prop where
  bn : Bn mg
  d_is_number : Df K mg "is_number" s_is_number
  d_is_row : Df K mg "is_row" s_is_row
  d_is_mark : Df K mg "is_mark" s_is_mark
  d_hung : Df K mg "hung" s_hung
  d_is_tick : Df K mg "is_tick" s_is_tick
  d_is_push : Df K mg "is_push" s_is_push
  d_parse_number : Df K mg "parse_number" s_parse_number
  d_parse_two : Df K mg "parse_two" s_parse_two
  d_push_text : Df K mg "push_text" s_push_text
  d_field_text : Df K mg "field_text" s_field_text
  d_parse_rows : Df K mg "parse_rows" s_parse_rows
  d_parse_field : Df K mg "parse_field" s_parse_field
  d__law_deck : Df K mg "_law_deck" s__law_deck
  d__law_draw : Df K mg "_law_draw" s__law_draw
  d__law_same : Df K mg "_law_same" s__law_same
  d__law_tree : Df K mg "_law_tree" s__law_tree
  d__law_pushes : Df K mg "_law_pushes" s__law_pushes
  d__law_state : Df K mg "_law_state" s__law_state
  d__law_bent : Df K mg "_law_bent" s__law_bent
  d__law_accepted_right : Df K mg "_law_accepted_right" s__law_accepted_right
  d__law_words_right : Df K mg "_law_words_right" s__law_words_right
  d_law : Df K mg "law" s_law
  k_BEHIND : ∃ t, mg "BEHIND" = some (.str ";" t)
  k_FIGURES : ∃ t, mg "FIGURES" = some (.str "0123456789" t)
  k_LONGEST : ∃ t, mg "LONGEST" = some (.int 10 t)
  k_MAX_LENGTH : ∃ t, mg "MAX_LENGTH" = some (.int 1000000 t)
  k_MAX_MARKS : ∃ t, mg "MAX_MARKS" = some (.int 12 t)
  k_MAX_PUSHES : ∃ t, mg "MAX_PUSHES" = some (.int 20 t)
  k_MAX_TICK : ∃ t, mg "MAX_TICK" = some (.int 1000000000 t)
  g_BadText : mg "BadText" = some (.ref (cls mg "BadText"))
  g_FallError : mg "FallError" = some (.ref (cls mg "FallError"))
  f_BadText : EcF K (cls mg "BadText") "index"
  i_BadText : ExI K (cls mg "BadText")
  m_BadText_BadText : PySem.W.exmOne K (.ref (cls mg "BadText")) (.ref (cls mg "BadText")) = some true
set_option pp.maxSteps 300
set_option pp.deepTerms false
def hXs_0 : List (Str) := ["is_number", "is_row", "is_mark", "hung", "is_tick", "is_push", "parse_number", "parse_two", "push_text", "field_text", "parse_rows", "parse_field", "_law_deck", "_law_draw", "_law_same", "_law_tree", "_law_pushes", "_law_state", "_law_bent", "_law_accepted_right", "_law_words_right", "law", "BadText", "FallError"]
def hXs : List (Str) := hXs_0
def hMs_0 : List (Str) := ["__init__"]
def hMs : List (Str) := hMs_0
def hCk_0 : List (PySem.W.Frag → Bool) := [fun K => (He.Fa.free "abs").ok K, fun K => (He.Fa.free "all").ok K, fun K => (He.Fa.free "any").ok K, fun K => (He.Fa.free "bool").ok K, fun K => (He.Fa.free "dict").ok K, fun K => (He.Fa.free "enumerate").ok K, fun K => (He.Fa.free "int").ok K, fun K => (He.Fa.free "isinstance").ok K, fun K => (He.Fa.free "len").ok K, fun K => (He.Fa.free "list").ok K, fun K => (He.Fa.free "max").ok K, fun K => (He.Fa.free "min").ok K, fun K => (He.Fa.free "range").ok K, fun K => (He.Fa.free "repr").ok K, fun K => (He.Fa.free "set").ok K, fun K => (He.Fa.free "sorted").ok K, fun K => (He.Fa.free "str").ok K, fun K => (He.Fa.free "sum").ok K, fun K => (He.Fa.free "tuple").ok K, fun K => (He.Fa.free "zip").ok K, fun K => (He.Fa.free "LookupError").ok K, fun K => (He.Fa.free "ValueError").ok K, fun K => (He.Fa.glo "is_number").ok K, fun K => (He.Fa.glo "is_row").ok K, fun K => (He.Fa.glo "is_mark").ok K, fun K => (He.Fa.glo "hung").ok K, fun K => (He.Fa.glo "is_tick").ok K, fun K => (He.Fa.glo "is_push").ok K, fun K => (He.Fa.glo "parse_number").ok K, fun K => (He.Fa.glo "parse_two").ok K]
def hCk_1 : List (PySem.W.Frag → Bool) := [fun K => (He.Fa.glo "push_text").ok K, fun K => (He.Fa.glo "field_text").ok K, fun K => (He.Fa.glo "parse_rows").ok K, fun K => (He.Fa.glo "parse_field").ok K, fun K => (He.Fa.glo "_law_deck").ok K, fun K => (He.Fa.glo "_law_draw").ok K, fun K => (He.Fa.glo "_law_same").ok K, fun K => (He.Fa.glo "_law_tree").ok K, fun K => (He.Fa.glo "_law_pushes").ok K, fun K => (He.Fa.glo "_law_state").ok K, fun K => (He.Fa.glo "_law_bent").ok K, fun K => (He.Fa.glo "_law_accepted_right").ok K, fun K => (He.Fa.glo "_law_words_right").ok K, fun K => (He.Fa.glo "law").ok K, gsB, fun K => (He.Fa.str "BEHIND" ";").ok K, fun K => (He.Fa.str "FIGURES" "0123456789").ok K, fun K => (He.Fa.int "LONGEST" 10).ok K, fun K => (He.Fa.int "MAX_LENGTH" 1000000).ok K, fun K => (He.Fa.int "MAX_MARKS" 12).ok K, fun K => (He.Fa.int "MAX_PUSHES" 20).ok K, fun K => (He.Fa.int "MAX_TICK" 1000000000).ok K, fun K => (He.Fa.glo "BadText").ok K, fun K => (He.Fa.glo "FallError").ok K, exiB "BadText", excB .value "BadText" "index", exmB "BadText" (.own "BadText") true]
def hCk : List (PySem.W.Frag → Bool) := hCk_0 ++ hCk_1
def hFn_0 : List (HDef) := [⟨fun K => He.ga K "is_number", "is_number", "is_number", s_is_number, []⟩, ⟨fun K => He.ga K "is_row", "is_row", "is_row", s_is_row, []⟩, ⟨fun K => He.ga K "is_mark", "is_mark", "is_mark", s_is_mark, []⟩, ⟨fun K => He.ga K "hung", "hung", "hung", s_hung, []⟩, ⟨fun K => He.ga K "is_tick", "is_tick", "is_tick", s_is_tick, []⟩, ⟨fun K => He.ga K "is_push", "is_push", "is_push", s_is_push, []⟩, ⟨fun K => He.ga K "parse_number", "parse_number", "parse_number", s_parse_number, []⟩, ⟨fun K => He.ga K "parse_two", "parse_two", "parse_two", s_parse_two, []⟩, ⟨fun K => He.ga K "push_text", "push_text", "push_text", s_push_text, []⟩, ⟨fun K => He.ga K "field_text", "field_text", "field_text", s_field_text, []⟩, ⟨fun K => He.ga K "parse_rows", "parse_rows", "parse_rows", s_parse_rows, []⟩, ⟨fun K => He.ga K "parse_field", "parse_field", "parse_field", s_parse_field, []⟩, ⟨fun K => He.ga K "_law_deck", "_law_deck", "_law_deck", s__law_deck, []⟩, ⟨fun K => He.ga K "_law_draw", "_law_draw", "_law_draw", s__law_draw, []⟩, ⟨fun K => He.ga K "_law_same", "_law_same", "_law_same", s__law_same, []⟩, ⟨fun K => He.ga K "_law_tree", "_law_tree", "_law_tree", s__law_tree, []⟩, ⟨fun K => He.ga K "_law_pushes", "_law_pushes", "_law_pushes", s__law_pushes, []⟩, ⟨fun K => He.ga K "_law_state", "_law_state", "_law_state", s__law_state, []⟩, ⟨fun K => He.ga K "_law_bent", "_law_bent", "_law_bent", s__law_bent, []⟩, ⟨fun K => He.ga K "_law_accepted_right", "_law_accepted_right", "_law_accepted_right", s__law_accepted_right, []⟩, ⟨fun K => He.ga K "_law_words_right", "_law_words_right", "_law_words_right", s__law_words_right, []⟩, ⟨fun K => He.ga K "law", "law", "law", s_law, []⟩, ⟨fun K => initA K "BadText", "__init__", "BadText.__init__", si_BadText, []⟩]
def hFn : List (HDef) := hFn_0
def hTs_0 : List (He.Tab) := []
def hTs : List (He.Tab) := hTs_0
def hLoose_0 : List (Str) := ["MAX_MARKS", "MAX_LENGTH", "MAX_TICK", "MAX_PUSHES", "FallError", "TooLarge", "BadText", "is_number", "is_row", "is_mark", "hung", "is_tick", "is_push", "FIGURES", "LONGEST", "BEHIND", "parse_number", "parse_two", "push_text", "field_text", "parse_rows", "parse_field", "_law_deck", "_law_draw", "_law_same", "_law_tree", "_law_pushes", "_law_state", "_law_bent", "_law_accepted_right"]
def hLoose_1 : List (Str) := ["_law_words_right"]
def hLoose : List (Str) := hLoose_0 ++ hLoose_1
abbrev hR : PySem.W.OpenRow := PySem.W.OpenLaw.row PySem.Challenge.rw_marktopples_k63_whole_texts_there_and_ba
abbrev hHook : PySem.W.Hook := hookH hXs hMs hCk hFn hTs
def hOb (s : PySem.W.SharedT) : AlH := obsHG hXs hMs hCk hFn hTs (HandSHeadRun.getT s)
theorem hOb_eq (s : PySem.W.SharedT) : hOb s = hHook.obs s.abs := obsHG_eq (HandSHeadRun.getT_eq s)
theorem hRun (w : World) : HandSHeadRun.RunEq hR (PySem.W.view hR.prog [36]) hHook hOb 12000 hLoose w := by
  intro os
  kernel_rfl
section
variable {P : Program} {w : World} {K : PySem.W.Frag} {mg : Str → Option Value} {base : Heap}
/-! ### numbers read -/
theorem figs : ("0123456789" : Str).cps.toList = [48, 49, 50, 51, 52, 53, 54, 55, 56, 57] := by decide +kernel
theorem fig_in (c : Nat) : decide (c ∈ ("0123456789" : Str).cps.toList) = isFig c := by
  rw [figs]
  unfold isFig
  rw [Bool.eq_iff_iff, decide_eq_true_iff, Bool.and_eq_true, decide_eq_true_iff, decide_eq_true_iff]
  simp only [List.mem_cons, List.not_mem_nil, or_false]
  omega
theorem one_zero (c : Nat) : decide ((⟨#[c]⟩ : Str) = "0") = decide (c = 48) := by
  have e : ("0" : Str) = ⟨#[48]⟩ := by decide +kernel
  rw [e]
  by_cases h : c = 48
  · subst h
    rw [decide_eq_true rfl, decide_eq_true rfl]
  · rw [decide_eq_false h, decide_eq_false]
    intro z
    have := congrArg TL.tl z
    exact h (List.cons.inj this).1
theorem is_zero (x : Str) : decide (x = "0") = decide (TL.tl x = [48]) := by
  have e : ("0" : Str) = ⟨#[48]⟩ := by decide +kernel
  rw [e]
  by_cases h : TL.tl x = [48]
  · rw [decide_eq_true h, decide_eq_true (TL.ext_tl h)]
  · rw [decide_eq_false h, decide_eq_false fun z => h (by rw [z])]
theorem sgn_bls (x : Str) (f : Nat → Bool) : blsOf ((TL.tl x).map fun c => D.bl (f c)) = some ((TL.tl x).map f) := by
  rw [show ((TL.tl x).map fun c => D.bl (f c)) = ((TL.tl x).map f).map D.bl by rw [List.map_map]; rfl, blsOf_map]
theorem numW_none1 {x : Str} (h : ¬ (1 ≤ x.length ∧ x.length ≤ 10)) : numW x = none := by
  unfold numW numQ
  rw [← TL.len_tl, if_neg fun z => h z.1]
theorem numW_none2 {x : Str} (h : (TL.tl x).all isFig = false) : numW x = none := by
  unfold numW numQ
  rw [if_neg fun z => by rw [h] at z; exact Bool.false_ne_true z.2.1]
theorem numW_none3 {x : Str} (h : (TL.tl x).head? = some 48) (h2 : TL.tl x ≠ [48]) : numW x = none := by
  unfold numW numQ
  rw [if_neg fun z => z.2.2 ⟨h, h2⟩]
theorem numW_some {x : Str} (h1 : 1 ≤ x.length ∧ x.length ≤ 10) (h2 : (TL.tl x).all isFig = true) (h3 : ¬ ((TL.tl x).head? = some 48 ∧ TL.tl x ≠ [48])) : numW x = some (NumText.digitsVal (TL.tl x)) := by
  unfold numW numQ
  rw [← TL.len_tl, if_pos ⟨h1, h2, h3⟩]
theorem numW_int {x : Str} (h1 : 1 ≤ x.length ∧ x.length ≤ 10) (h2 : (TL.tl x).all isFig = true) : intText? x = some ((NumText.digitsVal (TL.tl x) : Nat) : Int) := by
  refine PySem.intText_digits (fun c hc => isFig_iff.mp (List.all_eq_true.mp h2 c hc)) (fun z => ?_) (by omega)
  have : x.length = x.cps.toList.length := TL.len_tl x
  rw [z] at this
  simp at this
  omega
def spParseN : DSp := fun args M Q _ => ∃ (x : Str), args = [.str x] ∧ x.length ≤ 100000 ∧ Q (optN (numW x)) M
theorem c_parse_number (T : Tp K mg) : Cl P w K mg base "parse_number" (0 + 1) ["word"] spParseN := by
  obtain ⟨f, fd, F, hm⟩ := T.d_parse_number.ex
  have S := sc_parse_number
  have B := T.bn
  obtain ⟨t_FIGURES, m_FIGURES⟩ := T.k_FIGURES
  obtain ⟨t_LONGEST, m_LONGEST⟩ := T.k_LONGEST
  refine ⟨⟨f, fd, fnD F S (fun args M Q E h => by (repeat (obtain ⟨_, h⟩ := h)); subst_vars; rfl) (fun cdv A outer s H E hgd hr => ⟨_, (ds_cons (ds_if (DW.dt (dw_or (dt_not (dt_chain o_le o_le d_int (d_callB o_len (by rfl) B.len b_len (d_cons (dv 0) d_nil)) (d_glob (by rfl) m_LONGEST))) (dw_or1 (dt_not (dt_val (d_callB (o_all rfl) (by rfl) B.all b_all (d_cons (d_lcI (own := [("figure", 1)]) rfl S.nd (di_str (dv 0)) (blkOk_by (N := ["word", "figure"]) (sc := defScope s_parse_number) (by decide +kernel)) (by decide) (fun _ _ _ _ _ => (dgn 1 S.nd)) (fun _ _ _ _ _ => dts_nil) (fun _ _ _ _ _ => (d_cmp o_inS (dv 1) (d_globS (by rfl) m_FIGURES)))) d_nil))))))) (ds_one (ds_ret d_non)) ds_nil)
  (ds_one (ds_ret (d_if (DW.dt (dw_and (dt_cmp (o_eq hr.units) (d_ix (dv 0) d_int (fun _ _ => rfl)) d_str) (dw_and1 (dt_cmp (o_ne hr.units) (dv 0) d_str)))) d_non (d_callTy o_intS (by rfl) B.int b_int (d_cons (dv 0) d_nil)))))), fun args M Q E' hM hA h => ?_⟩), hm, F.kp, (F.binds (ps := ["word"]) fun _ _ _ _ _ _ us hl => match us, hl with | [_], _ => rfl)⟩, ?_⟩
  rotate_left
  · exact fun args M Q Q' E E' w _ ⟨x0, x1, x2, k⟩ => ⟨x0, x1, x2, w _ _ k⟩
  · obtain ⟨x, rfl, hx, k⟩ := h
    have hlen := TL.len_tl x
    walk_at "go1"
    by_cases h1 : 1 ≤ x.length
    case' neg =>
      rw [decide_eq_false (by omega)]
      rw [numW_none1 (fun z => h1 z.1)] at k
      walk_at "go1"
      exact See.keep k
    rw [decide_eq_true (by omega)]
    walk_at "go1"
    by_cases h2 : x.length ≤ 10
    case' neg =>
      rw [decide_eq_false (by omega)]
      rw [numW_none1 (fun z => h2 z.2)] at k
      walk_at "go1"
      exact See.keep k
    rw [decide_eq_true (by omega)]
    walk_at "go1"
    unfold signsD
    refine lc_mapL (fun c => D.str ⟨#[c]⟩) (fun c => D.bl (isFig c)) (L := TL.tl x) (st := stYes) (M := M) trivial (by omega) (fun c hc kk hk => ?_) ?_
    · walk_at "go1"
      refine ⟨c, rfl, ?_⟩
      rw [fig_in]
      exact hk
    walk_at "go1"
    rw [sgn_bls]
    walk_at "go1"
    rw [List.all_map]
    by_cases h3 : (TL.tl x).all isFig = true
    case' neg =>
      rw [show (TL.tl x).all (id ∘ isFig) = false from Bool.eq_false_iff.mpr h3]
      rw [numW_none2 (Bool.eq_false_iff.mpr h3)] at k
      walk_at "go1"
      exact See.keep k
    rw [show (TL.tl x).all (id ∘ isFig) = true from h3]
    obtain ⟨c, r, e⟩ : ∃ c r, TL.tl x = c :: r := by
      cases e : TL.tl x with
      | nil => rw [e] at hlen; simp at hlen; omega
      | cons c r => exact ⟨c, r, rfl⟩
    have eat : atI x.cps.toList 0 = some c := by
      show atI (TL.tl x) ((0 : Nat) : Int) = some c
      exact atI_of rfl (by rw [e]; rfl)
    have last : ∀ Q : DK, (¬ (c = 48 ∧ TL.tl x ≠ [48])) → (∀ n : Nat, numW x = some n → Q (.int (n : Int)) M) → gIntS (.str x) M Q := fun Q hc q => by
      refine ⟨_, numW_int ⟨h1, h2⟩ h3, by omega, q _ (numW_some ⟨h1, h2⟩ h3 ?_)⟩
      rintro ⟨z1, z2⟩
      rw [e] at z1
      exact hc ⟨Option.some.inj z1, z2⟩
    walk_at "go1"
    rw [eat]
    walk_at "go1"
    rw [one_zero]
    by_cases h4 : c = 48
    case' neg =>
      rw [decide_eq_false h4]
      walk_at "go1"
      refine last _ (fun z => h4 z.1) fun n hn => ?_
      rw [hn] at k
      walk_at "go1"
      exact See.keep k
    rw [decide_eq_true h4]
    walk_at "go1"
    rw [is_zero]
    by_cases h5 : TL.tl x = [48]
    · rw [decide_eq_true h5]
      walk_at "go1"
      refine last _ (fun z => z.2 h5) fun n hn => ?_
      rw [hn] at k
      walk_at "go1"
      exact See.keep k
    · rw [decide_eq_false h5]
      rw [numW_none3 (by rw [e, h4]; rfl) h5] at k
      walk_at "go1"
      exact See.keep k
/-! ### two numbers with a sign between them -/
def spParseT : DSp := fun args M Q _ => ∃ (x z : Str) (s : Nat), args = [.str x, .str z] ∧ TL.tl z = [s] ∧ x.length ≤ 100000 ∧ Q (twoD (twoW s x)) M
theorem two_par {x z : Str} {s : Nat} (hz : TL.tl z = [s]) : (∃ a b : Str, Txt.partition x z = (a, z, b) ∧ TL.par [s] [] (TL.tl x) = some (TL.tl a, TL.tl b)) ∨ (Txt.partition x z = (x, Str.empty, Str.empty) ∧ TL.par [s] [] (TL.tl x) = none) := by
  have h := TL.partition_par x z (by rw [hz]; simp)
  rw [hz] at h
  cases e : TL.par [s] [] (TL.tl x) with
  | none => rw [e] at h; exact .inr ⟨h, rfl⟩
  | some p =>
    obtain ⟨a, b⟩ := p
    rw [e] at h
    exact .inl ⟨⟨a.toArray⟩, ⟨b.toArray⟩, h, rfl⟩
theorem par_len {x a b : Str} {s : Nat} (h : TL.par [s] [] (TL.tl x) = some (TL.tl a, TL.tl b)) : a.length ≤ x.length ∧ b.length ≤ x.length := by
  obtain ⟨p, e1, e2, _⟩ := par_sum h
  rw [List.nil_append] at e1
  rw [TL.len_tl, TL.len_tl, TL.len_tl, e2, e1, List.length_append, List.length_cons]
  omega
theorem c_parse_two (T : Tp K mg) : Cl P w K mg base "parse_two" (1 + 1) ["word", "mark"] spParseT := by
  obtain ⟨f, fd, F, hm⟩ := T.d_parse_two.ex
  have S := sc_parse_two
  have B := T.bn
  have c_parse_number := @c_parse_number P w K mg base T
  refine ⟨⟨f, fd, fnD F S (fun args M Q E h => by (repeat (obtain ⟨_, h⟩ := h)); subst_vars; rfl) (fun cdv A outer s H E hgd hr => ⟨_, (ds_cons (ds_asg (d_partition (dv 0) (dv 1)) (dg_tupL (n := 3) rfl (dgs_cons (dgn 2 S.nd) (dgs_cons (dgn 3 S.nd) (dgs_cons (dgn 4 S.nd) dgs_nil)))))
  (ds_cons (dss 5 S.nd (d_tup (d_cons (d_cl c_parse_number hgd (hr.mono (by first | decide | omega)) (d_cons (dv 2) d_nil)) (d_cons (d_cl c_parse_number hgd (hr.mono (by first | decide | omega)) (d_cons (dv 4) d_nil)) d_nil))))
  (ds_one (ds_ret (d_if (DW.dt (dw_and (dt_cmp (o_ne hr.units) (dv 3) d_str) (dw_and1 (dt_cmp (o_notin hr.units) d_non (dv 5))))) (dv 5) d_non))))), fun args M Q E' hM hA h => ?_⟩), hm, F.kp, (F.binds (ps := ["word", "mark"]) fun _ _ _ _ _ _ us hl => match us, hl with | [_, _], _ => rfl)⟩, ?_⟩
  rotate_left
  · exact fun args M Q Q' E E' w _ ⟨x0, x1, x2, x3, x4, x5, k⟩ => ⟨x0, x1, x2, x3, x4, x5, w _ _ k⟩
  · obtain ⟨x, z, s, rfl, hz, hx, k⟩ := h
    walk_at "go1"
    refine ⟨?_, by rw [sizeLine_eq]; omega, ?_⟩
    · have := TL.len_tl z
      rw [hz] at this
      rw [this]
      rfl
    rcases two_par (x := x) hz with ⟨a, b, h1, h2⟩ | ⟨h1, h2⟩
    · obtain ⟨la, lb⟩ := par_len h2
      rw [h1]
      dsimp only
      walk_at "go1"
      refine ⟨a, rfl, by omega, ?_⟩
      walk_at "go1"
      refine ⟨b, rfl, by omega, ?_⟩
      walk_at "go1"
      rw [decide_eq_false (fun e => by rw [e, show TL.tl ("" : Str) = [] by decide +kernel] at hz; exact nomatch hz)]
      have hk : twoW s x = (match numW a, numW b with | some m, some n => some (m, n) | _, _ => none) := by
        unfold twoW twoL
        rw [h2]
        rfl
      cases ha : numW a with
      | none =>
        rw [hk, ha] at k
        cases hb : numW b with
        | none =>
          walk_at "go1"
          exact See.keep k
        | some n =>
          walk_at "go1"
          exact See.keep k
      | some m =>
        cases hb : numW b with
        | none =>
          rw [hk, ha, hb] at k
          walk_at "go1"
          exact See.keep k
        | some n =>
          rw [hk, ha, hb] at k
          walk_at "go1"
          exact See.keep k
    · rw [h1]
      dsimp only
      walk_at "go1"
      refine ⟨x, rfl, hx, ?_⟩
      walk_at "go1"
      refine ⟨Str.empty, rfl, Nat.zero_le _, ?_⟩
      walk_at "go1"
      rw [show decide (Str.empty = ("" : Str)) = true by decide +kernel]
      have hk : twoW s x = none := by
        unfold twoW twoL
        rw [h2]
      rw [hk] at k
      walk_at "go1"
      exact See.keep k
theorem seq_mid {A B : DTS} {D : DEnds} {ρ : Dn} {M : Sto} (P : Dn → Sto → Prop) (h1 : ∀ nx : Dn → Sto → Prop, (∀ ρ' M', P ρ' M' → nx ρ' M') → A { D with nx := nx } ρ M) (h2 : ∀ ρ' M', P ρ' M' → B D ρ' M') : dSeq A B D ρ M := h1 (B D) h2
/-! ### rows and pushes read -/
def spIsNum : DSp := fun args M Q _ => ∃ (v lo hi : Int), args = [.int v, .int lo, .int hi] ∧ Q (.bl (decide (lo ≤ v ∧ v ≤ hi))) M
theorem c_is_number (T : Tp K mg) : Cl P w K mg base "is_number" (0 + 1) ["value", "low", "high"] spIsNum := by
  obtain ⟨f, fd, F, hm⟩ := T.d_is_number.ex
  have S := sc_is_number
  have B := T.bn
  refine ⟨⟨f, fd, fnD F S (fun args M Q E h => by (repeat (obtain ⟨_, h⟩ := h)); subst_vars; rfl) (fun cdv A outer s H E hgd hr => ⟨_, (ds_one (ds_ret (d_and (d_isi tab_int (by rfl) B.isinstance (by rfl) B.int b_int (dv 0)) (d_and (d_not (d_isi tab_bool (by rfl) B.isinstance (by rfl) B.bool b_bool (dv 0))) (d_one (d_chain o_le o_le (dv 1) (dv 0) (dv 2) (fun h1 h2 h3 h4 h5 => pe_chain h1 h2 h3 h4 h5))))))), fun args M Q E' hM hA h => ?_⟩), hm, F.kp, (F.binds (ps := ["value", "low", "high"]) fun _ _ _ _ _ _ us hl => match us, hl with | [_, _, _], _ => rfl)⟩, ?_⟩
  rotate_left
  · exact fun args M Q Q' E E' w _ ⟨x0, x1, x2, x3, k⟩ => ⟨x0, x1, x2, x3, w _ _ k⟩
  · obtain ⟨v, lo, hi, rfl, k⟩ := h
    walk_at "go1"
    by_cases h1 : lo ≤ v
    · rw [decide_eq_true h1]
      walk_at "go1"
      rw [show decide (v ≤ hi) = decide (lo ≤ v ∧ v ≤ hi) by simp [h1]]
      exact See.keep k
    · rw [decide_eq_false h1]
      walk_at "go1"
      rw [decide_eq_false (fun z => h1 z.1)] at k
      exact See.keep k
def spIsRow : DSp := fun args M Q _ => ∃ (i : Nat) (p : Nat × Nat), args = [natD i, rowD p] ∧ Q (.bl (decide (p.1 ≤ i ∧ 1 ≤ p.2 ∧ p.2 ≤ 1000000))) M
theorem c_is_row (T : Tp K mg) : Cl P w K mg base "is_row" (1 + 1) ["index", "value"] spIsRow := by
  obtain ⟨f, fd, F, hm⟩ := T.d_is_row.ex
  have S := sc_is_row
  have B := T.bn
  have c_is_number := @c_is_number P w K mg base T
  obtain ⟨t_MAX_LENGTH, m_MAX_LENGTH⟩ := T.k_MAX_LENGTH
  refine ⟨⟨f, fd, fnD F S (fun args M Q E h => by (repeat (obtain ⟨_, h⟩ := h)); subst_vars; rfl) (fun cdv A outer s H E hgd hr => ⟨_, (ds_cons (ds_if (DW.dt (dw_or (dt_not (dt_val (d_isi tab_tuple (by rfl) B.isinstance (by rfl) B.tuple b_tuple (dv 1)))) (dw_or1 (dt_cmp (o_ne hr.units) (d_callB o_len (by rfl) B.len b_len (d_cons (dv 1) d_nil)) d_int)))) (ds_one (ds_ret d_bl)) ds_nil)
  (ds_one (ds_ret (d_and (d_cl c_is_number hgd (hr.mono (by first | decide | omega)) (d_cons (d_ix (dv 1) d_int (fun _ _ => rfl)) (d_cons d_int (d_cons (dv 0) d_nil)))) (d_one (d_cl c_is_number hgd (hr.mono (by first | decide | omega)) (d_cons (d_ix (dv 1) d_int (fun _ _ => rfl)) (d_cons d_int (d_cons (d_glob (by rfl) m_MAX_LENGTH) d_nil))))))))), fun args M Q E' hM hA h => ?_⟩), hm, F.kp, (F.binds (ps := ["index", "value"]) fun _ _ _ _ _ _ us hl => match us, hl with | [_, _], _ => rfl)⟩, ?_⟩
  rotate_left
  · exact fun args M Q Q' E E' w _ ⟨x0, x1, x2, k⟩ => ⟨x0, x1, x2, w _ _ k⟩
  · obtain ⟨i, ⟨a, b⟩, rfl, k⟩ := h
    walk_at "go1"
    refine ⟨a, 0, i, rfl, ?_⟩
    by_cases h1 : a ≤ i
    · rw [decide_eq_true (show (0 : Int) ≤ (a : Int) ∧ (a : Int) ≤ (i : Int) by omega)]
      walk_at "go1"
      refine ⟨b, 1, 1000000, rfl, ?_⟩
      walk_at "go1"
      rw [show decide ((1 : Int) ≤ (b : Int) ∧ (b : Int) ≤ 1000000) = decide (a ≤ i ∧ 1 ≤ b ∧ b ≤ 1000000) from decide_eq_decide.mpr (by omega)]
      exact See.keep k
    · rw [decide_eq_false (show ¬ ((0 : Int) ≤ (a : Int) ∧ (a : Int) ≤ (i : Int)) by omega)]
      walk_at "go1"
      rw [decide_eq_false (fun z => h1 z.1)] at k
      exact See.keep k
def spIsMark : DSp := fun args M Q _ => ∃ (t : Tr) (v : Int), args = [treeD t, .int v] ∧ t.length ≤ 100000 ∧ Q (.bl (decide (0 ≤ v ∧ v ≤ t.length))) M
theorem c_is_mark (T : Tp K mg) : Cl P w K mg base "is_mark" (1 + 1) ["tree", "value"] spIsMark := by
  obtain ⟨f, fd, F, hm⟩ := T.d_is_mark.ex
  have S := sc_is_mark
  have B := T.bn
  have c_is_number := @c_is_number P w K mg base T
  refine ⟨⟨f, fd, fnD F S (fun args M Q E h => by (repeat (obtain ⟨_, h⟩ := h)); subst_vars; rfl) (fun cdv A outer s H E hgd hr => ⟨_, (ds_one (ds_ret (d_cl c_is_number hgd (hr.mono (by first | decide | omega)) (d_cons (dv 1) (d_cons d_int (d_cons (d_callB o_len (by rfl) B.len b_len (d_cons (dv 0) d_nil)) d_nil)))))), fun args M Q E' hM hA h => ?_⟩), hm, F.kp, (F.binds (ps := ["tree", "value"]) fun _ _ _ _ _ _ us hl => match us, hl with | [_, _], _ => rfl)⟩, ?_⟩
  rotate_left
  · exact fun args M Q Q' E E' w _ ⟨x0, x1, x2, x3, k⟩ => ⟨x0, x1, x2, x3, w _ _ k⟩
  · obtain ⟨t, v, rfl, ht, k⟩ := h
    walk_at "go1"
    exact ⟨v, 0, t.length, rfl, See.keep k⟩
def spIsTick : DSp := fun args M Q _ => ∃ (v : Int), args = [.int v] ∧ Q (.bl (decide (0 ≤ v ∧ v ≤ 1000000000))) M
theorem c_is_tick (T : Tp K mg) : Cl P w K mg base "is_tick" (1 + 1) ["value"] spIsTick := by
  obtain ⟨f, fd, F, hm⟩ := T.d_is_tick.ex
  have S := sc_is_tick
  have B := T.bn
  have c_is_number := @c_is_number P w K mg base T
  obtain ⟨t_MAX_TICK, m_MAX_TICK⟩ := T.k_MAX_TICK
  refine ⟨⟨f, fd, fnD F S (fun args M Q E h => by (repeat (obtain ⟨_, h⟩ := h)); subst_vars; rfl) (fun cdv A outer s H E hgd hr => ⟨_, (ds_one (ds_ret (d_cl c_is_number hgd (hr.mono (by first | decide | omega)) (d_cons (dv 0) (d_cons d_int (d_cons (d_glob (by rfl) m_MAX_TICK) d_nil)))))), fun args M Q E' hM hA h => ?_⟩), hm, F.kp, (F.binds (ps := ["value"]) fun _ _ _ _ _ _ us hl => match us, hl with | [_], _ => rfl)⟩, ?_⟩
  rotate_left
  · exact fun args M Q Q' E E' w _ ⟨x0, x1, k⟩ => ⟨x0, x1, w _ _ k⟩
  · obtain ⟨v, rfl, k⟩ := h
    walk_at "go1"
    exact ⟨v, 0, 1000000000, rfl, See.keep k⟩
def spIsPush : DSp := fun args M Q _ => ∃ (t : Tr) (p : Nat × Nat), args = [treeD t, rowD p] ∧ t.length ≤ 100000 ∧ Q (.bl (decide (p.1 ≤ t.length ∧ p.2 ≤ 1000000000))) M
theorem c_is_push (T : Tp K mg) : Cl P w K mg base "is_push" (2 + 1) ["tree", "value"] spIsPush := by
  obtain ⟨f, fd, F, hm⟩ := T.d_is_push.ex
  have S := sc_is_push
  have B := T.bn
  have c_is_mark := @c_is_mark P w K mg base T
  have c_is_tick := @c_is_tick P w K mg base T
  refine ⟨⟨f, fd, fnD F S (fun args M Q E h => by (repeat (obtain ⟨_, h⟩ := h)); subst_vars; rfl) (fun cdv A outer s H E hgd hr => ⟨_, (ds_one (ds_ret (d_and (d_isi tab_tuple (by rfl) B.isinstance (by rfl) B.tuple b_tuple (dv 1)) (d_and (d_cmp (o_eq hr.units) (d_callB o_len (by rfl) B.len b_len (d_cons (dv 1) d_nil)) d_int) (d_and (d_cl c_is_mark hgd (hr.mono (by first | decide | omega)) (d_cons (dv 0) (d_cons (d_ix (dv 1) d_int (fun _ _ => rfl)) d_nil))) (d_one (d_cl c_is_tick hgd (hr.mono (by first | decide | omega)) (d_cons (d_ix (dv 1) d_int (fun _ _ => rfl)) d_nil)))))))), fun args M Q E' hM hA h => ?_⟩), hm, F.kp, (F.binds (ps := ["tree", "value"]) fun _ _ _ _ _ _ us hl => match us, hl with | [_, _], _ => rfl)⟩, ?_⟩
  rotate_left
  · exact fun args M Q Q' E E' w _ ⟨x0, x1, x2, x3, k⟩ => ⟨x0, x1, x2, x3, w _ _ k⟩
  · obtain ⟨t, ⟨a, b⟩, rfl, ht, k⟩ := h
    walk_at "go1"
    refine ⟨t, a, rfl, ht, ?_⟩
    by_cases h1 : a ≤ t.length
    · rw [decide_eq_true (show (0 : Int) ≤ (a : Int) ∧ (a : Int) ≤ (t.length : Int) by omega)]
      walk_at "go1"
      refine ⟨b, rfl, ?_⟩
      walk_at "go1"
      rw [show decide ((0 : Int) ≤ (b : Int) ∧ (b : Int) ≤ 1000000000) = decide (a ≤ t.length ∧ b ≤ 1000000000) from decide_eq_decide.mpr (by omega)]
      exact See.keep k
    · rw [decide_eq_false (show ¬ ((0 : Int) ≤ (a : Int) ∧ (a : Int) ≤ (t.length : Int)) by omega)]
      walk_at "go1"
      rw [decide_eq_false (fun z => h1 z.1)] at k
      exact See.keep k
def spRows (mg : Str → Option Value) : DSp := fun args M Q E => ∃ (ws : List Str), args = [.lst (ws.map D.str)] ∧ ws.length ≤ 100000 ∧ (∀ w ∈ ws, w.length ≤ 100000 ∧ okS w) ∧ (∀ t, treeP ws = .inl t → Q (treeD t) M) ∧ (∀ i, treeP ws = .inr i → E (.ref (cls mg "BadText")) [("index", natD i)] M)
def catR (t : Tr) : Tr ⊕ Nat → Tr ⊕ Nat
  | .inl r => .inl (t ++ r)
  | .inr i => .inr i
def invRows (ws : List Str) (M0 : Sto) (X : DXS) : List D → List D → Dn → Sto → Prop := fun done todo ρ M => done ++ todo = enumD 0 (ws.map D.str) ∧ ∃ (t : Tr) (x2 x3 x4 : Option D), ρ = ⟨[some (.lst (ws.map D.str)), some (.ref M0.length), x2, x3, x4], X⟩ ∧ M = M0 ++ [.lst (t.map rowD)] ∧ t.length = done.length ∧ rowsP 0 ws = catR t (rowsP done.length (ws.drop done.length))
theorem c_parse_rows (T : Tp K mg) : Cl P w K mg base "parse_rows" (3 + 1) ["words"] (spRows mg) := by
  obtain ⟨f, fd, F, hm⟩ := T.d_parse_rows.ex
  have S := sc_parse_rows
  have B := T.bn
  have c_is_row := @c_is_row P w K mg base T
  have c_parse_two := @c_parse_two P w K mg base T
  obtain ⟨t_MAX_MARKS, m_MAX_MARKS⟩ := T.k_MAX_MARKS
  refine ⟨⟨f, fd, fnX F S (fun args M Q E h => by (repeat (obtain ⟨_, h⟩ := h)); subst_vars; rfl) (fun cdv A outer s H E hgd hr => ⟨_, (ds_cons (dss 1 S.nd (d_lstM d_nil))
  (ds_cons (ds_if (dt_cmp (o_eq hr.units) (dv 0) (d_lst (d_cons d_str d_nil))) (ds_one (ds_ret (d_tup d_nil))) ds_nil)
  (ds_cons (ds_forI (passes_of rfl) rfl (di_enum (by rfl) B.enumerate (d_cons (dv 0) d_nil)) (dg_tup (n := 2) rfl (dgs_cons (dgn 2 S.nd) (dgs_cons (dgn 3 S.nd) dgs_nil))) (ds_cons (dss 4 S.nd (d_cl c_parse_two hgd (hr.mono (by first | decide | omega)) (d_cons (dv 3) (d_cons d_str d_nil))))
  (ds_cons (ds_if (DW.dt (dw_or (dt_cmp o_isN (dv 4) d_non) (dw_or (dt_not (dt_val (d_cl c_is_row hgd (hr.mono (by first | decide | omega)) (d_cons (dv 2) (d_cons (dv 4) d_nil))))) (dw_or1 (dt_cmp (o_eq hr.units) (dv 2) (d_op o_sub (d_glob (by rfl) m_MAX_MARKS) d_int)))))) (ds_one (ds_raise T.f_BadText (hr.mono (by first | decide | omega)) T.g_BadText (d_cons (dv 2) d_nil))) ds_nil)
  (ds_one (ds_expr (d_append (dv 1) (d_cons (dv 4) d_nil)))))))
  (ds_one (ds_ret (d_callTy o_tuple (by rfl) B.tuple b_tuple (d_cons (dv 1) d_nil))))))), fun args M Q E' hM hA h => ?_⟩), hm, F.kp, (F.binds (ps := ["words"]) fun _ _ _ _ _ _ us hl => match us, hl with | [_], _ => rfl)⟩, ?_⟩
  rotate_left
  · exact fun args M Q Q' E E' w w' ⟨ws, a1, a2, a3, k1, k2⟩ => ⟨ws, a1, a2, a3, fun t h => w _ _ (k1 t h), fun i h => w' _ _ _ (k2 i h)⟩
  · obtain ⟨ws, rfl, hl, hw, k1, k2⟩ := h
    walk_at "go1"
    have hone : PlOk 1 (.lst [D.str ""]) := pl_strs (ws := [("" : Str)]) fun w hw => by rw [List.mem_singleton.mp hw]; exact okS_of ""
    refine ⟨(pl_strs fun w hx => (hw w hx).2).eqOk (by decide) _, hone.eqOk (by decide) _, ?_⟩
    rw [show PyData.eqv (toPy (.lst (ws.map D.str))) (toPy (.lst [D.str ""])) = decide (ws = [("" : Str)]) from eqv_strs ws [("" : Str)]]
    by_cases h1 : ws = [("" : Str)]
    · rw [decide_eq_true h1]
      walk_at "go1"
      exact See.drop rfl hM (k1 [] (by unfold treeP; rw [if_pos h1]))
    rw [decide_eq_false h1]
    have hk : treeP ws = rowsP 0 ws := by unfold treeP; rw [if_neg h1]
    rw [hk] at k1 k2
    walk_at "go1"
    refine ⟨invRows ws M (fun c fs x M' => SeeX M.length E' c fs M'), ⟨rfl, [], _, _, _, rfl, rfl, rfl, ?_⟩, fun _ _ _ _ _ => trivial, ?_, ?_⟩
    · rw [List.length_nil, List.drop_zero]
      cases rowsP 0 ws <;> rfl
    · rintro done d todo ρ M' ⟨e, t, x2, x3, x4, rfl, rfl, htl, hr⟩
      have e0 := e
      rw [enum_map] at e
      obtain ⟨q, hq, rfl, hlt⟩ := map_mid e
      obtain ⟨hq1, hq2⟩ := idx_at hq
      obtain ⟨x, i⟩ := q
      dsimp only at hq1 hq2
      subst hq1
      have hx := hw x (List.mem_of_getElem? hq2)
      have hlt2 := (List.getElem?_eq_some_iff.mp hq2).1
      rw [rowsP_at hq2] at hr
      walk_at "go1"
      refine ⟨x, ":", 58, rfl, by decide +kernel, hx.1, ?_⟩
      have bad : ∀ (h : rowsP 0 ws = .inr done.length), E' (.ref (cls mg "BadText")) [("index", natD done.length)] M := fun h => k2 _ h
      cases h2 : twoW 58 x with
      | none =>
        rw [h2] at hr
        have kb := bad hr
        walk_at "go1"
        exact SeeX.drop rfl hM kb
      | some p =>
        rw [h2] at hr
        dsimp only at hr
        walk_at "go1"
        refine ⟨done.length, p, rfl, ?_⟩
        by_cases h3 : p.1 ≤ done.length ∧ 1 ≤ p.2 ∧ p.2 ≤ 1000000
        case' neg =>
          rw [decide_eq_false h3]
          rw [if_neg (fun z => h3 ⟨z.1, z.2.1⟩)] at hr
          have kb := bad hr
          walk_at "go1"
          exact SeeX.drop rfl hM kb
        rw [decide_eq_true h3]
        walk_at "go1"
        by_cases h4 : done.length = 11
        · rw [if_neg (fun z => z.2.2 h4)] at hr
          have kb := bad hr
          rw [decide_eq_true (show (done.length : Int) = 11 by omega)]
          walk_at "go1"
          exact SeeX.drop rfl hM kb
        rw [if_pos ⟨h3.1, h3.2, h4⟩] at hr
        rw [decide_eq_false (show ¬ (done.length : Int) = 11 by omega)]
        walk_at "go1"
        refine ⟨by rw [← e0]; simp, t ++ [p], _, _, _, rfl, by rw [List.map_append]; rfl, by simp [htl], ?_⟩
        rw [hr, List.length_append, List.length_singleton]
        cases rowsP (done.length + 1) (ws.drop (done.length + 1)) with
        | inl r => show Sum.inl (t ++ p :: r) = Sum.inl (t ++ [p] ++ r); rw [List.append_assoc]; rfl
        | inr i => rfl
    · rintro done ρ M' ⟨e, t, x2, x3, x4, rfl, rfl, htl, hr⟩
      have hd : done.length = ws.length := by
        have := congrArg List.length e
        rw [List.append_nil, enumD_length, List.length_map] at this
        exact this
      rw [hd, List.drop_length] at hr
      have kf := k1 (t ++ []) hr
      rw [List.append_nil] at kf
      walk_at "go1"
      exact See.drop (bels_of fun d hd => by
        obtain ⟨q, _, rfl⟩ := List.mem_map.mp hd
        rfl) hM kf
/-! ### parse_field -/
def catP (t : Ps) : Ps ⊕ Nat → Ps ⊕ Nat
  | .inl r => .inl (t ++ r)
  | .inr i => .inr i
def invPushes (x : Str) (ws : List Str) (es : D) (x3 x8 : Option D) (e : Nat) (t : Tr) (M0 : Sto) (X : DXS) : List D → List D → Dn → Sto → Prop := fun done todo ρ M => done ++ todo = rng ((e : Int) + 1) ((ws.length : Int) - ((e : Int) + 1)).toNat ∧ ∃ (ps : Ps) (y3 y7 : Option D), ρ = ⟨[some (.str x), some (.lst (ws.map D.str)), some es, y3, some (natD e), some (treeD t), some (.ref M0.length), y7, x8], X⟩ ∧ M = M0 ++ [.lst (ps.map pushD)] ∧ ps.length = done.length ∧ pushP t.length 0 (ws.drop (e + 1)) = catP ps (pushP t.length done.length (ws.drop (e + 1 + done.length)))
def spField (mg : Str → Option Value) : DSp := fun args M Q E => ∃ (d : D), args = [d] ∧ od d = true ∧ (∀ x, d = .str x → x.length ≤ 90000 ∧ okS x) ∧ (∀ s, fieldV d = .inl s → Q (stateD s) M) ∧ (∀ i, fieldV d = .inr i → E (.ref (cls mg "BadText")) [("index", i)] M)
theorem c_parse_field (T : Tp K mg) : Cl P w K mg base "parse_field" (4 + 1) ["value"] (spField mg) := by
  obtain ⟨f, fd, F, hm⟩ := T.d_parse_field.ex
  have S := sc_parse_field
  have B := T.bn
  have c_is_push := @c_is_push P w K mg base T
  have c_parse_rows := @c_parse_rows P w K mg base T
  have c_parse_two := @c_parse_two P w K mg base T
  obtain ⟨t_BEHIND, m_BEHIND⟩ := T.k_BEHIND
  obtain ⟨t_MAX_PUSHES, m_MAX_PUSHES⟩ := T.k_MAX_PUSHES
  refine ⟨⟨f, fd, fnX F S (fun args M Q E h => by (repeat (obtain ⟨_, h⟩ := h)); subst_vars; rfl) (fun cdv A outer s H E hgd hr => ⟨_, (ds_cons (ds_if (dt_not (dt_val (d_isi tab_str (by rfl) B.isinstance (by rfl) B.str b_str (dv 0)))) (ds_one (ds_raise T.f_BadText (hr.mono (by first | decide | omega)) T.g_BadText (d_cons d_non d_nil))) ds_nil)
  (ds_cons (dss 1 S.nd (d_split (dv 0) d_str))
  (ds_cons (ds_setLcI (i := 2) (own := [("index", 3), ("word", 8)]) rfl S.nd rfl rfl (sw_true rfl rfl rfl (by decide +kernel)) (di_enum (by rfl) B.enumerate (d_cons (dv 1) d_nil)) (blkOk_by (N := ["value", "words", "ends", "index", "end", "tree", "pushes", "push", "word"]) (sc := defScope s_parse_field) (by decide +kernel)) (by decide) (fun _ _ _ _ _ => (dg_tup (n := 2) rfl (dgs_cons (dgn 3 S.nd) (dgs_cons (dgn 8 S.nd) dgs_nil)))) (fun _ _ _ _ _ => (dts_one (dt_val (d_endswith (dv 8) (d_globS (by rfl) m_BEHIND))))) (fun _ _ _ _ _ => (dv 3)))
  (ds_cons (ds_if (dt_cmp (o_eq hr.units) (dv 2) (d_lst d_nil)) (ds_one (ds_expr (d_cl c_parse_rows hgd (hr.mono (by first | decide | omega)) (d_cons (d_lst (d_star (dv 1) (d_cons d_str d_nil))) d_nil)))) ds_nil)
  (ds_cons (dss 4 S.nd (d_ix (dv 2) d_int (fun _ _ => rfl)))
  (ds_cons (dss 5 S.nd (d_cl c_parse_rows hgd (hr.mono (by first | decide | omega)) (d_cons (d_lst (d_star (d_slice (dv 1) do_none (do_some (dv 4))) (d_cons (d_slice (d_ix (dv 1) (dv 4) (fun _ _ => rfl)) do_none (do_some (d_un o_neg d_int))) d_nil))) d_nil)))
  (ds_cons (dss 6 S.nd (d_lstM d_nil))
  (ds_cons (ds_forI (passes_of rfl) rfl (di_range2 (by rfl) B.range (d_cons (d_op o_add (dv 4) d_int) (d_cons (d_callB o_len (by rfl) B.len b_len (d_cons (dv 1) d_nil)) d_nil))) (dgn 3 S.nd) (ds_cons (dss 7 S.nd (d_cl c_parse_two hgd (hr.mono (by first | decide | omega)) (d_cons (d_ix (dv 1) (dv 3) (fun _ _ => rfl)) (d_cons d_str d_nil))))
  (ds_cons (ds_if (DW.dt (dw_or (dt_cmp o_isN (dv 7) d_non) (dw_or (dt_not (dt_val (d_cl c_is_push hgd (hr.mono (by first | decide | omega)) (d_cons (dv 5) (d_cons (dv 7) d_nil))))) (dw_or1 (dt_cmp (o_eq hr.units) (d_callB o_len (by rfl) B.len b_len (d_cons (dv 6) d_nil)) (d_glob (by rfl) m_MAX_PUSHES)))))) (ds_one (ds_raise T.f_BadText (hr.mono (by first | decide | omega)) T.g_BadText (d_cons (dv 3) d_nil))) ds_nil)
  (ds_one (ds_expr (d_append (dv 6) (d_cons (dv 7) d_nil)))))))
  (ds_one (ds_ret (d_tup (d_cons (dv 5) (d_cons (d_callTy o_tuple (by rfl) B.tuple b_tuple (d_cons (dv 6) d_nil)) d_nil))))))))))))), fun args M Q E' hM hA h => ?_⟩), hm, F.kp, (F.binds (ps := ["value"]) fun _ _ _ _ _ _ us hl => match us, hl with | [_], _ => rfl)⟩, ?_⟩
  rotate_left
  · exact fun args M Q Q' E E' w w' ⟨d, a1, a2, a3, k1, k2⟩ => ⟨d, a1, a2, a3, fun t h => w _ _ (k1 t h), fun i h => w' _ _ _ (k2 i h)⟩
  · obtain ⟨d, rfl, hd, hx, k1, k2⟩ := h
    by_cases hs : ∃ x, d = .str x
    case' neg =>
      have hf : fieldV d = .inr .non := by
        cases d <;> first | rfl | exact absurd ⟨_, rfl⟩ hs
      have kb := k2 _ hf
      cases d with
      | str x => exact absurd ⟨_, rfl⟩ hs
      | ref _ => cases hd
      | scr _ => cases hd
      | exo _ _ _ _ _ => cases hd
      | _ =>
        walk_at "go1"
        exact SeeX.keep kb
    obtain ⟨x, rfl⟩ := hs
    obtain ⟨hl, hok⟩ := hx x rfl
    have hwl : ∀ w ∈ splW x, w.length ≤ 90000 ∧ okS w := fun w hw => ⟨Nat.le_trans (spl_len hw) hl, spl_okS hok hw⟩
    have hmany := spl_many x
    refine seq_mid (fun ρ M' => ρ = ⟨[some (.str x), none, none, none, none, none, none, none, none], fun c fs x M' => SeeX M.length E' c fs M'⟩ ∧ M' = M) (fun nx hnx => ?_) ?_
    · walk_at "go1"
      exact hnx _ _ ⟨rfl, rfl⟩
    rintro ρ M' ⟨rfl, rfl⟩
    refine seq_mid (fun ρ M'' => ρ = ⟨[some (.str x), some (.lst ((splW x).map D.str)), none, none, none, none, none, none, none], fun c fs x M'' => SeeX M'.length E' c fs M''⟩ ∧ M'' = M') (fun nx hnx => ?_) ?_
    · walk_at "go1"
      refine ⟨by decide +kernel, by rw [sizeLine_eq]; omega, ?_⟩
      walk_at "go1"
      exact hnx _ _ ⟨rfl, rfl⟩
    rintro ρ M ⟨rfl, rfl⟩
    have hf : fieldV (.str x) = (match fieldP x with | .inl s => .inl s | .inr i => .inr (natD i)) := rfl
    unfold fieldP at hf
    rw [hf] at k1 k2
    clear hf hx
    have hne := spl_ne x
    generalize splW x = ws at hwl hmany hne k1 k2 ⊢
    refine seq_mid (fun ρ M'' => ∃ x3 x8, ρ = ⟨[some (.str x), some (.lst (ws.map D.str)), some (.lst ((endsP ws).map natD)), x3, none, none, none, none, x8], fun c fs x M'' => SeeX M.length E' c fs M''⟩ ∧ M'' = M) (fun nx hnx => ?_) ?_
    · walk_at "go1"
      rw [enum_map]
      refine lc_filL (fun q : Str × Nat => D.tup [.int (0 + (q.2 : Int)), .str q.1]) (fun q => if endB q.1 = true then some (natD q.2) else none) (L := ws.zipIdx) (st := stYes) (M := M) trivial (by rw [List.length_zipIdx]; omega) (fun q hq kk hk => ?_) ?_
      · walk_at "go1"
        show (if endB q.1 = true then _ else _)
        by_cases hb : endB q.1 = true
        · rw [if_pos hb] at hk ⊢
          walk_at "go1"
          exact hk
        · rw [if_neg hb] at hk ⊢
          exact hk
      · rw [show ws.zipIdx.filterMap (fun q => if endB q.1 = true then some (natD q.2) else none) = (endsP ws).map natD by
          unfold endsP
          rw [List.map_filterMap]
          congr 1
          funext q
          split <;> rfl]
        walk_at "go1"
        exact hnx _ _ ⟨_, _, rfl, rfl⟩
    rintro ρ M' ⟨x3, x8, rfl, rfl⟩
    have hpl : Pl 1 (.lst ((endsP ws).map natD)) := .lst fun d hd => by
      obtain ⟨j, _, rfl⟩ := List.mem_map.mp hd
      exact .int _
    have hpn : Pl 1 (.lst []) := .lst (h := 0) fun d hd => nomatch hd
    refine seq_mid (fun ρ M'' => ρ = ⟨[some (.str x), some (.lst (ws.map D.str)), some (.lst ((endsP ws).map natD)), x3, none, none, none, none, x8], fun c fs x M'' => SeeX M'.length E' c fs M''⟩ ∧ M'' = M' ∧ endsP ws ≠ []) (fun nx hnx => ?_) ?_
    · walk_at "go1"
      refine ⟨hpl.eqOk (by decide) _, hpn.eqOk (by decide) _, ?_⟩
      rw [eqv_nil]
      by_cases he : endsP ws = []
      case' neg =>
        rw [decide_eq_false (fun z => he (List.map_eq_nil_iff.mp z))]
        walk_at "go1"
        exact hnx _ _ ⟨rfl, rfl, he⟩
      rw [decide_eq_true (by rw [he]; rfl)]
      obtain ⟨i, e1, e2⟩ := treeP_bad hne
      rw [he] at k2
      dsimp only at k2
      rw [e1] at k2
      dsimp only at k2
      have kb := k2 _ rfl
      walk_at "go1"
      refine ⟨ws ++ [("" : Str)], by rw [List.map_append]; rfl, by rw [List.length_append, List.length_singleton]; omega, fun w hw => ?_, fun t ht => ?_, fun j hj => ?_⟩
      · rcases List.mem_append.mp hw with hw | hw
        · have := hwl w hw; exact ⟨by omega, this.2⟩
        · rw [List.mem_singleton.mp hw]; exact ⟨by decide +kernel, okS_of ""⟩
      · rw [e2] at ht; cases ht
      · rw [e2] at hj; cases hj; exact SeeX.keep kb
    rintro ρ M ⟨rfl, rfl, he⟩
    obtain ⟨e, r, he⟩ : ∃ e r, endsP ws = e :: r := by
      cases h : endsP ws with
      | nil => exact absurd h he
      | cons e r => exact ⟨e, r, rfl⟩
    obtain ⟨hlt, hb⟩ := ends_at he
    rw [he] at k1 k2 ⊢
    dsimp only at k1 k2
    obtain ⟨hlt2, hge⟩ : ∃ h : e < ws.length, ws.getD e "" = ws[e] := ⟨hlt, by rw [List.getD_eq_getElem?_getD, List.getElem?_eq_getElem hlt]; rfl⟩
    rw [hge] at k1 k2
    have hwe := hwl ws[e] (List.getElem_mem hlt)
    have hat : atI (ws.map D.str) (e : Int) = some (.str ws[e]) := atI_of (j := e) rfl (by rw [List.getElem?_map, List.getElem?_eq_getElem hlt]; rfl)
    have hcut : cut (ws.map D.str) none (some (e : Int)) = (ws.take e).map D.str := by rw [cut_to, List.map_take]
    refine seq_mid (fun ρ M'' => ρ = ⟨[some (.str x), some (.lst (ws.map D.str)), some (.lst ((e :: r).map natD)), x3, some (natD e), none, none, none, x8], fun c fs x M'' => SeeX M.length E' c fs M''⟩ ∧ M'' = M) (fun nx hnx => ?_) ?_
    · walk_at "go1"
      exact hnx _ _ ⟨rfl, rfl⟩
    rintro ρ M' ⟨rfl, rfl⟩
    refine seq_mid (fun ρ M'' => ∃ t, ρ = ⟨[some (.str x), some (.lst (ws.map D.str)), some (.lst ((e :: r).map natD)), x3, some (natD e), some (treeD t), none, none, x8], fun c fs x M'' => SeeX M'.length E' c fs M''⟩ ∧ M'' = M' ∧ treeP (ws.take e ++ [lastOff ws[e]]) = .inl t) (fun nx hnx => ?_) ?_
    · walk_at "go1"
      rw [hcut]
      walk_at "go1"
      rw [hat]
      walk_at "go1"
      refine ⟨by rw [List.length_take]; omega, ?_⟩
      walk_at "go1"
      refine ⟨ws.take e ++ [lastOff ws[e]], by rw [List.map_append]; rfl, by rw [List.length_append, List.length_take, List.length_singleton]; omega, fun w hw => ?_, fun t ht => ?_, fun j hj => ?_⟩
      · rcases List.mem_append.mp hw with hw | hw
        · have := hwl w (List.mem_of_mem_take hw); exact ⟨by omega, this.2⟩
        · rw [List.mem_singleton.mp hw]
          refine ⟨by have := lastOff_sub ws[e]; omega, fun c hc => hwe.2 c ?_⟩
          rw [hge] at hb
          rw [endB_some hb]
          show c ∈ TL.tl (lastOff ws[e] ++ ";")
          rw [TL.tl_append]
          exact List.mem_append_left _ hc
      · walk_at "go1"
        exact hnx _ _ ⟨t, rfl, rfl, ht⟩
      · rw [hj] at k2
        exact SeeX.keep (k2 _ rfl)
    rintro ρ M ⟨t, rfl, rfl, ht⟩
    rw [ht] at k1 k2
    dsimp only at k1 k2
    have hto : t.length ≤ 11 := (rowsT_eq ht).2.1
    walk_at "go1"
    refine ⟨invPushes x ws (D.lst (natD e :: r.map natD)) x3 x8 e t M (fun c fs x M'' => SeeX M.length E' c fs M''), ⟨rfl, [], _, _, rfl, rfl, rfl, ?_⟩, fun _ _ _ _ _ => trivial, ?_, ?_⟩
    · rw [List.length_nil, Nat.add_zero]
      cases pushP t.length 0 (ws.drop (e + 1)) <;> rfl
    · rintro done d todo ρ M' ⟨e0, ps, y3, y7, rfl, rfl, hpl2, hr⟩
      obtain ⟨rfl, hlt3⟩ := rng_mid e0
      have hi : e + 1 + done.length < ws.length := by omega
      have hw3 := hwl ws[e + 1 + done.length] (List.getElem_mem hi)
      have hat3 : atI (ws.map D.str) ((e : Int) + 1 + (done.length : Int)) = some (.str ws[e + 1 + done.length]) := atI_of (j := e + 1 + done.length) (by omega) (by rw [List.getElem?_map, List.getElem?_eq_getElem hi]; rfl)
      rw [pushP_at (List.getElem?_eq_getElem hi)] at hr
      have bad : ∀ (h : pushP t.length 0 (ws.drop (e + 1)) = .inr done.length), E' (.ref (cls mg "BadText")) [("index", .int ((e : Int) + 1 + (done.length : Int)))] M := fun h => by
        rw [h] at k2
        exact k2 _ rfl
      walk_at "go1"
      rw [hat3]
      walk_at "go1"
      refine ⟨ws[e + 1 + done.length], "@", 64, rfl, by decide +kernel, by omega, ?_⟩
      cases h2 : twoW 64 ws[e + 1 + done.length] with
      | none =>
        rw [h2] at hr
        have kb := bad hr
        walk_at "go1"
        exact SeeX.drop rfl hM kb
      | some p =>
        rw [h2] at hr
        dsimp only at hr
        walk_at "go1"
        refine ⟨t, p, rfl, by omega, ?_⟩
        by_cases h3 : p.1 ≤ t.length ∧ p.2 ≤ 1000000000
        case' neg =>
          rw [decide_eq_false h3]
          rw [if_neg (fun z => h3 ⟨z.1, z.2.1⟩)] at hr
          have kb := bad hr
          walk_at "go1"
          exact SeeX.drop rfl hM kb
        rw [decide_eq_true h3]
        walk_at "go1"
        by_cases h4 : done.length = 20
        · rw [if_neg (fun z => z.2.2 h4)] at hr
          have kb := bad hr
          rw [decide_eq_true (show ((ps.length : Nat) : Int) = 20 by omega)]
          walk_at "go1"
          exact SeeX.drop rfl hM kb
        rw [if_pos ⟨h3.1, h3.2, h4⟩] at hr
        rw [decide_eq_false (show ¬ ((ps.length : Nat) : Int) = 20 by omega)]
        walk_at "go1"
        refine ⟨by rw [← e0]; simp, ps ++ [(p.1, (p.2 : Int))], _, _, rfl, by rw [List.map_append]; rfl, by simp [hpl2], ?_⟩
        rw [hr, List.length_append, List.length_singleton, show e + 1 + (done.length + 1) = e + 1 + done.length + 1 by omega]
        cases pushP t.length (done.length + 1) (ws.drop (e + 1 + done.length + 1)) with
        | inl r => show Sum.inl (ps ++ (p.1, (p.2 : Int)) :: r) = Sum.inl (ps ++ [(p.1, (p.2 : Int))] ++ r); rw [List.append_assoc]; rfl
        | inr i => rfl
    · rintro done ρ M' ⟨e0, ps, y3, y7, rfl, rfl, hpl2, hr⟩
      have hd2 : done.length = ((ws.length : Int) - ((e : Int) + 1)).toNat := by
        have := congrArg List.length e0
        rw [List.append_nil, rng_length] at this
        exact this
      rw [List.drop_eq_nil_of_le (show ws.length ≤ e + 1 + done.length by omega)] at hr
      have hr2 : pushP t.length 0 (ws.drop (e + 1)) = .inl (ps ++ []) := hr
      rw [List.append_nil] at hr2
      rw [hr2] at k1
      have kf := k1 _ rfl
      walk_at "go1"
      refine See.drop ?_ hM kf
      show (bel M.length (treeD t) && (bel M.length (psD ps) && true)) = true
      rw [show bel M.length (treeD t) = true from bels_of fun d hd => by
        obtain ⟨q, _, rfl⟩ := List.mem_map.mp hd
        rfl]
      rw [show bel M.length (psD ps) = true from bels_of fun d hd => by
        obtain ⟨q, _, rfl⟩ := List.mem_map.mp hd
        rfl]
      rfl
theorem fieldV_inl {x : Str} {s : FS} (h : fieldV (.str x) = .inl s) : fieldP x = .inl s := by
  replace h : (match fieldP x with | .inl s => Sum.inl s | .inr i => .inr (natD i)) = Sum.inl s := h
  cases e : fieldP x with
  | inl u => rw [e] at h; cases h; rfl
  | inr j => rw [e] at h; cases h
theorem fieldV_of {x : Str} {s : FS} (h : fieldP x = .inl s) : fieldV (.str x) = .inl s := by
  show (match fieldP x with | .inl s => Sum.inl s | .inr i => .inr (natD i)) = Sum.inl s
  rw [h]
/-! ### _law_same: a value and itself -/
def Dat : Nat → D → Prop
  | 0, d => d = .non ∨ (∃ i : Int, d = .int i) ∨ (∃ x : Str, d = .str x) ∨ ∃ b : Bool, d = .bl b
  | k + 1, d => (d = .non ∨ (∃ i : Int, d = .int i) ∨ (∃ x : Str, d = .str x) ∨ ∃ b : Bool, d = .bl b) ∨ ∃ ds : List D, d = .tup ds ∧ ds.length ≤ 100 ∧ ∀ x ∈ ds, Dat k x
def spSameV (k : Nat) : DSp := fun args M Q _ => ∃ (d : D), args = [d, d] ∧ Dat k d ∧ Q (.bl true) M
def spSameR : Nat → DSp
  | 0 => fun _ _ _ _ => False
  | k + 1 => spSameV k
theorem zip_same : ∀ ds : List D, zipD ds ds = ds.map fun x => D.tup [x, x]
  | [] => rfl
  | d :: ds => by
    show D.tup [d, d] :: zipD ds ds = _
    rw [zip_same ds]
    rfl
theorem c__law_same_none (T : Tp K mg) : Cl P w K mg base "_law_same" 0 ["_law_found", "_law_due"] (fun _ _ _ _ => False) := by
  obtain ⟨f, fd, F, hm⟩ := T.d__law_same.ex
  exact ⟨⟨f, fd, ⟨fun vs H Q E ⟨args, M, al, F, G, W, r, q⟩ => q.elim, fun A outer s H args us vs Q E hg hr e0 hb rv ⟨_, M, al, F, G, W, r, q⟩ => q.elim⟩, hm, F.kp, (F.binds (ps := ["_law_found", "_law_due"]) fun _ _ _ _ _ _ us hl => match us, hl with | [_, _], _ => rfl)⟩, fun _ _ _ _ _ _ _ _ h => h⟩
theorem c__law_same_g (T : Tp K mg) (c__law_same : Cl P w K mg base "_law_same" (kd) ["_law_found", "_law_due"] (spSameR kd)) : Cl P w K mg base "_law_same" ((kd) + 1) ["_law_found", "_law_due"] (spSameV kd) := by
  obtain ⟨f, fd, F, hm⟩ := T.d__law_same.ex
  have S := sc__law_same
  have B := T.bn
  refine ⟨⟨f, fd, fnD F S (fun args M Q E h => by (repeat (obtain ⟨_, h⟩ := h)); subst_vars; rfl) (fun cdv A outer s H E hgd hr => ⟨_, (ds_cons (ds_if (dt_val (d_isi tab_tuple (by rfl) B.isinstance (by rfl) B.tuple b_tuple (dv 1))) (ds_cons (ds_if (DW.dt (dw_or (dt_not (dt_val (d_isi tab_tuple (by rfl) B.isinstance (by rfl) B.tuple b_tuple (dv 0)))) (dw_or1 (dt_cmp (o_ne hr.units) (d_callB o_len (by rfl) B.len b_len (d_cons (dv 0) d_nil)) (d_callB o_len (by rfl) B.len b_len (d_cons (dv 1) d_nil)))))) (ds_one (ds_ret d_bl)) ds_nil)
  (ds_one (ds_ret (d_cmp (o_eq hr.units) (d_lcI (own := [("_law_one", 2), ("_law_other", 3)]) rfl S.nd (di_zip (by rfl) B.zip (d_cons (dv 0) (d_cons (dv 1) d_nil))) (blkOk_by (N := ["_law_found", "_law_due", "_law_one", "_law_other"]) (sc := defScope s__law_same) (by decide +kernel)) (by decide) (fun _ _ _ _ _ => (dg_tup (n := 2) rfl (dgs_cons (dgn 2 S.nd) (dgs_cons (dgn 3 S.nd) dgs_nil)))) (fun _ _ _ _ _ => (dts_one (dt_not (dt_val (d_cl c__law_same hgd (hr.mono (by first | decide | omega)) (d_cons (dv 2) (d_cons (dv 3) d_nil))))))) (fun _ _ _ _ _ => d_int)) (d_lst d_nil))))) ds_nil)
  (ds_cons (ds_if (dt_cmp o_isN (dv 1) d_non) (ds_one (ds_ret (d_cmp o_isN (dv 0) d_non))) ds_nil)
  (ds_cons (ds_if (dt_val (d_isi tab_str (by rfl) B.isinstance (by rfl) B.str b_str (dv 1))) (ds_one (ds_ret (d_and (d_isi tab_str (by rfl) B.isinstance (by rfl) B.str b_str (dv 0)) (d_one (d_cmp (o_eq hr.units) (dv 0) (dv 1)))))) ds_nil)
  (ds_one (ds_ret (d_and (d_isi tab_int (by rfl) B.isinstance (by rfl) B.int b_int (dv 0)) (d_and (d_cmp (o_eq hr.units) (d_isi tab_bool (by rfl) B.isinstance (by rfl) B.bool b_bool (dv 0)) (d_isi tab_bool (by rfl) B.isinstance (by rfl) B.bool b_bool (dv 1))) (d_one (d_cmp (o_eq hr.units) (dv 0) (dv 1)))))))))), fun args M Q E' hM hA h => ?_⟩), hm, F.kp, (F.binds (ps := ["_law_found", "_law_due"]) fun _ _ _ _ _ _ us hl => match us, hl with | [_, _], _ => rfl)⟩, ?_⟩
  rotate_left
  · exact fun args M Q Q' E E' w _ ⟨x0, x1, x2, k⟩ => ⟨x0, x1, x2, w _ _ k⟩
  · obtain ⟨d, rfl, hd, k⟩ := h
    have hcase : d = .non ∨ (∃ i : Int, d = .int i) ∨ (∃ x : Str, d = .str x) ∨ (∃ b : Bool, d = .bl b) ∨ ∃ (j : Nat) (ds : List D), kd = j + 1 ∧ d = .tup ds ∧ ds.length ≤ 100 ∧ ∀ x ∈ ds, Dat j x := by
      cases kd with
      | zero => rcases hd with h | h | h | h <;> simp [h]
      | succ j =>
        rcases hd with (h | h | h | h) | ⟨ds, h⟩
        · exact .inl h
        · exact .inr (.inl h)
        · exact .inr (.inr (.inl h))
        · exact .inr (.inr (.inr (.inl h)))
        · exact .inr (.inr (.inr (.inr ⟨j, ds, rfl, h⟩)))
    clear hd
    rcases hcase with rfl | ⟨i, rfl⟩ | ⟨x, rfl⟩ | ⟨b, rfl⟩ | ⟨j, ds, rfl, rfl, hl, hx⟩
    · walk_at "go1"
      exact See.keep k
    · walk_at "go1"
      refine ⟨(Pl.bl _).eqOk (by decide) _, (Pl.bl _).eqOk (by decide) _, ?_⟩
      rw [Pl.same (Pl.bl _)]
      walk_at "go1"
      exact See.keep k
    · walk_at "go1"
      exact See.keep k
    · walk_at "go1"
      refine ⟨(Pl.bl _).eqOk (by decide) _, (Pl.bl _).eqOk (by decide) _, ?_⟩
      rw [Pl.same (Pl.bl _)]
      walk_at "go1"
      refine ⟨(Pl.bl _).eqOk (by decide) _, (Pl.bl _).eqOk (by decide) _, ?_⟩
      rw [Pl.same (Pl.bl _)]
      exact See.keep k
    · walk_at "go1"
      rw [zip_same]
      refine lc_filL (fun x => D.tup [x, x]) (fun _ => none) (L := ds) trivial (by omega) (fun x hx' kk hk => ?_) ?_
      · walk_at "go1"
        refine ⟨x, rfl, hx x hx', ?_⟩
        walk_at "go1"
        exact hk
      rw [show ds.filterMap (fun _ => (none : Option D)) = [] by simp]
      walk_at "go1"
      refine ⟨pl_nil.eqOk (by decide) _, pl_nil.eqOk (by decide) _, ?_⟩
      rw [Pl.same pl_nil]
      exact See.keep k
theorem c__law_same (T : Tp K mg) : Cl P w K mg base "_law_same" (4 + 1) ["_law_found", "_law_due"] (spSameV 4) := c__law_same_g (kd := 4) T (c__law_same_g (kd := 3) T (c__law_same_g (kd := 2) T (c__law_same_g (kd := 1) T (c__law_same_g (kd := 0) T (c__law_same_none T)))))
/-! ### the deck -/
theorem c__law_draw (T : Tp K mg) : Cl P w K mg base "_law_draw" (0 + 1) ["_law_deck_here", "_law_many"] spDraw := by
  obtain ⟨f, fd, F, hm⟩ := T.d__law_draw.ex
  have S := sc__law_draw
  have B := T.bn
  refine ⟨⟨f, fd, fnD F S (fun args M Q E h => by (repeat (obtain ⟨_, h⟩ := h)); subst_vars; rfl) (fun cdv A outer s H E hgd hr => ⟨_, (ds_cons (ds_asg (d_op o_add (d_ix (dv 0) d_int (fun _ _ => rfl)) d_int) (dg_sub (dv 0) d_int))
  (ds_cons (dss 2 S.nd d_int)
  (ds_cons (dss 3 S.nd (d_un o_neg d_int))
  (ds_cons (ds_if (dt_cmp o_gt (d_callB o_len (by rfl) B.len b_len (d_cons (d_ix (dv 0) d_int (fun _ _ => rfl)) d_nil)) d_int) (ds_cons (dss 3 S.nd (d_op o_mod (d_ix (dv 0) d_int (fun _ _ => rfl)) (d_callB o_len (by rfl) B.len b_len (d_cons (d_ix (dv 0) d_int (fun _ _ => rfl)) d_nil))))
  (ds_one (dss 2 S.nd (d_ix (d_ix (dv 0) d_int (fun _ _ => rfl)) (dv 3) (fun _ _ => rfl))))) ds_nil)
  (ds_cons (ds_if (dt_cmp o_ge (dv 2) (d_op o_pow d_int d_int)) (ds_cons (ds_asg (d_op o_fdiv (dv 2) (dv 1)) (dg_sub (d_ix (dv 0) d_int (fun _ _ => rfl)) (dv 3)))
  (ds_one (ds_ret (d_op o_mod (dv 2) (dv 1))))) ds_nil)
  (ds_one (ds_ret (d_op o_mod (d_op o_mod (d_op o_pow (d_op o_add (d_op o_add (d_op o_mod (dv 2) d_int) (d_op o_mulA d_int (d_ix (dv 0) d_int (fun _ _ => rfl)))) d_int) d_int) d_int) (dv 1))))))))), fun args M Q E' hM hA h => ?_⟩), hm, F.kp, (F.binds (ps := ["_law_deck_here", "_law_many"]) fun _ _ _ _ _ _ us hl => match us, hl with | [_, _], _ => rfl)⟩, ?_⟩
  rotate_left
  · exact fun args M Q Q' E E' w _ ⟨x0, x1, x2, x3, x4, x5, x6, x7, x8, x9, k⟩ => ⟨x0, x1, x2, x3, x4, x5, x6, x7, x8, x9, fun y0 y1 y2 y3 y4 y5 => w _ _ (k y0 y1 y2 y3 y4 y5)⟩
  · obtain ⟨cs, n, R, lim, b, rfl, rfl, g, l0, l1, k⟩ := h
    obtain ⟨y1, y2, y3, y4⟩ := g
    have fin : ∀ (c : Int) (cs' : List Int), Good b cs' (n + 1) → 0 ≤ c → c < lim → See (R.length + 1 + 1) Q (.int c) (Cell.lst (List.map D.int cs') :: Cell.lst [D.ref 0, D.int (n + 1)] :: R) := fun c cs' hg h0 h1 => See.keep (k c cs' (n + 1) h0 h1 hg)
    have hg1 : Good b cs (n + 1) := ⟨y1, y2, by omega, by omega⟩
    have tail : ∀ c : Int, 0 ≤ c → See (R.length + 1 + 1) Q (.int (((c % 2147483587 + 7919 * (n + 1) + 1) ^ 5) % 2147483647 % lim)) (Cell.lst (List.map D.int cs) :: Cell.lst [D.ref 0, D.int (n + 1)] :: R) := fun c _ =>
      fin _ cs hg1 (Int.emod_nonneg _ (by omega)) (Int.emod_lt_of_pos _ l0)
    rw [show startD ["_law_deck_here", "_law_many", "_law_cell", "_law_place"] [D.ref 1, D.int lim] = [some (.ref 1), some (.int lim), none, none] from rfl]
    unfold dk
    walk_at "go4"
    refine ite_dec (fun h => ?_) (fun h => ?_) <;> (try simp only [List.length_map] at h)
    · walk_at "go4"
      have i0 : 0 ≤ (n + 1) % (cs.length : Int) := Int.emod_nonneg _ (by omega)
      have i1 : (n + 1) % (cs.length : Int) < cs.length := Int.emod_lt_of_pos _ h
      obtain ⟨c, hc, hc2, e⟩ := atI_ints i0 i1
      rw [e]
      have c0 := y2 c hc
      walk_at "go4"
      refine ite_dec (fun h2 => ?_) (fun h2 => ?_)
      · walk_at "go4"
        rw [ixN_of i0 i1]
        walk_at "go4"
        rw [← List.map_set]
        refine fin _ _ ⟨by rw [List.length_set]; exact y1, fun x hx => ?_, by omega, by omega⟩ (Int.emod_nonneg _ (by omega)) (Int.emod_lt_of_pos _ l0)
        rcases List.mem_or_eq_of_mem_set hx with z | z
        · exact y2 x z
        · rw [z]; exact Int.ediv_nonneg c0 (by omega)
      · walk_at "go4"
        exact tail c c0
    · walk_at "go4"
      refine ite_no (by omega) ?_
      walk_at "go4"
      exact tail 0 (by omega)
/-! ### _law_deck -/
theorem c__law_deck (T : Tp K mg) : Cl P w K mg base "_law_deck" (0 + 1) ["_law_script"] spDeck := by
  obtain ⟨f, fd, F, hm⟩ := T.d__law_deck.ex
  have S := sc__law_deck
  have B := T.bn
  refine ⟨⟨f, fd, fnD F S (fun args M Q E h => by (repeat (obtain ⟨_, h⟩ := h)); subst_vars; rfl) (fun cdv A outer s H E hgd hr => ⟨_, (ds_one (ds_ret (d_lstM (d_cons (d_lcMI (own := [("_law_cell", 1)]) rfl S.nd (di_seq (d_slice (dv 0) do_none (do_some d_int))) (blkOk_by (N := ["_law_script", "_law_cell"]) (sc := defScope s__law_deck) (by decide +kernel)) (by decide) (fun _ _ _ _ _ => (dgn 1 S.nd)) (fun _ _ _ _ _ => dts_nil) (fun _ _ _ _ _ => (d_callB o_abs (by rfl) B.abs b_abs (d_cons (dv 1) d_nil)))) (d_cons d_int d_nil))))), fun args M Q E' hM hA h => ?_⟩), hm, F.kp, (F.binds (ps := ["_law_script"]) fun _ _ _ _ _ _ us hl => match us, hl with | [_], _ => rfl)⟩, ?_⟩
  rotate_left
  · exact fun args M Q Q' E E' w _ ⟨x0, x1, x2, x3, k⟩ => ⟨x0, x1, x2, x3, fun y0 y1 => w _ _ (k y0 y1)⟩
  · obtain ⟨ns, rfl, rfl, hl, k⟩ := h
    walk_at "go1"
    rw [cut_map]
    refine lc_map (fun d => match d with | .int i => .int (if i < 0 then -i else i) | d => d) trivial (by rw [List.length_map]; have := cut_len ns none (some 63); omega) (fun d hd kk hk => ?_) ?_
    · obtain ⟨i, hi, rfl⟩ := List.mem_map.mp hd
      walk_at "go1"
      exact hk
    · walk_at "go1"
      rw [List.map_map]
      refine See.keep ?_
      refine Eq.subst (motive := fun z => Q (.ref 1) ([Cell.lst z] ++ [Cell.lst [D.ref 0, D.int 0]])) ?_ (k ((cut ns none (some 63)).map fun i => if i < 0 then -i else i) ⟨?_, ?_, by omega, by omega⟩)
      · rw [List.map_map]
        rfl
      · rw [List.length_map]
        have := cut_len ns none (some 63)
        omega
      · intro c hc
        obtain ⟨i, _, rfl⟩ := List.mem_map.mp hc
        split <;> omega
/-! ### _law_bent -/
def wt (ws : List Str) : Nat := (ws.map (·.length)).sum + ws.length
theorem wt_app (a b : List Str) : wt (a ++ b) = wt a + wt b := by
  unfold wt
  rw [List.map_append, List.sum_append, List.length_append]
  omega
theorem wt_take (n : Nat) (a : List Str) : wt (a.take n) ≤ wt a := by
  have := wt_app (a.take n) (a.drop n)
  rw [List.take_append_drop] at this
  omega
theorem wt_drop (n : Nat) (a : List Str) : wt (a.drop n) ≤ wt a := by
  have := wt_app (a.take n) (a.drop n)
  rw [List.take_append_drop] at this
  omega
theorem wt_join : ∀ {ws : List Str}, ws ≠ [] → (Str.join " " ws).length + 1 = wt ws
  | [], h => absurd rfl h
  | [x], _ => by
    unfold wt
    show x.length + 1 = ([x].map (·.length)).sum + [x].length
    simp
  | x :: y :: r, _ => by
    have ih := wt_join (ws := y :: r) (by simp)
    show (x ++ " " ++ Str.join " " (y :: r)).length + 1 = _
    rw [len_app, len_app, c3]
    have : wt (x :: y :: r) = x.length + 1 + wt (y :: r) := by
      unfold wt
      rw [List.map_cons, List.sum_cons, List.length_cons (as := y :: r)]
      omega
    omega
theorem wt_le (ws : List Str) : (Str.join " " ws).length ≤ wt ws := by
  by_cases h : ws = []
  · subst h
    decide +kernel
  · have := wt_join h
    omega
theorem wt_spl (x : Str) : wt (splW x) = x.length + 1 := by
  rw [← wt_join (spl_ne x), spl_back]
theorem okS_cut {x : Str} (h : okS x) (a b : Option Int) : okS (cutS x a b) := fun c hc => by
  have : c ∈ TL.tl (cutS x a b) := hc
  unfold cutS at this
  have h2 := List.mem_of_mem_take this
  exact h c (List.mem_of_mem_drop h2)
def spBent : DSp := fun args M Q _ => ∃ (cs : List Int) (n : Int) (R : Sto) (x : Str) (b : Nat), args = [.ref 1, .str x] ∧ M = dk cs n ++ R ∧ Good (b + 6) cs n ∧ okS x ∧ x.length ≤ 25000 ∧ ∀ (y : Str) (cs' : List Int) (n' : Int), okS y → y.length ≤ 2 * x.length + 2 → Good b cs' n' → Q (.str y) (dk cs' n' ++ R)
theorem c__law_bent (T : Tp K mg) : Cl P w K mg base "_law_bent" (1 + 1) ["_law_deck_here", "_law_text"] spBent := by
  obtain ⟨f, fd, F, hm⟩ := T.d__law_bent.ex
  have S := sc__law_bent
  have B := T.bn
  have c__law_draw := @c__law_draw P w K mg base T
  refine ⟨⟨f, fd, fnD F S (fun args M Q E h => by (repeat (obtain ⟨_, h⟩ := h)); subst_vars; rfl) (fun cdv A outer s H E hgd hr => ⟨_, (ds_cons (dss 2 S.nd (d_split (dv 1) d_str))
  (ds_cons (dss 3 S.nd (d_cl c__law_draw hgd (hr.mono (by first | decide | omega)) (d_cons (dv 0) (d_cons (d_callB o_len (by rfl) B.len b_len (d_cons (dv 2) d_nil)) d_nil))))
  (ds_cons (dss 4 S.nd (d_cl c__law_draw hgd (hr.mono (by first | decide | omega)) (d_cons (dv 0) (d_cons d_int d_nil))))
  (ds_cons (ds_if (dt_cmp (o_eq hr.units) (dv 4) d_int) (ds_one (ds_ret (d_join d_str (d_op o_add (d_op o_add (d_slice (dv 2) do_none (do_some (dv 3))) (d_slice (dv 2) (do_some (dv 3)) (do_some (d_op o_add (dv 3) d_int)))) (d_slice (dv 2) (do_some (dv 3)) do_none))))) ds_nil)
  (ds_cons (ds_if (dt_cmp (o_eq hr.units) (dv 4) d_int) (ds_one (ds_ret (d_join d_str (d_op o_add (d_slice (dv 2) (do_some (dv 3)) do_none) (d_slice (dv 2) do_none (do_some (dv 3))))))) ds_nil)
  (ds_cons (ds_if (dt_cmp (o_eq hr.units) (dv 4) d_int) (ds_one (ds_ret (d_join d_str (d_op o_add (d_slice (dv 2) do_none (do_some (dv 3))) (d_slice (dv 2) (do_some (d_op o_add (dv 3) d_int)) do_none))))) ds_nil)
  (ds_cons (ds_if (dt_cmp (o_eq hr.units) (dv 4) d_int) (ds_one (ds_ret (d_join d_str (d_op o_add (dv 2) (d_slice (dv 2) (do_some (dv 3)) do_none))))) ds_nil)
  (ds_cons (dss 5 S.nd (d_cl c__law_draw hgd (hr.mono (by first | decide | omega)) (d_cons (dv 0) (d_cons (d_op o_add (d_callB o_len (by rfl) B.len b_len (d_cons (dv 1) d_nil)) d_int) d_nil))))
  (ds_cons (dss 6 S.nd (d_ix (d_lst (d_cons d_str (d_cons d_str (d_cons d_str (d_cons d_str (d_cons d_str (d_cons d_str (d_cons d_str (d_cons d_str (d_cons d_str (d_cons d_str (d_cons d_str (d_cons d_str d_nil))))))))))))) (d_cl c__law_draw hgd (hr.mono (by first | decide | omega)) (d_cons (dv 0) (d_cons d_int d_nil))) (fun _ _ => rfl)))
  (ds_one (ds_ret (d_op o_add (d_op o_add (d_slice (dv 1) do_none (do_some (dv 5))) (d_op o_mulS (dv 6) (d_cl c__law_draw hgd (hr.mono (by first | decide | omega)) (d_cons (dv 0) (d_cons d_int d_nil))))) (d_slice (dv 1) (do_some (d_op o_add (dv 5) (d_cl c__law_draw hgd (hr.mono (by first | decide | omega)) (d_cons (dv 0) (d_cons d_int d_nil))))) do_none))))))))))))), fun args M Q E' hM hA h => ?_⟩), hm, F.kp, (F.binds (ps := ["_law_deck_here", "_law_text"]) fun _ _ _ _ _ _ us hl => match us, hl with | [_, _], _ => rfl)⟩, ?_⟩
  rotate_left
  · exact fun args M Q Q' E E' w _ ⟨x0, x1, x2, x3, x4, x5, x6, x7, x8, x9, k⟩ => ⟨x0, x1, x2, x3, x4, x5, x6, x7, x8, x9, fun y0 y1 y2 y3 y4 y5 => w _ _ (k y0 y1 y2 y3 y4 y5)⟩
  · obtain ⟨cs, n, R, x, b, rfl, rfl, g, hok, hl, k⟩ := h
    have hwo : ∀ w ∈ splW x, okS w := fun w hw => spl_okS hok hw
    have hwt := wt_spl x
    have hmany := spl_many x
    have hpos : 1 ≤ (splW x).length := List.length_pos_iff.mpr (spl_ne x)
    refine seq_mid (fun ρ M => ρ = ⟨[some (.ref 1), some (.str x), some (.lst ((splW x).map D.str)), none, none, none, none], noX⟩ ∧ M = dk cs n ++ R) (fun nx hnx => ?_) ?_
    · walk_at "go1"
      refine ⟨by decide +kernel, by rw [sizeLine_eq]; omega, ?_⟩
      walk_at "go1"
      exact hnx _ _ ⟨rfl, rfl⟩
    generalize splW x = ws at hwo hwt hmany hpos ⊢
    rintro ρ M ⟨rfl, rfl⟩
    have fin : ∀ (ys : List Str) (cs : List Int) (n : Int), (∀ y ∈ ys, okS y) → wt ys ≤ 2 * wt ws → Good b cs n → (ys.map (·.length)).sum + ys.length * Str.length (" " : Str) ≤ 16777216 ∧ See (dk cs n ++ R).length Q (.str (Str.join " " ys)) (dk cs n ++ R) := fun ys cs n ho hw g => by
      have h1 := wt_le ys
      refine ⟨?_, See.keep (k _ cs n (okS_join (okS_of " ") ho) (by omega) g)⟩
      rw [c3, Nat.mul_one]
      unfold wt at hw hwt h1
      omega
    walk_at "go1"
    refine dr (b := b + 5) g (by omega) (by omega) fun at_ cs n ha g => ?_
    walk_at "go1"
    refine dr (b := b + 4) g (by decide) (by decide) fun way cs n hw g => ?_
    have fin2 : ∀ (ys : List Str), (∀ y ∈ ys, y ∈ ws) → wt ys ≤ 2 * wt ws → gJoin " " (.lst (ys.map D.str)) (dk cs n ++ R) (See ((dk cs n).length + R.length) Q) := fun ys ho hw => by
      rw [← List.length_append]
      show (match strsOf (ys.map D.str) with | some ys => _ | none => _)
      rw [strsOf_map]
      exact fin ys cs n (fun y hy => hwo y (ho y hy)) hw (g.le (by omega))
    have cm : ∀ {lo hi : Option Int}, ∀ y ∈ cut ws lo hi, y ∈ ws := fun y hy => List.mem_of_mem_drop (List.mem_of_mem_take hy)
    have cw : ∀ {lo hi : Option Int}, wt (cut ws lo hi) ≤ wt ws := Nat.le_trans (wt_take _ _) (wt_drop _ _)
    have cl : ∀ {lo hi : Option Int}, (cut ws lo hi).length ≤ ws.length := cut_len _ _ _
    have ct : ∀ a : Nat, wt (ws.take a) + wt (ws.drop a) = wt ws := fun a => by rw [← wt_app, List.take_append_drop]
    have c3' : ∀ a : Nat, cut ws (some ((a : Int) + 1)) none = ws.drop (a + 1) := fun a => by rw [show (a : Int) + 1 = ((a + 1 : Nat) : Int) from rfl, cut_from]
    have e1 := cut_to ws at_
    have e2 := cut_from ws at_
    have e3 := c3' at_
    have ll : ∀ a : Nat, (ws.take a).length ≤ ws.length ∧ (ws.drop a).length ≤ ws.length := fun a => ⟨by rw [List.length_take]; omega, by rw [List.length_drop]; omega⟩
    have lat := ll at_
    have lat1 := ll (at_ + 1)
    have wat := ct at_
    have wat1 := ct (at_ + 1)
    walk_at "go1"
    refine ite_dec (fun h0 => ?_) (fun h0 => ?_)
    · walk_at "go1"
      simp only [cut_map]
      have l1 := cl (lo := some (at_ : Int)) (hi := some ((at_ : Int) + 1))
      have w1 := cw (lo := some (at_ : Int)) (hi := some ((at_ : Int) + 1))
      have m1 := cm (lo := some (at_ : Int)) (hi := some ((at_ : Int) + 1))
      generalize cut ws (some (at_ : Int)) (some ((at_ : Int) + 1)) = u at l1 w1 m1 ⊢
      rw [e1]
      refine ⟨by rw [List.length_map, List.length_map]; omega, ?_⟩
      rw [← List.map_append]
      walk_at "go1"
      simp only [cut_map]
      rw [e2]
      refine ⟨by simp only [List.length_append, List.length_map]; omega, ?_⟩
      rw [← List.map_append]
      refine fin2 _ (fun y hy => ?_) (by rw [wt_app, wt_app]; omega)
      rcases List.mem_append.mp hy with hy | hy
      · rcases List.mem_append.mp hy with hy | hy
        · exact List.mem_of_mem_take hy
        · exact m1 y hy
      · exact List.mem_of_mem_drop hy
    walk_at "go1"
    refine ite_dec (fun h0 => ?_) (fun h0 => ?_)
    · walk_at "go1"
      simp only [cut_map]
      rw [e1, e2]
      refine ⟨by rw [List.length_map, List.length_map]; omega, ?_⟩
      rw [← List.map_append]
      refine fin2 _ (fun y hy => ?_) (by rw [wt_app]; omega)
      rcases List.mem_append.mp hy with hy | hy
      · exact List.mem_of_mem_drop hy
      · exact List.mem_of_mem_take hy
    walk_at "go1"
    refine ite_dec (fun h0 => ?_) (fun h0 => ?_)
    · walk_at "go1"
      simp only [cut_map]
      rw [e1, e3]
      refine ⟨by rw [List.length_map, List.length_map]; omega, ?_⟩
      rw [← List.map_append]
      refine fin2 _ (fun y hy => ?_) (by have := wt_take at_ ws; have := wt_drop (at_ + 1) ws; rw [wt_app]; omega)
      rcases List.mem_append.mp hy with hy | hy
      · exact List.mem_of_mem_take hy
      · exact List.mem_of_mem_drop hy
    walk_at "go1"
    refine ite_dec (fun h0 => ?_) (fun h0 => ?_)
    · walk_at "go1"
      simp only [cut_map]
      rw [e2]
      refine ⟨by rw [List.length_map]; omega, ?_⟩
      rw [← List.map_append]
      refine fin2 _ (fun y hy => ?_) (by rw [wt_app]; omega)
      rcases List.mem_append.mp hy with hy | hy
      · exact hy
      · exact List.mem_of_mem_drop hy
    clear fin2
    walk_at "go1"
    refine dr (b := b + 3) g (by omega) (by omega) fun place cs n hpl g => ?_
    walk_at "go1"
    refine dr (b := b + 2) g (by decide) (by decide) fun r12 cs n h12 g => ?_
    obtain ⟨o, ho, eo⟩ := atI_in (xs := [D.str "0", D.str "1", D.str "5", D.str "9", D.str "-", D.str " ", D.str "+", D.str "_", D.str ":", D.str "@", D.str ";", D.str "x"]) (i := (r12 : Int)) (by omega) (by show (r12 : Int) < ((12 : Nat) : Int); omega)
    have hsg : ∃ sg : Str, o = .str sg ∧ okS sg ∧ sg.length = 1 := by
      simp only [List.mem_cons, List.not_mem_nil, or_false] at ho
      rcases ho with rfl | rfl | rfl | rfl | rfl | rfl | rfl | rfl | rfl | rfl | rfl | rfl <;> exact ⟨_, rfl, okS_of _, by decide +kernel⟩
    obtain ⟨sg, rfl, osg, lsg⟩ := hsg
    walk_at "go1"
    rw [eo]
    walk_at "go1"
    refine dr (b := b + 1) g (by decide) (by decide) fun r2 cs n h2 g => ?_
    have lc : ∀ {lo hi : Option Int}, (cutS x lo hi).length ≤ x.length := cutS_length _ _ _
    have lm : (mulS sg r2).length ≤ 1 := by rw [mulS_len, lsg]; omega
    have om : okS (mulS sg r2) := fun c hc => by
      have hc : c ∈ (List.replicate r2 (TL.tl sg)).flatten := hc
      obtain ⟨l, h1, h2⟩ := List.mem_flatten.mp hc
      rw [(List.mem_replicate.mp h1).2] at h2
      exact osg c h2
    walk_at "go1"
    rw [show ((r2 : Nat) : Int).toNat = r2 from rfl]
    refine ⟨by have := lc (lo := none) (hi := some (place : Int)); omega, ?_⟩
    walk_at "go1"
    refine dr (b := b) g (by decide) (by decide) fun r3 cs n h3 g => ?_
    walk_at "go1"
    rw [len_app]
    have l1 := lc (lo := none) (hi := some (place : Int))
    have l2 := lc (lo := some ((place : Int) + (r3 : Int))) (hi := none)
    refine ⟨by omega, See.keep (k _ cs n (okS_app (okS_app (okS_cut hok _ _) om) (okS_cut hok _ _)) ?_ g)⟩
    rw [len_app, len_app]
    omega
/-! ### drawn fields -/
def spTree55 : DSp := fun args M Q _ => ∃ (cs : List Int) (n : Int) (R : Sto) (most long b : Nat), args = [.ref 1, natD most, natD long] ∧ M = dk cs n ++ R ∧ Good (b + 40) cs n ∧ 1 ≤ most ∧ most ≤ 12 ∧ 1 ≤ long ∧ long ≤ 1000000 ∧ ∀ t cs' n', TreeOk t → t.length < most → Good b cs' n' → Q (treeD t) (dk cs' n' ++ R)
theorem rows_of {ps : List D} {ys : List D} {m : Nat} (hm : m ≤ 11) (h1 : ps.length = m) (h2 : ys.length = m) (hp : ∀ (j : Nat) (y : D), ps[j]? = some y → ∃ a : Nat, y = natD a ∧ a ≤ j) (hy : ∀ (j : Nat) (y : D), ys[j]? = some y → ∃ l : Nat, (∃ p, ps[j]? = some p ∧ y = .tup [p, natD l]) ∧ 1 ≤ l ∧ l ≤ 1000000) : ∃ t : Tr, D.tup ys = treeD t ∧ TreeOk t ∧ t.length = m := by
  have key : ∀ k, k ≤ m → ∃ t : Tr, ys.take k = t.map rowD ∧ t.length = k ∧ ∀ (j : Nat) (p : Nat × Nat), t[j]? = some p → p.1 ≤ j ∧ 1 ≤ p.2 ∧ p.2 ≤ 1000000 := by
    intro k
    induction k with
    | zero => exact fun _ => ⟨[], rfl, rfl, fun j p e => by simp at e⟩
    | succ k ih =>
      intro hk
      obtain ⟨t, e, hl, ht⟩ := ih (by omega)
      have hlt : k < ys.length := by omega
      obtain ⟨l, ⟨p, ep, ey⟩, l1, l2⟩ := hy k ys[k] (List.getElem?_eq_getElem hlt)
      obtain ⟨a, rfl, ha⟩ := hp k p ep
      refine ⟨t ++ [(a, l)], ?_, by simp [hl], fun j p ej => ?_⟩
      · rw [List.take_succ_eq_append_getElem hlt, e, ey, List.map_append]
        rfl
      · by_cases hj : j < t.length
        · rw [List.getElem?_append_left hj] at ej
          exact ht j p ej
        · have hj2 := (List.getElem?_eq_some_iff.mp ej).1
          rw [List.length_append, List.length_singleton] at hj2
          have : j = t.length := by omega
          subst this
          rw [List.getElem?_concat_length] at ej
          cases ej
          exact ⟨by show a ≤ t.length; omega, l1, l2⟩
  obtain ⟨t, e, hl, ht⟩ := key m (Nat.le_refl _)
  rw [← h2, List.take_length] at e
  exact ⟨t, by rw [e], ⟨by omega, ht⟩, hl⟩
theorem c__law_tree (T : Tp K mg) : Cl P w K mg base "_law_tree" (1 + 1) ["_law_deck_here", "_law_most", "_law_long"] spTree55 := by
  obtain ⟨f, fd, F, hm⟩ := T.d__law_tree.ex
  have S := sc__law_tree
  have B := T.bn
  have c__law_draw := @c__law_draw P w K mg base T
  refine ⟨⟨f, fd, fnD F S (fun args M Q E h => by (repeat (obtain ⟨_, h⟩ := h)); subst_vars; rfl) (fun cdv A outer s H E hgd hr => ⟨_, (ds_cons (ds_asg (d_tup (d_cons (d_op o_add d_int (d_cl c__law_draw hgd (hr.mono (by first | decide | omega)) (d_cons (dv 0) (d_cons (dv 1) d_nil)))) (d_cons (d_cl c__law_draw hgd (hr.mono (by first | decide | omega)) (d_cons (dv 0) (d_cons d_int d_nil))) d_nil))) (dg_tup (n := 2) rfl (dgs_cons (dgn 3 S.nd) (dgs_cons (dgn 4 S.nd) dgs_nil))))
  (ds_cons (ds_setLcI (i := 5) (own := [("_law_k", 6)]) rfl S.nd rfl rfl (sw_true rfl rfl rfl (by decide +kernel)) (di_range1 (by rfl) B.range (d_cons (d_op o_sub (dv 3) d_int) d_nil)) (blkOk_by (N := ["_law_deck_here", "_law_most", "_law_long", "_law_n", "_law_way", "_law_parents", "_law_k", "_law_parent"]) (sc := defScope s__law_tree) (by decide +kernel)) (by decide) (fun _ _ _ _ _ => (dgn 6 S.nd)) (fun _ _ _ _ _ => dts_nil) (fun _ _ _ _ _ => (d_ix (d_lst (d_cons (dv 6) (d_cons d_int (d_cons (d_cl c__law_draw hgd (hr.mono (by first | decide | omega)) (d_cons (dv 0) (d_cons (d_op o_add (dv 6) d_int) d_nil))) d_nil)))) (dv 4) (fun _ _ => rfl))))
  (ds_one (ds_ret (d_callTy o_tuple (by rfl) B.tuple b_tuple (d_cons (d_lcI (own := [("_law_parent", 7)]) rfl S.nd (di_seq (dv 5)) (blkOk_by (N := ["_law_deck_here", "_law_most", "_law_long", "_law_n", "_law_way", "_law_parents", "_law_k", "_law_parent"]) (sc := defScope s__law_tree) (by decide +kernel)) (by decide) (fun _ _ _ _ _ => (dgn 7 S.nd)) (fun _ _ _ _ _ => dts_nil) (fun _ _ _ _ _ => (d_tup (d_cons (dv 7) (d_cons (d_op o_add d_int (d_cl c__law_draw hgd (hr.mono (by first | decide | omega)) (d_cons (dv 0) (d_cons (dv 2) d_nil)))) d_nil))))) d_nil)))))), fun args M Q E' hM hA h => ?_⟩), hm, F.kp, (F.binds (ps := ["_law_deck_here", "_law_most", "_law_long"]) fun _ _ _ _ _ _ us hl => match us, hl with | [_, _, _], _ => rfl)⟩, ?_⟩
  rotate_left
  · exact fun args M Q Q' E E' w _ ⟨x0, x1, x2, x3, x4, x5, x6, x7, x8, x9, x10, x11, x12, k⟩ => ⟨x0, x1, x2, x3, x4, x5, x6, x7, x8, x9, x10, x11, x12, fun y0 y1 y2 y3 y4 y5 => w _ _ (k y0 y1 y2 y3 y4 y5)⟩
  · obtain ⟨cs, n, R, most, long, b, rfl, rfl, g, m1, m2, l1, l2, k⟩ := h
    walk_at "go1"
    refine dr (b := b + 39) g (by omega) (by omega) fun r1 cs n h1 g => ?_
    walk_at "go1"
    refine dr (b := b + 38) g (by decide) (by decide) fun way cs n hw g => ?_
    walk_at "go1"
    rw [show (1 + (r1 : Int) - 1).toNat = r1 by omega]
    refine lc_dk (b + 12) 1 (fun j y => ∃ a : Nat, y = natD a ∧ a ≤ j) (fun _ => trivial) (g.le (by omega)) (by omega) (fun j cs n rest hj g kk hk => ?_) fun ps cs n hpl hps g => ?_
    · walk_at "go1"
      refine dr (b := b + 12 + 1 * rest) g (by omega) (by omega) fun a cs n ha g => ?_
      have hp : ∃ p : Nat, p ≤ j ∧ atI [D.int (j : Int), D.int 0, D.int (a : Int)] (way : Int) = some (.int p) := by
        have : way = 0 ∨ way = 1 ∨ way = 2 := by omega
        rcases this with rfl | rfl | rfl
        · exact ⟨j, Nat.le_refl _, atI_0 _ _⟩
        · exact ⟨0, Nat.zero_le _, atI_1 _ _ _⟩
        · exact ⟨a, by omega, atI_2 _ _ _ _⟩
      obtain ⟨p, p1, e2⟩ := hp
      walk_at "go1"
      rw [e2]
      walk_at "go1"
      exact hk _ _ _ ⟨p, rfl, p1⟩ g
    · walk_at "go1"
      refine lc_dkL b 1 (fun j y => ∃ l : Nat, (∃ p, ps[j]? = some p ∧ y = .tup [p, natD l]) ∧ 1 ≤ l ∧ l ≤ 1000000) (fun _ => trivial) (g.le (by omega)) (by omega) (fun j d cs n rest hj g kk hk => ?_) fun ys cs n hyl hys g => ?_
      · obtain ⟨a, rfl, ha⟩ := hps j d hj
        walk_at "go1"
        refine dr (b := b + 1 * rest) g (by omega) (by omega) fun l cs n hl g => ?_
        walk_at "go1"
        exact hk _ _ _ ⟨1 + l, ⟨_, hj, rfl⟩, by omega, by omega⟩ g
      · obtain ⟨t, e, ht, htl⟩ := rows_of (m := r1) (by omega) hpl (by omega) hps hys
        walk_at "go1"
        rw [e]
        exact See.keep (k t cs n ht (by omega) g)
def spPushes55 : DSp := fun args M Q _ => ∃ (cs : List Int) (n : Int) (R : Sto) (t : Tr) (most late b : Nat), args = [.ref 1, treeD t, natD most, natD late] ∧ M = dk cs n ++ R ∧ Good (b + 70) cs n ∧ TreeOk t ∧ most ≤ 20 ∧ late ≤ 1000000000 ∧ ∀ (ps : Ps) cs' n', ps.length ≤ 20 → (∀ p ∈ ps, PushOk t p) → Good b cs' n' → Q (psD ps) (dk cs' n' ++ R)
def inv55 (t : Tr) (most late b c : Nat) (R : Sto) : List D → List D → Dn → Sto → Prop := fun done todo ρ M => done ++ todo = rng 0 c ∧ ∃ (ps : Ps) (cs : List Int) (n : Int) (x5 x6 : Option D), ρ = ⟨[some (.ref 1), some (treeD t), some (natD most), some (natD late), some (.ref (R.length + 2)), x5, x6], noX⟩ ∧ M = dk cs n ++ (R ++ [.lst (ps.map pushD)]) ∧ (∀ p ∈ ps, PushOk t p) ∧ ps.length = done.length ∧ Good (b + 3 * todo.length) cs n
theorem c__law_pushes (T : Tp K mg) : Cl P w K mg base "_law_pushes" (1 + 1) ["_law_deck_here", "_law_tree_here", "_law_most", "_law_late"] spPushes55 := by
  obtain ⟨f, fd, F, hm⟩ := T.d__law_pushes.ex
  have S := sc__law_pushes
  have B := T.bn
  have c__law_draw := @c__law_draw P w K mg base T
  refine ⟨⟨f, fd, fnD F S (fun args M Q E h => by (repeat (obtain ⟨_, h⟩ := h)); subst_vars; rfl) (fun cdv A outer s H E hgd hr => ⟨_, (ds_cons (dss 4 S.nd (d_lstM d_nil))
  (ds_cons (ds_forI (passes_of rfl) rfl (di_range1 (by rfl) B.range (d_cons (d_cl c__law_draw hgd (hr.mono (by first | decide | omega)) (d_cons (dv 0) (d_cons (d_op o_add (dv 2) d_int) d_nil))) d_nil)) (dgn 5 S.nd) (ds_cons (dss 6 S.nd (d_tup (d_cons (d_cl c__law_draw hgd (hr.mono (by first | decide | omega)) (d_cons (dv 0) (d_cons (d_op o_add (d_callB o_len (by rfl) B.len b_len (d_cons (dv 1) d_nil)) d_int) d_nil))) (d_cons (d_cl c__law_draw hgd (hr.mono (by first | decide | omega)) (d_cons (dv 0) (d_cons (d_op o_add (dv 3) d_int) d_nil))) d_nil))))
  (ds_one (ds_expr (d_append (dv 4) (d_cons (d_if (DW.dt (dw_and (dt_cmp (o_ne hr.units) (dv 4) (d_lst d_nil)) (dw_and1 (dt_cmp (o_eq hr.units) (d_cl c__law_draw hgd (hr.mono (by first | decide | omega)) (d_cons (dv 0) (d_cons d_int d_nil))) d_int)))) (d_ix (dv 4) d_int (fun _ _ => rfl)) (dv 6)) d_nil))))))
  (ds_one (ds_ret (d_callTy o_tuple (by rfl) B.tuple b_tuple (d_cons (dv 4) d_nil)))))), fun args M Q E' hM hA h => ?_⟩), hm, F.kp, (F.binds (ps := ["_law_deck_here", "_law_tree_here", "_law_most", "_law_late"]) fun _ _ _ _ _ _ us hl => match us, hl with | [_, _, _, _], _ => rfl)⟩, ?_⟩
  rotate_left
  · exact fun args M Q Q' E E' w _ ⟨x0, x1, x2, x3, x4, x5, x6, x7, x8, x9, x10, x11, x12, k⟩ => ⟨x0, x1, x2, x3, x4, x5, x6, x7, x8, x9, x10, x11, x12, fun y0 y1 y2 y3 y4 y5 => w _ _ (k y0 y1 y2 y3 y4 y5)⟩
  · obtain ⟨cs, n, R, t, most, late, b, rfl, rfl, g, ht, m1, l1, k⟩ := h
    have ht1 := ht.1
    walk_at "go1"
    rw [List.append_assoc]
    refine dr (b := b + 69) g (by omega) (by omega) fun c cs n hc g => ?_
    walk_at "go1"
    refine ⟨inv55 t most late b c R, ⟨rfl, [], cs, n, none, none, ?_, rfl, (fun _ h => nomatch h), rfl, g.le ?_⟩, fun _ _ _ _ _ => trivial, ?_, ?_⟩
    · rw [dk_two]
    · rw [rng_length]; omega
    · rintro done d todo ρ M ⟨e, ps, cs, n, x5, x6, rfl, rfl, hps, hl, g⟩
      obtain ⟨rfl, hlt⟩ := rng_at e
      rw [List.length_cons, Nat.mul_add] at g
      walk_at "go1"
      refine dr (b := b + 3 * todo.length + 2) g (by omega) (by omega) fun m cs n hm g => ?_
      walk_at "go1"
      refine dr (b := b + 3 * todo.length + 1) g (by omega) (by omega) fun v cs n hv g => ?_
      have hp : PushOk t (m, (v : Int)) := ⟨by show m ≤ t.length; omega, by show (0 : Int) ≤ (v : Int); omega, by show (v : Int) ≤ 1000000000; omega⟩
      have fin : ∀ (q : Nat × Int) (cs' : List Int) (n' : Int), PushOk t q → Good (b + 3 * todo.length) cs' n' → inv55 t most late b c R (done ++ [D.int (done.length : Int)]) todo ⟨[some (.ref 1), some (treeD t), some (natD most), some (natD late), some (.ref (R.length + 2)), some (.int (done.length : Int)), some (pushD (m, (v : Int)))], noX⟩ (dk cs' n' ++ (R ++ [.lst ((ps ++ [q]).map pushD)])) := fun q cs' n' hq g => by
        refine ⟨by rw [← e]; simp, ps ++ [q], cs', n', _, _, rfl, rfl, fun x hx => ?_, by simp [hl], g⟩
        rcases List.mem_append.mp hx with hx | hx
        · exact hps x hx
        · rw [show x = q by simpa using hx]; exact hq
      walk_at "go1"
      have em : ∀ (cs : List Int) (n : Int), (dk cs n ++ (R ++ [Cell.lst (ps.map pushD)]))[R.length + 2]? = some (.lst (ps.map pushD)) := fun cs n => get_dk cs n R _
      have hpl : Pl 2 (.lst (ps.map pushD)) := .lst fun d hd => by
        obtain ⟨p, _, rfl⟩ := List.mem_map.mp hd
        exact pl_push p
      refine ⟨hpl.eqRef (by decide) (em _ _), (show Pl 1 (.lst []) from .lst (h := 0) fun d hd => nomatch hd).eqOk (by decide) _, ?_⟩
      rw [vw_ref (em _ _), eqv_nil]
      have last : ∀ (q : Nat × Int) (cs' : List Int) (n' : Int), PushOk t q → Good (b + 3 * todo.length) cs' n' → inv55 t most late b c R (done ++ [D.int (done.length : Int)]) todo ⟨[some (.ref 1), some (treeD t), some (natD most), some (natD late), some (.ref (R.length + 2)), some (.int (done.length : Int)), some (pushD (m, (v : Int)))], noX⟩ (List.set (dk cs' n' ++ (R ++ [Cell.lst (ps.map pushD)])) (R.length + 2) (Cell.lst (ps.map pushD ++ [pushD q]))) := fun q cs' n' hq g => by
        rw [set_dk, show ps.map pushD ++ [pushD q] = (ps ++ [q]).map pushD by simp]
        exact fin q cs' n' hq g
      cases ps with
      | nil =>
        rw [List.map_nil, decide_eq_true rfl]
        walk_at "go1"
        have e0 := em cs n
        rw [List.map_nil] at e0
        rw [e0]
        walk_at "go1"
        exact last (m, (v : Int)) cs n hp (g.le (by omega))
      | cons q qs =>
        rw [List.map_cons, decide_eq_false (by simp)]
        walk_at "go1"
        refine dr (b := b + 3 * todo.length) g (by decide) (by decide) fun r cs n hr g => ?_
        have e0 := em cs n
        rw [List.map_cons] at e0
        walk_at "go1"
        refine ite_dec (fun h => ?_) (fun h => ?_)
        · walk_at "go1"
          rw [e0]
          walk_at "go1"
          rw [e0]
          walk_at "go1"
          exact ⟨by rw [List.length_cons] at hl; omega, last q cs n (hps q List.mem_cons_self) g⟩
        · walk_at "go1"
          rw [e0]
          walk_at "go1"
          exact ⟨by rw [List.length_cons] at hl; omega, last (m, (v : Int)) cs n hp g⟩
    · rintro done ρ M ⟨e, ps, cs, n, x5, x6, rfl, rfl, hps, hl, g⟩
      rw [List.append_nil] at e
      have hd := congrArg List.length e
      rw [rng_length] at hd
      walk_at "go1"
      rw [get_dk]
      walk_at "go1"
      refine see_dk hM ?_ (k ps cs n (by omega) hps g)
      exact bels_of fun d hd => by
        obtain ⟨p, _, rfl⟩ := List.mem_map.mp hd
        rfl
def spState55 : DSp := fun args M Q _ => ∃ (cs : List Int) (n : Int) (R : Sto) (marks most b : Nat), args = [.ref 1, natD marks, natD most] ∧ M = dk cs n ++ R ∧ Good (b + 150) cs n ∧ 1 ≤ marks ∧ marks ≤ 12 ∧ most ≤ 20 ∧ ∀ (s : FS) cs' n', StOk s → Good b cs' n' → Q (stateD s) (dk cs' n' ++ R)
theorem c__law_state (T : Tp K mg) : Cl P w K mg base "_law_state" (4 + 1) ["_law_deck_here", "_law_marks", "_law_most"] spState55 := by
  obtain ⟨f, fd, F, hm⟩ := T.d__law_state.ex
  have S := sc__law_state
  have B := T.bn
  have c__law_draw := @c__law_draw P w K mg base T
  have c__law_pushes := @c__law_pushes P w K mg base T
  have c__law_tree := @c__law_tree P w K mg base T
  refine ⟨⟨f, fd, fnD F S (fun args M Q E h => by (repeat (obtain ⟨_, h⟩ := h)); subst_vars; rfl) (fun cdv A outer s H E hgd hr => ⟨_, (ds_cons (dss 3 S.nd (d_cmp (o_eq hr.units) (d_cl c__law_draw hgd (hr.mono (by first | decide | omega)) (d_cons (dv 0) (d_cons d_int d_nil))) d_int))
  (ds_cons (dss 4 S.nd (d_cl c__law_tree hgd (hr.mono (by first | decide | omega)) (d_cons (dv 0) (d_cons (dv 1) (d_cons (d_ix (d_lst (d_cons d_int (d_cons (d_op o_pow d_int d_int) d_nil))) (d_callTy o_int1 (by rfl) B.int b_int (d_cons (dv 3) d_nil)) (fun _ _ => rfl)) d_nil)))))
  (ds_one (ds_ret (d_tup (d_cons (dv 4) (d_cons (d_cl c__law_pushes hgd (hr.mono (by first | decide | omega)) (d_cons (dv 0) (d_cons (dv 4) (d_cons (dv 2) (d_cons (d_ix (d_lst (d_cons d_int (d_cons (d_op o_pow d_int d_int) d_nil))) (d_callTy o_int1 (by rfl) B.int b_int (d_cons (dv 3) d_nil)) (fun _ _ => rfl)) d_nil))))) d_nil))))))), fun args M Q E' hM hA h => ?_⟩), hm, F.kp, (F.binds (ps := ["_law_deck_here", "_law_marks", "_law_most"]) fun _ _ _ _ _ _ us hl => match us, hl with | [_, _, _], _ => rfl)⟩, ?_⟩
  rotate_left
  · exact fun args M Q Q' E E' w _ ⟨x0, x1, x2, x3, x4, x5, x6, x7, x8, x9, x10, x11, k⟩ => ⟨x0, x1, x2, x3, x4, x5, x6, x7, x8, x9, x10, x11, fun y0 y1 y2 y3 y4 => w _ _ (k y0 y1 y2 y3 y4)⟩
  · obtain ⟨cs, n, R, marks, most, b, rfl, rfl, g, m1, m2, m3, k⟩ := h
    walk_at "go1"
    refine dr (b := b + 149) g (by omega) (by omega) fun c cs n hc g => ?_
    walk_at "go1"
    obtain ⟨long, e1, l1, l2⟩ : ∃ long : Nat, atI [D.int 6, D.int 1000000] (if decide ((c : Int) = 0) = true then 1 else 0) = some (natD long) ∧ 1 ≤ long ∧ long ≤ 1000000 := by
      by_cases h : (c : Int) = 0
      · rw [if_pos (decide_eq_true h)]; exact ⟨1000000, atI_1 _ _ _, by omega, by omega⟩
      · rw [if_neg (by rw [decide_eq_false h]; decide)]; exact ⟨6, atI_0 _ _, by omega, by omega⟩
    obtain ⟨late, e2, l3⟩ : ∃ late : Nat, atI [D.int 12, D.int 1000000000] (if decide ((c : Int) = 0) = true then 1 else 0) = some (natD late) ∧ late ≤ 1000000000 := by
      by_cases h : (c : Int) = 0
      · rw [if_pos (decide_eq_true h)]; exact ⟨1000000000, atI_1 _ _ _, by omega⟩
      · rw [if_neg (by rw [decide_eq_false h]; decide)]; exact ⟨12, atI_0 _ _, by omega⟩
    rw [e1]
    walk_at "go1"
    refine ⟨cs, n, R, marks, long, b + 80, rfl, rfl, g.le (by omega), m1, m2, l1, l2, fun t cs n ht hl g => ?_⟩
    walk_at "go1"
    rw [e2]
    walk_at "go1"
    refine ⟨cs, n, R, t, most, late, b, rfl, rfl, g.le (by omega), ht, m3, l3, fun ps cs n hpl hps g => ?_⟩
    walk_at "go1"
    exact See.keep (k (t, ps) cs n ⟨ht, hpl, hps⟩ g)
/-! ### field_text -/
def spPushText : DSp := fun args M Q _ => ∃ (p : Nat × Int), args = [pushD p] ∧ p.1 ≤ 1000000000 ∧ 0 ≤ p.2 ∧ p.2 ≤ 1000000000 ∧ Q (.str (pushT p)) M
theorem c_push_text (T : Tp K mg) : Cl P w K mg base "push_text" (0 + 1) ["push"] spPushText := by
  obtain ⟨f, fd, F, hm⟩ := T.d_push_text.ex
  have S := sc_push_text
  have B := T.bn
  refine ⟨⟨f, fd, fnD F S (fun args M Q E h => by (repeat (obtain ⟨_, h⟩ := h)); subst_vars; rfl) (fun cdv A outer s H E hgd hr => ⟨_, (ds_cons (ds_asg (dv 0) (dg_tupL (n := 2) rfl (dgs_cons (dgn 1 S.nd) (dgs_cons (dgn 2 S.nd) dgs_nil))))
  (ds_one (ds_ret (d_joined (dj_cons (d_fmt (dv 1)) (dj_cons d_str (dj_cons (d_fmt (dv 2)) dj_nil))))))), fun args M Q E' hM hA h => ?_⟩), hm, F.kp, (F.binds (ps := ["push"]) fun _ _ _ _ _ _ us hl => match us, hl with | [_], _ => rfl)⟩, ?_⟩
  rotate_left
  · exact fun args M Q Q' E E' w _ ⟨x0, x1, x2, x3, x4, k⟩ => ⟨x0, x1, x2, x3, x4, w _ _ k⟩
  · obtain ⟨p, rfl, h1, h2, h3, k⟩ := h
    have ha := num_bnd (i := (p.1 : Int)) (by omega) (by omega)
    have hb := num_bnd h2 h3
    obtain ⟨l1, l2, l3⟩ := fmt_ok ha hb c2
    walk_at "go1"
    refine ⟨(numT_ok ha).1, l1, ?_⟩
    walk_at "go1"
    refine ⟨(numT_ok hb).1, l3, ?_⟩
    walk_at "go1"
    rw [empty_app]
    exact See.keep k
theorem text_join {n : Nat} {xs : List Str} (hn : n ≤ 1000) (h : ∀ x ∈ xs, x.length ≤ n) (hl : xs.length ≤ 100) : (xs.map (·.length)).sum + xs.length * Str.length (" " : Str) ≤ 16777216 := by
  have h1 := sum_le (fun x : Str => x.length) h
  have h2 : xs.length * n ≤ 100 * 1000 := Nat.mul_le_mul hl hn
  rw [c3]
  omega
theorem strs_map {α : Type} (f : α → Str) (l : List α) : strsOf (l.map fun x => D.str (f x)) = some (l.map f) := by
  rw [show (l.map fun x => D.str (f x)) = (l.map f).map D.str by rw [List.map_map]; rfl]
  exact strsOf_map _
theorem push_lens {s : FS} (ho : StOk s) : ∀ x ∈ s.2.map pushT, x.length ≤ 27 := fun x hx => by
  obtain ⟨p, hp, rfl⟩ := List.mem_map.mp hx
  have h := ho.ps p hp
  have := ho.tr.1
  have h3 : p.1 ≤ s.1.length := h.1
  exact push_len (by omega) h.2.1 h.2.2
theorem row_lens {t : Tr} (ht : TreeOk t) : ∀ x ∈ t.map rowT, x.length ≤ 27 := fun x hx => by
  obtain ⟨p, hp, rfl⟩ := List.mem_map.mp hx
  have h := row_bnd ht hp
  exact row_len h.1 h.2
theorem all_lens {s : FS} (ho : StOk s) : ∀ x ∈ (rowsT s.1 ++ ";") :: s.2.map pushT, x.length ≤ 401 := fun x hx => by
  rcases List.mem_cons.mp hx with rfl | hx
  · rw [len_app, show Str.length (";" : Str) = 1 by decide +kernel]
    have := rows_len ho.tr
    omega
  · exact Nat.le_trans (push_lens ho x hx) (by decide)
theorem text_strs (s : FS) : strsOf (D.str (Str.join " " (List.map rowT s.1) ++ ";") :: List.map (fun p => D.str (pushT p)) s.2) = some ((rowsT s.1 ++ ";") :: s.2.map pushT) := by
  rw [show (D.str (Str.join " " (List.map rowT s.1) ++ ";") :: List.map (fun p => D.str (pushT p)) s.2) = ((rowsT s.1 ++ ";") :: s.2.map pushT).map D.str by rw [List.map_cons, List.map_map]; rfl]
  exact strsOf_map _
def spFieldText : DSp := fun args M Q _ => ∃ (s : FS), args = [treeD s.1, psD s.2] ∧ StOk s ∧ Q (.str (textS s)) M
theorem c_field_text (T : Tp K mg) : Cl P w K mg base "field_text" (1 + 1) ["tree", "pushes"] spFieldText := by
  obtain ⟨f, fd, F, hm⟩ := T.d_field_text.ex
  have S := sc_field_text
  have B := T.bn
  have c_push_text := @c_push_text P w K mg base T
  obtain ⟨t_BEHIND, m_BEHIND⟩ := T.k_BEHIND
  refine ⟨⟨f, fd, fnD F S (fun args M Q E h => by (repeat (obtain ⟨_, h⟩ := h)); subst_vars; rfl) (fun cdv A outer s H E hgd hr => ⟨_, (ds_cons (dss 2 S.nd (d_join d_str (d_lcI (own := [("parent", 3), ("length", 4)]) rfl S.nd (di_seq (dv 0)) (blkOk_by (N := ["tree", "pushes", "rows", "parent", "length", "push"]) (sc := defScope s_field_text) (by decide +kernel)) (by decide) (fun _ _ _ _ _ => (dg_tup (n := 2) rfl (dgs_cons (dgn 3 S.nd) (dgs_cons (dgn 4 S.nd) dgs_nil)))) (fun _ _ _ _ _ => dts_nil) (fun _ _ _ _ _ => (d_joined (dj_cons (d_fmt (dv 3)) (dj_cons d_str (dj_cons (d_fmt (dv 4)) dj_nil))))))))
  (ds_one (ds_ret (d_join d_str (d_lst (d_cons (d_op o_add (dv 2) (d_globS (by rfl) m_BEHIND)) (d_star (d_lcI (own := [("push", 5)]) rfl S.nd (di_seq (dv 1)) (blkOk_by (N := ["tree", "pushes", "rows", "parent", "length", "push"]) (sc := defScope s_field_text) (by decide +kernel)) (by decide) (fun _ _ _ _ _ => (dgn 5 S.nd)) (fun _ _ _ _ _ => dts_nil) (fun _ _ _ _ _ => (d_cl c_push_text hgd (hr.mono (by first | decide | omega)) (d_cons (dv 5) d_nil)))) d_nil))))))), fun args M Q E' hM hA h => ?_⟩), hm, F.kp, (F.binds (ps := ["tree", "pushes"]) fun _ _ _ _ _ _ us hl => match us, hl with | [_, _], _ => rfl)⟩, ?_⟩
  rotate_left
  · exact fun args M Q Q' E E' w _ ⟨x0, x1, x2, k⟩ => ⟨x0, x1, x2, w _ _ k⟩
  · obtain ⟨s, rfl, ho, k⟩ := h
    have hl := ho.len
    have ht := ho.tr.1
    walk_at "go1"
    refine lc_mapL rowD (fun p => .str (rowT p)) (L := s.1) (st := stYes) (M := M) trivial (by omega) (fun p hp kk hk => ?_) ?_
    · have hb := row_bnd ho.tr hp
      have ha := num_bnd (i := (p.1 : Int)) (by omega) (by omega)
      have hb := num_bnd (i := (p.2 : Int)) (by omega) (by omega)
      obtain ⟨l1, l2, l3⟩ := fmt_ok ha hb c1
      walk_at "go1"
      refine ⟨(numT_ok ha).1, l1, ?_⟩
      walk_at "go1"
      refine ⟨(numT_ok hb).1, l3, ?_⟩
      walk_at "go1"
      rw [empty_app]
      exact hk
    · have hj := text_join (n := 27) (by decide) (row_lens ho.tr) (by rw [List.length_map]; omega)
      walk_at "go1"
      rw [strs_map]
      refine ⟨hj, ?_⟩
      have hx : (Str.join " " (List.map rowT s.1)).length + Str.length (";" : Str) ≤ 100000 := by
        have := rows_len ho.tr
        rw [show Str.length (";" : Str) = 1 by decide +kernel]
        unfold rowsT at this
        omega
      walk_at "go1"
      refine lc_mapL pushD (fun p => .str (pushT p)) (L := s.2) (st := stYes) (M := M) trivial (by omega) (fun p hp kk hk => ?_) ?_
      · walk_at "go1"
        have h := ho.ps p hp
        have h3 : p.1 ≤ s.1.length := h.1
        exact ⟨p, rfl, by omega, h.2.1, h.2.2, hk⟩
      · walk_at "go1"
        rw [text_strs]
        exact ⟨text_join (n := 401) (by decide) (all_lens ho) (by rw [List.length_cons, List.length_map]; omega), See.keep k⟩
/-! ### _law_accepted_right -/
def spAcc : DSp := fun args M Q _ => ∃ (x : Str), args = [.str x] ∧ x.length ≤ 90000 ∧ okS x ∧ Q (.bl true) M
theorem c__law_accepted_right (T : Tp K mg) : Cl P w K mg base "_law_accepted_right" (5 + 1) ["_law_text"] spAcc := by
  obtain ⟨f, fd, F, hm⟩ := T.d__law_accepted_right.ex
  have S := sc__law_accepted_right
  have B := T.bn
  have c_field_text := @c_field_text P w K mg base T
  have c_parse_field := @c_parse_field P w K mg base T
  refine ⟨⟨f, fd, fnD F S (fun args M Q E h => by (repeat (obtain ⟨_, h⟩ := h)); subst_vars; rfl) (fun cdv A outer s H E hgd hr => ⟨_, (ds_cons (ds_tryN T.g_BadText (fun pn xe po => (ds_one (dss 1 S.nd (d_cl c_parse_field hgd (hr.mono (by first | decide | omega)) (d_cons (dv 0) d_nil)))))
  (fun a oe cls d pn hz hf => (ds_one (ds_ret d_bl))))
  (ds_one (ds_ret (d_cmp (o_eq hr.units) (d_cl c_field_text hgd (hr.mono (by first | decide | omega)) (d_cons (d_ix (dv 1) d_int (fun _ _ => rfl)) (d_cons (d_ix (dv 1) d_int (fun _ _ => rfl)) d_nil))) (dv 0))))), fun args M Q E' hM hA h => ?_⟩), hm, F.kp, (F.binds (ps := ["_law_text"]) fun _ _ _ _ _ _ us hl => match us, hl with | [_], _ => rfl)⟩, ?_⟩
  rotate_left
  · exact fun args M Q Q' E E' w _ ⟨x0, x1, x2, x3, k⟩ => ⟨x0, x1, x2, x3, w _ _ k⟩
  · obtain ⟨x, rfl, hx, hok, k⟩ := h
    walk_at "go1"
    refine ⟨_, fun _ _ _ _ h => h, ?_⟩
    walk_at "go1"
    refine ⟨.str x, rfl, rfl, fun y e => by cases e; exact ⟨hx, hok⟩, fun s hs => ?_, fun i hi => ?_⟩
    · have hf := fieldV_inl hs
      obtain ⟨ho, e⟩ := fieldP_back hf
      walk_at "go1"
      refine ⟨s, rfl, ho, ?_⟩
      rw [e]
      walk_at "go1"
      exact See.keep k
    · refine ⟨true, T.m_BadText_BadText, fun _ a o => ?_, fun h => by cases h⟩
      walk_at "go1"
      exact See.keep k
/-! ### _law_words_right -/
def spHung : DSp := fun args M Q _ => ∃ (t : Tr) (m l : Nat), args = [treeD t, natD m, natD l] ∧ t.length ≤ 10 ∧ Q (treeD (t ++ [(m, l)])) M
theorem c_hung (T : Tp K mg) : Cl P w K mg base "hung" (0 + 1) ["tree", "mark", "length"] spHung := by
  obtain ⟨f, fd, F, hm⟩ := T.d_hung.ex
  have S := sc_hung
  have B := T.bn
  obtain ⟨t_MAX_MARKS, m_MAX_MARKS⟩ := T.k_MAX_MARKS
  refine ⟨⟨f, fd, fnD F S (fun args M Q E h => by (repeat (obtain ⟨_, h⟩ := h)); subst_vars; rfl) (fun cdv A outer s H E hgd hr => ⟨_, (ds_cons (ds_if (dt_cmp o_gt (d_op o_add (d_callB o_len (by rfl) B.len b_len (d_cons (dv 0) d_nil)) d_int) (d_glob (by rfl) m_MAX_MARKS)) (ds_one ds_never) ds_nil)
  (ds_one (ds_ret (d_tup (d_star (dv 0) (d_cons (d_tup (d_cons (dv 1) (d_cons (dv 2) d_nil))) d_nil)))))), fun args M Q E' hM hA h => ?_⟩), hm, F.kp, (F.binds (ps := ["tree", "mark", "length"]) fun _ _ _ _ _ _ us hl => match us, hl with | [_, _, _], _ => rfl)⟩, ?_⟩
  rotate_left
  · exact fun args M Q Q' E E' w _ ⟨x0, x1, x2, x3, x4, k⟩ => ⟨x0, x1, x2, x3, x4, w _ _ k⟩
  · obtain ⟨t, m, l, rfl, ht, k⟩ := h
    walk_at "go1"
    rw [show decide ((12 : Int) < (t.length : Int) + 2) = false from decide_eq_false (by omega)]
    walk_at "go1"
    refine See.keep ?_
    rw [show t.map rowD ++ [D.tup [D.int (m : Int), D.int (l : Int)]] = (t ++ [(m, l)]).map rowD by rw [List.map_append]; rfl]
    exact k
theorem okS_num (i : Int) : okS (numT i) := okS_of _
theorem okS_text (s : FS) : okS (textS s) := by
  unfold textS rowsT
  refine okS_join (okS_of " ") fun t ht => ?_
  rcases List.mem_cons.mp ht with rfl | ht
  · refine okS_app (okS_join (okS_of " ") fun x hx => ?_) (okS_of ";")
    obtain ⟨p, _, rfl⟩ := List.mem_map.mp hx
    exact okS_app (okS_app (okS_num _) (okS_of ":")) (okS_num _)
  · obtain ⟨p, _, rfl⟩ := List.mem_map.mp ht
    exact okS_app (okS_app (okS_num _) (okS_of "@")) (okS_num _)
theorem headW_last (t : Tr) : ∃ (H : List Str) (u : Str), headW t = H ++ [u ++ ";"] ∧ H.length + 1 = max 1 t.length := by
  rcases rev_cases t with rfl | ⟨r, p, rfl⟩
  · exact ⟨[], "", by decide +kernel, rfl⟩
  · exact ⟨r.map rowT, rowT p, headW_snoc r p, by rw [List.length_map, List.length_append, List.length_singleton]; omega⟩
theorem last_off (u : Str) : cutS (u ++ ";") (some (-1)) none = ";" := by
  rw [C8.cutS_slice]
  have h1 : (u ++ ";" : Str) = SX.S (TL.tl u ++ [59]) := TL.ext_tl (by rw [TL.tl_append, tl_sc])
  rw [h1, SX.last_snoc]
  exact TL.ext_tl tl_sc.symm
theorem t_nil {t : Tr} : decide (t.map rowD = []) = decide (t = []) := by
  cases t with
  | nil => rfl
  | cons p ps => rfl
theorem tree_snoc {t : Tr} (ht : TreeOk t) (hl : t.length ≤ 10) {p l : Nat} (hp : p ≤ t.length) (h1 : 1 ≤ l) (h2 : l ≤ 1000000) : TreeOk (t ++ [(p, l)]) := by
  refine ⟨by rw [List.length_append, List.length_singleton]; omega, fun k q e => ?_⟩
  by_cases hk : k < t.length
  · rw [List.getElem?_append_left hk] at e
    exact ht.2 k q e
  · rw [List.getElem?_append_right (by omega)] at e
    have hk0 : k - t.length = 0 := by
      have := (List.getElem?_eq_some_iff.mp e).1
      rw [List.length_singleton] at this
      omega
    rw [hk0] at e
    cases e
    exact ⟨by show p ≤ k; omega, h1, h2⟩
def spWordsR : DSp := fun args M Q _ => ∃ (cs : List Int) (n : Int) (R : Sto) (s : FS) (b : Nat), args = [.ref 1, treeD s.1, psD s.2] ∧ M = dk cs n ++ R ∧ Good (b + 3) cs n ∧ StOk s ∧ ∀ (cs' : List Int) (n' : Int), Good b cs' n' → Q (.bl true) (dk cs' n' ++ R)
theorem c__law_words_right (T : Tp K mg) : Cl P w K mg base "_law_words_right" (6 + 1) ["_law_deck_here", "_law_tree_here", "_law_pushes_here"] spWordsR := by
  obtain ⟨f, fd, F, hm⟩ := T.d__law_words_right.ex
  have S := sc__law_words_right
  have B := T.bn
  have c__law_draw := @c__law_draw P w K mg base T
  have c_field_text := @c_field_text P w K mg base T
  have c_hung := @c_hung P w K mg base T
  refine ⟨⟨f, fd, fnD F S (fun args M Q E h => by (repeat (obtain ⟨_, h⟩ := h)); subst_vars; rfl) (fun cdv A outer s H E hgd hr => ⟨_, (ds_cons (dsp2 3 4 S.nd (d_cons (d_split (d_cl c_field_text hgd (hr.mono (by first | decide | omega)) (d_cons (dv 1) (d_cons (dv 2) d_nil))) d_str) (d_cons (d_callB (o_max2 rfl) (by rfl) B.max b_max (d_cons d_int (d_cons (d_callB o_len (by rfl) B.len b_len (d_cons (dv 1) d_nil)) d_nil))) d_nil)))
  (ds_cons (ds_if (DW.dt (dw_or (dt_cmp (o_ne hr.units) (d_callB o_len (by rfl) B.len b_len (d_cons (dv 3) d_nil)) (d_op o_add (dv 4) (d_callB o_len (by rfl) B.len b_len (d_cons (dv 2) d_nil)))) (dw_or1 (dt_cmp (o_ne hr.units) (d_slice (d_ix (dv 3) (d_op o_sub (dv 4) d_int) (fun _ _ => rfl)) (do_some (d_un o_neg d_int)) do_none) d_str)))) (ds_one (ds_ret d_bl)) ds_nil)
  (ds_cons (ds_if (dt_cmp (o_ne hr.units) (d_split (d_cl c_field_text hgd (hr.mono (by first | decide | omega)) (d_cons (dv 1) (d_cons (d_revT (dv 2) (do_some (d_un o_neg d_int))) d_nil))) d_str) (d_op o_add (d_slice (dv 3) do_none (do_some (dv 4))) (d_sliceSA (d_slice (dv 3) (do_some (dv 4)) do_none) do_none do_none (do_some (d_un o_neg d_int))))) (ds_one (ds_ret d_bl)) ds_nil)
  (ds_cons (dss 5 S.nd (d_cl c__law_draw hgd (hr.mono (by first | decide | omega)) (d_cons (dv 0) (d_cons (d_op o_add (d_callB o_len (by rfl) B.len b_len (d_cons (dv 2) d_nil)) d_int) d_nil))))
  (ds_cons (dss 6 S.nd (d_op o_add (d_split (d_cl c_field_text hgd (hr.mono (by first | decide | omega)) (d_cons (dv 1) (d_cons (d_slice (dv 2) do_none (do_some (dv 5))) d_nil))) d_str) (d_slice (d_split (d_cl c_field_text hgd (hr.mono (by first | decide | omega)) (d_cons (dv 1) (d_cons (d_slice (dv 2) (do_some (dv 5)) do_none) d_nil))) d_str) (do_some (dv 4)) do_none)))
  (ds_cons (ds_if (dt_cmp (o_ne hr.units) (dv 6) (dv 3)) (ds_one (ds_ret d_bl)) ds_nil)
  (ds_cons (ds_if (DW.dt (dw_and (dt_cmp o_lt (d_callB o_len (by rfl) B.len b_len (d_cons (dv 1) d_nil)) d_int) (dw_and1 (dt_cmp (o_ne hr.units) (dv 1) (d_tup d_nil))))) (ds_cons (dsp2 7 8 S.nd (d_cons (d_cl c__law_draw hgd (hr.mono (by first | decide | omega)) (d_cons (dv 0) (d_cons (d_op o_add (d_callB o_len (by rfl) B.len b_len (d_cons (dv 1) d_nil)) d_int) d_nil))) (d_cons (d_op o_add d_int (d_cl c__law_draw hgd (hr.mono (by first | decide | omega)) (d_cons (dv 0) (d_cons (d_op o_pow d_int d_int) d_nil)))) d_nil)))
  (ds_cons (dss 9 S.nd (d_split (d_cl c_field_text hgd (hr.mono (by first | decide | omega)) (d_cons (d_cl c_hung hgd (hr.mono (by first | decide | omega)) (d_cons (dv 1) (d_cons (dv 7) (d_cons (dv 8) d_nil)))) (d_cons (dv 2) d_nil))) d_str))
  (ds_one (ds_ret (d_cmp (o_eq hr.units) (dv 9) (d_op o_add (d_op o_add (d_slice (dv 3) do_none (do_some (d_op o_sub (dv 4) d_int))) (d_lst (d_cons (d_slice (d_ix (dv 3) (d_op o_sub (dv 4) d_int) (fun _ _ => rfl)) do_none (do_some (d_un o_neg d_int))) (d_cons (d_op o_add (d_op o_add (d_op o_add (d_callTy o_str (by rfl) B.str b_str (d_cons (dv 7) d_nil)) d_str) (d_callTy o_str (by rfl) B.str b_str (d_cons (dv 8) d_nil))) d_str) d_nil)))) (d_slice (dv 3) (do_some (dv 4)) do_none))))))) ds_nil)
  (ds_one (ds_ret d_bl))))))))), fun args M Q E' hM hA h => ?_⟩), hm, F.kp, (F.binds (ps := ["_law_deck_here", "_law_tree_here", "_law_pushes_here"]) fun _ _ _ _ _ _ us hl => match us, hl with | [_, _, _], _ => rfl)⟩, ?_⟩
  rotate_left
  · exact fun args M Q Q' E E' w _ ⟨x0, x1, x2, x3, x4, x5, x6, x7, x8, k⟩ => ⟨x0, x1, x2, x3, x4, x5, x6, x7, x8, fun y0 y1 y2 => w _ _ (k y0 y1 y2)⟩
  · obtain ⟨cs, n, R, ⟨t, ps⟩, b, rfl, rfl, g, ho, k⟩ := h
    have ht1 : t.length ≤ 11 := ho.tr.1
    have hl : ps.length ≤ 20 := ho.len
    have hsub : ∀ (qs : Ps), qs.length ≤ 20 → (∀ p ∈ qs, p ∈ ps) → StOk (t, qs) := fun qs h1 h2 => ⟨ho.tr, h1, fun p hp => ho.ps p (h2 p hp)⟩
    refine seq_mid (fun ρ M => ρ = ⟨[some (.ref 1), some (treeD t), some (psD ps), some (.lst ((wordsT (t, ps)).map D.str)), some (natD (max 1 t.length)), none, none, none, none, none], noX⟩ ∧ M = dk cs n ++ R) (fun nx hnx => ?_) ?_
    · walk_at "go1"
      refine ⟨(t, ps), rfl, ho, ?_⟩
      walk_at "go1"
      refine ⟨by decide +kernel, by have := text_len ho; rw [sizeLine_eq]; omega, ?_⟩
      rw [show Txt.split (textS (t, ps)) " " = wordsT (t, ps) from text_words ho]
      walk_at "go1"
      rw [show (if ((t.length : Nat) : Int) > 1 then ((t.length : Nat) : Int) else 1) = ((max 1 t.length : Nat) : Int) by split <;> omega]
      exact hnx _ _ ⟨rfl, rfl⟩
    rintro ρ M ⟨rfl, rfl⟩
    obtain ⟨H, u, eH, lH⟩ := headW_last t
    have hW : ∀ qs : Ps, wordsT (t, qs) = (H ++ [u ++ ";"]) ++ qs.map pushT := fun qs => by unfold wordsT; rw [eH]
    have hfx : ∀ qs : Ps, qs.length ≤ 20 → (∀ p ∈ qs, p ∈ ps) → Txt.split (textS (t, qs)) " " = (H ++ [u ++ ";"]) ++ qs.map pushT := fun qs h1 h2 => by
      rw [← hW]
      exact text_words (hsub qs h1 h2)
    have okW : ∀ w ∈ (H ++ [u ++ ";"]) ++ ps.map pushT, okS w := fun w hw => spl_okS (okS_text (t, ps)) (by rw [text_words ho, hW]; exact hw)
    rw [hW]
    have hrow : max 1 t.length = H.length + 1 := lH.symm
    rw [hrow]
    have hwl : ((H ++ [u ++ ";"]) ++ ps.map pushT).length = H.length + 1 + ps.length := by simp; omega
    have hat : atI (((H ++ [u ++ ";"]) ++ ps.map pushT).map D.str) ((H.length : Nat) : Int) = some (.str (u ++ ";")) := atI_of (j := H.length) rfl (by rw [List.append_assoc, List.map_append, List.getElem?_append_right (by rw [List.length_map]; omega), List.length_map, Nat.sub_self]; rfl)
    have okX : ∀ qs : Ps, (∀ p ∈ qs, p ∈ ps) → ∀ w ∈ (H ++ [u ++ ";"]) ++ qs.map pushT, okS w := fun qs h w hw => okW w (by
      rcases List.mem_append.mp hw with hw | hw
      · exact List.mem_append_left _ hw
      · obtain ⟨p, hp, rfl⟩ := List.mem_map.mp hw
        exact List.mem_append_right _ (List.mem_map_of_mem (h p hp)))
    have hT : ∀ qs : Ps, cut ((H ++ [u ++ ";"]) ++ qs.map pushT) none (some (((H.length + 1 : Nat)) : Int)) = H ++ [u ++ ";"] := fun qs => by rw [cut_to]; exact List.take_left' (by simp)
    have hD : ∀ qs : Ps, cut ((H ++ [u ++ ";"]) ++ qs.map pushT) (some (((H.length + 1 : Nat)) : Int)) none = qs.map pushT := fun qs => by rw [cut_from]; exact List.drop_left' (by simp)
    refine seq_mid (fun ρ M => ρ = ⟨[some (.ref 1), some (treeD t), some (psD ps), some (.lst (((H ++ [u ++ ";"]) ++ ps.map pushT).map D.str)), some (natD (H.length + 1)), none, none, none, none, none], noX⟩ ∧ M = dk cs n ++ R) (fun nx hnx => ?_) ?_
    · have no := hnx _ _ ⟨rfl, rfl⟩
      generalize hX : ((H ++ [u ++ ";"]) ++ ps.map pushT) = X at no hat hwl ⊢
      walk_at "go1"
      rw [hwl, show decide (((H.length + 1 + ps.length : Nat) : Int) = ((H.length + 1 : Nat) : Int) + ((ps.length : Nat) : Int)) = true from decide_eq_true (by omega)]
      walk_at "go1"
      rw [show ((H.length + 1 : Nat) : Int) - 1 = (H.length : Int) by omega, hat]
      walk_at "go1"
      have lu : (u ++ ";").length ≤ 100000 := by
        have h1 : (u ++ ";") ∈ splW (textS (t, ps)) := by rw [text_words ho, hW, hX]; rw [← hX]; simp
        have := spl_len h1
        have := text_len ho
        omega
      refine ⟨lu, ?_⟩
      rw [last_off]
      walk_at "go1"
      exact no
    rintro ρ M ⟨rfl, rfl⟩
    refine seq_mid (fun ρ M => ρ = ⟨[some (.ref 1), some (treeD t), some (psD ps), some (.lst (((H ++ [u ++ ";"]) ++ ps.map pushT).map D.str)), some (natD (H.length + 1)), none, none, none, none, none], noX⟩ ∧ M = dk cs n ++ R) (fun nx hnx => ?_) ?_
    · have no := hnx _ _ ⟨rfl, rfl⟩
      have r1 : ps.reverse.length ≤ 20 := by rw [List.length_reverse]; exact hl
      have r2 : ∀ p ∈ ps.reverse, p ∈ ps := fun p hp => List.mem_reverse.mp hp
      have hor := hsub _ r1 r2
      walk_at "go1"
      refine ⟨(t, ps.reverse), by rw [← List.map_reverse], hor, ?_⟩
      walk_at "go1"
      refine ⟨by decide +kernel, by have := text_len hor; rw [sizeLine_eq]; omega, ?_⟩
      rw [hfx _ r1 r2]
      walk_at "go1"
      simp only [cut_map]
      rw [hT, hD]
      walk_at "go1"
      rw [pick_rev, ← List.map_reverse, ← List.map_reverse]
      refine ⟨by rw [List.length_map, List.length_map, List.length_reverse]; omega, ?_⟩
      walk_at "go1"
      rw [← List.map_append]
      refine ⟨(pl_strs (okX _ r2)).eqOk (by decide) _, (pl_strs (okX _ r2)).eqOk (by decide) _, ?_⟩
      rw [eqv_strs, decide_eq_true rfl]
      walk_at "go1"
      exact no
    rintro ρ M ⟨rfl, rfl⟩
    refine seq_mid (fun ρ M => ∃ (cs : List Int) (n : Int) (c : Nat), ρ = ⟨[some (.ref 1), some (treeD t), some (psD ps), some (.lst (((H ++ [u ++ ";"]) ++ ps.map pushT).map D.str)), some (natD (H.length + 1)), some (natD c), none, none, none, none], noX⟩ ∧ M = dk cs n ++ R ∧ c ≤ ps.length ∧ Good (b + 2) cs n) (fun nx hnx => ?_) ?_
    · walk_at "go1"
      refine dr (b := b + 2) g (by omega) (by omega) fun c cs n hc g => ?_
      walk_at "go1"
      exact hnx _ _ ⟨cs, n, c, rfl, rfl, by omega, g⟩
    clear g
    rintro ρ M ⟨cs, n, c, rfl, rfl, hc, g⟩
    refine seq_mid (fun ρ M => ρ = ⟨[some (.ref 1), some (treeD t), some (psD ps), some (.lst (((H ++ [u ++ ";"]) ++ ps.map pushT).map D.str)), some (natD (H.length + 1)), some (natD c), some (.lst (((H ++ [u ++ ";"]) ++ ps.map pushT).map D.str)), none, none, none], noX⟩ ∧ M = dk cs n ++ R) (fun nx hnx => ?_) ?_
    · have no := hnx _ _ ⟨rfl, rfl⟩
      have hA := hsub (ps.take c) (by rw [List.length_take]; omega) (fun p hp => List.mem_of_mem_take hp)
      have hB := hsub (ps.drop c) (by rw [List.length_drop]; omega) (fun p hp => List.mem_of_mem_drop hp)
      have hc1 : cut (ps.map pushD) none (some (c : Int)) = (ps.take c).map pushD := by rw [cut_to, List.map_take]
      have hc2 : cut (ps.map pushD) (some (c : Int)) none = (ps.drop c).map pushD := by rw [cut_from, List.map_drop]
      walk_at "go1"
      rw [hc1]
      walk_at "go1"
      refine ⟨(t, ps.take c), rfl, hA, ?_⟩
      walk_at "go1"
      refine ⟨by decide +kernel, by have := text_len hA; rw [sizeLine_eq]; omega, ?_⟩
      rw [hfx _ hA.len (fun p hp => List.mem_of_mem_take hp)]
      walk_at "go1"
      rw [hc2]
      walk_at "go1"
      refine ⟨(t, ps.drop c), rfl, hB, ?_⟩
      walk_at "go1"
      refine ⟨by decide +kernel, by have := text_len hB; rw [sizeLine_eq]; omega, ?_⟩
      rw [hfx _ hB.len (fun p hp => List.mem_of_mem_drop hp)]
      walk_at "go1"
      simp only [cut_map]
      rw [hD]
      refine ⟨by simp only [List.length_map, List.length_take, List.length_drop]; omega, ?_⟩
      rw [← List.map_append, show (H ++ [u ++ ";"]) ++ (ps.take c).map pushT ++ (ps.drop c).map pushT = (H ++ [u ++ ";"]) ++ ps.map pushT by rw [List.append_assoc, ← List.map_append, List.take_append_drop]]
      walk_at "go1"
      exact no
    rintro ρ M ⟨rfl, rfl⟩
    have hpX := pl_strs okW
    refine seq_mid (fun ρ M => ρ = ⟨[some (.ref 1), some (treeD t), some (psD ps), some (.lst (((H ++ [u ++ ";"]) ++ ps.map pushT).map D.str)), some (natD (H.length + 1)), some (natD c), some (.lst (((H ++ [u ++ ";"]) ++ ps.map pushT).map D.str)), none, none, none], noX⟩ ∧ M = dk cs n ++ R) (fun nx hnx => ?_) ?_
    · have no := hnx _ _ ⟨rfl, rfl⟩
      generalize ((H ++ [u ++ ";"]) ++ ps.map pushT) = X at no hpX ⊢
      walk_at "go1"
      refine ⟨hpX.eqOk (by decide) _, hpX.eqOk (by decide) _, ?_⟩
      rw [hpX.same]
      walk_at "go1"
      exact no
    rintro ρ M ⟨rfl, rfl⟩
    have hC : cut (((H ++ [u ++ ";"]) ++ ps.map pushT).map D.str) none (some ((H.length : Nat) : Int)) = H.map D.str := by
      rw [cut_map, cut_to, List.append_assoc, List.take_left' rfl]
    have lu : (u ++ ";").length ≤ 100000 := by
      have h1 : (u ++ ";") ∈ splW (textS (t, ps)) := by rw [text_words ho, hW]; simp
      have := spl_len h1
      have := text_len ho
      omega
    walk_at "go1"
    refine ite_dec (fun h11 => ?_) (fun h11 => ?_)
    · walk_at "go1"
      refine ⟨(pl_tree t).eqOk (by decide) _, pl_unit.eqOk (by decide) _, ?_⟩
      rw [eqv_unit, t_nil]
      by_cases hn : t = []
      · rw [decide_eq_true hn]
        walk_at "go1"
        exact See.keep (k cs n (g.le (by omega)))
      rw [decide_eq_false hn]
      walk_at "go1"
      refine dr (b := b + 1) g (by omega) (by omega) fun m cs n hm g => ?_
      walk_at "go1"
      refine dr (b := b) g (by omega) (by omega) fun l cs n hl' g => ?_
      walk_at "go1"
      have hto : TreeOk t := ho.tr
      have ht' : TreeOk (t ++ [(m, 1 + l)]) := tree_snoc hto (by omega) (by omega) (by omega) (by omega)
      have ho' : StOk (t ++ [(m, 1 + l)], ps) := ⟨ht', hl, fun p hp => by
        have h := ho.ps p hp
        have h1 : p.1 ≤ t.length := h.1
        exact ⟨by show p.1 ≤ (t ++ [(m, 1 + l)]).length; rw [List.length_append]; omega, h.2⟩⟩
      have hmap : t.map rowT = H ++ [u] := by
        rcases rev_cases t with h | ⟨r, p, rfl⟩
        · exact absurd h hn
        · rw [headW_snoc] at eH
          obtain ⟨e1, e2⟩ := List.append_inj' eH rfl
          have e3 : rowT p ++ ";" = u ++ ";" := by simpa using e2
          have e4 := congrArg lastOff e3
          rw [lastOff_app, lastOff_app] at e4
          rw [List.map_append, e1, ← e4]
          rfl
      have hw' : Txt.split (textS (t ++ [(m, 1 + l)], ps)) " " = (H ++ [u, rowT (m, 1 + l) ++ ";"]) ++ ps.map pushT := by
        have := text_words ho'
        unfold wordsT at this
        rw [headW_snoc, hmap] at this
        rw [show (H ++ [u, rowT (m, 1 + l) ++ ";"]) = H ++ [u] ++ [rowT (m, 1 + l) ++ ";"] by simp]
        exact this
      refine ⟨t, m, 1 + l, rfl, by omega, ?_⟩
      walk_at "go1"
      refine ⟨(t ++ [(m, 1 + l)], ps), rfl, ho', ?_⟩
      walk_at "go1"
      refine ⟨by decide +kernel, by have := text_len ho'; rw [sizeLine_eq]; omega, ?_⟩
      rw [hw']
      walk_at "go1"
      rw [show ((H.length + 1 : Nat) : Int) - 1 = (H.length : Int) by omega, hC]
      walk_at "go1"
      rw [hat]
      walk_at "go1"
      have ha := num_bnd (i := (m : Int)) (by omega) (by omega)
      have hb := num_bnd (i := (1 : Int) + (l : Int)) (by omega) (by omega)
      have n1 := (numT_ok ha).2
      have n2 := (numT_ok hb).2
      unfold numT at n1 n2
      refine ⟨(numT_ok ha).1, by rw [c1]; omega, ?_⟩
      rw [show cutS (u ++ ";") none (some (-1)) = u from lastOff_app u]
      walk_at "go1"
      refine ⟨(numT_ok hb).1, by rw [len_app, c1]; omega, ?_⟩
      walk_at "go1"
      refine ⟨by rw [len_app, len_app, c1, show Str.length (";" : Str) = 1 by decide +kernel]; omega, ?_⟩
      walk_at "go1"
      have hp2 := pl_strs (ws := (H ++ [u, rowT (m, 1 + l) ++ ";"]) ++ ps.map pushT) fun w hw => spl_okS (okS_text (t ++ [(m, 1 + l)], ps)) (by
        show w ∈ Txt.split (textS (t ++ [(m, 1 + l)], ps)) " "
        rw [hw']
        exact hw)
      rw [cut_map, hD]
      refine ⟨by rw [List.length_map, List.length_map]; omega, ?_⟩
      rw [show H.map D.str ++ [D.str u, D.str (Str.ofString (toString ((m : Nat) : Int)) ++ ":" ++ Str.ofString (toString ((1 : Int) + ((l : Nat) : Int))) ++ ";")] ++ (ps.map pushT).map D.str = ((H ++ [u, rowT (m, 1 + l) ++ ";"]) ++ ps.map pushT).map D.str by rw [List.map_append, List.map_append]; rfl]
      refine ⟨hp2.eqOk (by decide) _, hp2.eqOk (by decide) _, ?_⟩
      rw [hp2.vw, hp2.same]
      exact See.keep (k cs n g)
    · walk_at "go1"
      exact See.keep (k cs n (g.le (by omega)))
/-! ### the law -/
theorem dat_tree {t : Tr} (h : t.length ≤ 100) : Dat 2 (treeD t) := .inr ⟨_, rfl, by rw [List.length_map]; exact h, fun x hx => by
  obtain ⟨p, _, rfl⟩ := List.mem_map.mp hx
  exact .inr ⟨_, rfl, (by show 2 ≤ 100; decide), fun y hy => by
    have : y = .int p.1 ∨ y = .int p.2 := by simpa using hy
    rcases this with rfl | rfl <;> exact .inr (.inl ⟨_, rfl⟩)⟩⟩
theorem dat_ps {ps : Ps} (h : ps.length ≤ 100) : Dat 2 (psD ps) := .inr ⟨_, rfl, by rw [List.length_map]; exact h, fun x hx => by
  obtain ⟨p, _, rfl⟩ := List.mem_map.mp hx
  exact .inr ⟨_, rfl, (by show 2 ≤ 100; decide), fun y hy => by
    have : y = .int p.1 ∨ y = .int p.2 := by simpa using hy
    rcases this with rfl | rfl <;> exact .inr (.inl ⟨_, rfl⟩)⟩⟩
theorem Dat.up : ∀ {k : Nat} {d : D}, Dat k d → Dat (k + 1) d
  | 0, d, h => .inl h
  | k + 1, d, h => by
    rcases h with h | ⟨ds, rfl, h1, h2⟩
    · exact .inl h
    · exact .inr ⟨ds, rfl, h1, fun x hx => (h2 x hx).up⟩
theorem dat_state {s : FS} (ho : StOk s) : Dat 4 (stateD s) := Dat.up (.inr ⟨_, rfl, (by show 2 ≤ 100; decide), fun y hy => by
  have : y = treeD s.1 ∨ y = psD s.2 := by simpa using hy
  rcases this with rfl | rfl
  · exact dat_tree (by have := ho.tr.1; omega)
  · exact dat_ps (by have := ho.len; omega)⟩)
def inv1 (ns : List Int) : List D → List D → Dn → Sto → Prop := fun done todo ρ M => done ++ todo = rng 0 4 ∧ ∃ (cs : List Int) (n : Int) (x2 x3 x4 x5 x6 x7 : Option D), ρ = ⟨[some (.scr ns), some (.ref 1), x2, x3, x4, x5, x6, x7], noX⟩ ∧ M = dk cs n ++ [] ∧ Good (300 * todo.length) cs n
def inv2 (ns : List Int) (x2 : Option D) (s : FS) (b : Nat) : List D → List D → Dn → Sto → Prop := fun done todo ρ M => done ++ todo = rng 0 10 ∧ ∃ (cs : List Int) (n : Int) (x6 x7 : Option D), ρ = ⟨[some (.scr ns), some (.ref 1), x2, some (treeD s.1), some (psD s.2), some (.str (textS s)), x6, x7], noX⟩ ∧ M = dk cs n ++ [] ∧ Good (b + 12 * todo.length) cs n
abbrev LEVEL : Nat := 30 + 1
set_option maxHeartbeats 4000000 in
theorem law_fn (T : Tp K mg) {f : Addr} {fd : FuncData} (F : Fun K "law" "law" s_law f fd) (base : Heap) : FnG P w K mg base (L2N.CX P w) LEVEL f fd ["_law_script"] (spOf K spLaw) := by
  have S := sc_law
  have B := T.bn
  have c__law_accepted_right := @c__law_accepted_right P w K mg base T
  have c__law_bent := @c__law_bent P w K mg base T
  have c__law_deck := @c__law_deck P w K mg base T
  have c__law_same := @c__law_same P w K mg base T
  have c__law_state := @c__law_state P w K mg base T
  have c__law_words_right := @c__law_words_right P w K mg base T
  have c_field_text := @c_field_text P w K mg base T
  have c_parse_field := @c_parse_field P w K mg base T
  refine fnD F S (fun args M Q E h => by (repeat (obtain ⟨_, h⟩ := h)); subst_vars; rfl) (fun cdv A outer s H E hgd hr => ⟨_, (ds_cons (dss 1 S.nd (d_cl c__law_deck hgd (hr.mono (by first | decide | omega)) (d_cons (dv 0) d_nil)))
  (ds_cons (ds_forI (passes_of rfl) rfl (di_range1 (by rfl) B.range (d_cons d_int d_nil)) (dgn 2 S.nd) (ds_cons (ds_asg (d_cl c__law_state hgd (hr.mono (by first | decide | omega)) (d_cons (dv 1) (d_cons d_int (d_cons d_int d_nil)))) (dg_tupL (n := 2) rfl (dgs_cons (dgn 3 S.nd) (dgs_cons (dgn 4 S.nd) dgs_nil))))
  (ds_cons (dss 5 S.nd (d_cl c_field_text hgd (hr.mono (by first | decide | omega)) (d_cons (dv 3) (d_cons (dv 4) d_nil))))
  (ds_cons (ds_if (DW.dt (dw_or (dt_not (dt_val (d_cl c__law_same hgd (hr.mono (by first | decide | omega)) (d_cons (d_cl c_parse_field hgd (hr.mono (by first | decide | omega)) (d_cons (dv 5) d_nil)) (d_cons (d_tup (d_cons (dv 3) (d_cons (dv 4) d_nil))) d_nil))))) (dw_or1 (dt_not (dt_val (d_cl c__law_words_right hgd (hr.mono (by first | decide | omega)) (d_cons (dv 1) (d_cons (dv 3) (d_cons (dv 4) d_nil))))))))) (ds_one (ds_ret d_bl)) ds_nil)
  (ds_one (ds_forI (passes_of rfl) rfl (di_range1 (by rfl) B.range (d_cons d_int d_nil)) (dgn 6 S.nd) (ds_cons (dss 7 S.nd (d_cl c__law_bent hgd (hr.mono (by first | decide | omega)) (d_cons (dv 1) (d_cons (dv 5) d_nil))))
  (ds_one (ds_if (DW.dt (dw_or (dt_not (dt_val (d_cl c__law_accepted_right hgd (hr.mono (by first | decide | omega)) (d_cons (dv 7) d_nil)))) (dw_or1 (dt_not (dt_val (d_cl c__law_accepted_right hgd (hr.mono (by first | decide | omega)) (d_cons (d_cl c__law_bent hgd (hr.mono (by first | decide | omega)) (d_cons (dv 1) (d_cons (dv 7) d_nil))) d_nil))))))) (ds_one (ds_ret d_bl)) ds_nil)))))))))
  (ds_one (ds_ret d_bl)))), fun args M Q E' hM hA h => ?_⟩)
  obtain ⟨ns, rfl, rfl, hl, k⟩ := h
  walk_at "go1"
  refine ⟨ns, rfl, rfl, hl, fun cs g => ?_⟩
  walk_at "go1"
  refine ⟨inv1 ns, ⟨rfl, cs, 0, _, _, _, _, _, _, rfl, (List.append_nil _).symm, g.le (by decide)⟩, fun _ _ _ _ _ => trivial, ?_, ?_⟩
  rotate_left
  · rintro done ρ M ⟨e, cs, n, x2, x3, x4, x5, x6, x7, rfl, rfl, g⟩
    walk_at "go1"
    exact See.keep (k _)
  rintro done d todo ρ M ⟨e, cs, n, x2, x3, x4, x5, x6, x7, rfl, rfl, g⟩
  obtain ⟨rfl, hlt⟩ := rng_at e
  rw [List.length_cons, Nat.mul_add] at g
  walk_at "go1"
  refine ⟨cs, n, [], 12, 20, 300 * todo.length + 150, rfl, rfl, g.le (by omega), by decide, by decide, by decide, fun s cs n ho g => ?_⟩
  walk_at "go1"
  refine ⟨s, rfl, ho, ?_⟩
  walk_at "go1"
  refine ⟨.str (textS s), rfl, rfl, fun x e => ?_, fun u hu => ?_, fun i hi => ?_⟩
  · cases e
    exact ⟨by have := text_len ho; omega, okS_text s⟩
  · rw [fieldV_of (fieldP_of ho)] at hu
    cases hu
    walk_at "go1"
    refine ⟨stateD s, rfl, dat_state ho, ?_⟩
    walk_at "go1"
    refine ⟨cs, n, [], s, 300 * todo.length + 147, rfl, (List.append_nil _).symm, g, ho, fun cs n g => ?_⟩
    walk_at "go1"
    refine ⟨inv2 ns (some (natD done.length)) s (300 * todo.length), ⟨rfl, cs, n, _, _, rfl, (List.append_nil _).symm, g.le (by rw [rng_length]; omega)⟩, fun _ _ _ _ _ => trivial, ?_, ?_⟩
    rotate_left
    · rintro done2 ρ M2 ⟨e2, cs, n, x6, x7, rfl, rfl, g⟩
      exact ⟨by rw [← e]; simp, cs, n, _, _, _, _, _, _, rfl, rfl, g.le (by omega)⟩
    rintro done2 d todo2 ρ M2 ⟨e2, cs, n, x6, x7, rfl, rfl, g⟩
    obtain ⟨rfl, hlt2⟩ := rng_at e2
    rw [List.length_cons, Nat.mul_add] at g
    have hl1 := text_len ho
    walk_at "go1"
    refine ⟨cs, n, [], textS s, 300 * todo.length + 12 * todo2.length + 6, rfl, (List.append_nil _).symm, g.le (by omega), okS_text s, by omega, fun y cs n oy ly g => ?_⟩
    walk_at "go1"
    refine ⟨y, rfl, by omega, oy, ?_⟩
    walk_at "go1"
    refine ⟨cs, n, [], y, 300 * todo.length + 12 * todo2.length, rfl, (List.append_nil _).symm, g.le (by omega), oy, by omega, fun z cs n oz lz g => ?_⟩
    walk_at "go1"
    refine ⟨z, rfl, by omega, oz, ?_⟩
    walk_at "go1"
    exact ⟨by rw [← e2]; simp, cs, n, _, _, rfl, (List.append_nil _).symm, g⟩
  · rw [fieldV_of (fieldP_of ho)] at hi
    cases hi
theorem sp_start : ∀ (K : PySem.W.Frag) (H : Hp) (a : Addr) (ns : List Int), ns.length ≤ 63 → Only H → SqL K H a (ns.map V.int) → spOf K spLaw [.ref a] H (fun v _ => v = .bl true) fun _ _ _ => False := fun K H a ns hl _ hS => scr_start hS fun Q hQ E' => ⟨ns, rfl, rfl, hl, hQ⟩
theorem law_binds {K : PySem.W.Frag} {f : Addr} {fd : FuncData} (F : Fun K "law" "law" s_law f fd) (s : Shared) (v : Value) : BindsTo s fd ⟨[v], []⟩ [("_law_script", v)] := by
  obtain ⟨oc, od, kV, doc, pm, an, cdv, ct, osl, rfl, _⟩ := F.ex
  exact .of_eq rfl
end
theorem all_mk {P : Program} {w : World} {K : PySem.W.Frag} {h : Heap} {mg : Str → Option Value} {fa : Addr} (X : K.In h) (G : h.Ns mainGlobals mg) (hfa : mg "law" = some (.ref fa)) (c : SaysH hCk hFn hTs w K)
    : ∃ fd : FuncData, (∀ (s : Shared) (v : Value), BindsTo s fd ⟨[v], []⟩ [("_law_script", v)]) ∧ ∀ base : Heap, K.In base → base.Ns mainGlobals mg → FnG P w K mg base (L2N.CX P w) LEVEL fa fd ["_law_script"] (spOf K spLaw) := by
  have gs_ : gsB K = true := (c.fact 44 (f := gsB) (by kernel_rfl))
  have h_BadText : mg "BadText" = some (.ref (He.ga K "BadText")) := He.glo_ok X G (c.fact 52 (f := fun K => (He.Fa.glo "BadText").ok K) (by kernel_rfl))
  have e_BadText : cls mg "BadText" = He.ga K "BadText" := cls_of h_BadText
  have h_FallError : mg "FallError" = some (.ref (He.ga K "FallError")) := He.glo_ok X G (c.fact 53 (f := fun K => (He.Fa.glo "FallError").ok K) (by kernel_rfl))
  have e_FallError : cls mg "FallError" = He.ga K "FallError" := cls_of h_FallError
  have x_BadText := c.exc gs_ 54 55 22 (eb := .value) (C := "BadText") (f := "index") (q := "BadText.__init__") (st := si_BadText) (by kernel_rfl) (by kernel_rfl) (by kernel_rfl) sci_BadText ⟨_, _, _, _, rfl⟩ (.inl rfl) (.inl rfl) (fun _ _ _ _ _ _ us hl => match us, hl with | [_, _], _ => rfl) (by decide) (by decide)
  have T : Tp K mg := ⟨⟨He.free_ok X G (c.fact 0 (f := fun K => (He.Fa.free "abs").ok K) (by kernel_rfl)), He.free_ok X G (c.fact 1 (f := fun K => (He.Fa.free "all").ok K) (by kernel_rfl)), He.free_ok X G (c.fact 2 (f := fun K => (He.Fa.free "any").ok K) (by kernel_rfl)), He.free_ok X G (c.fact 3 (f := fun K => (He.Fa.free "bool").ok K) (by kernel_rfl)), He.free_ok X G (c.fact 4 (f := fun K => (He.Fa.free "dict").ok K) (by kernel_rfl)), He.free_ok X G (c.fact 5 (f := fun K => (He.Fa.free "enumerate").ok K) (by kernel_rfl)), He.free_ok X G (c.fact 6 (f := fun K => (He.Fa.free "int").ok K) (by kernel_rfl)), He.free_ok X G (c.fact 7 (f := fun K => (He.Fa.free "isinstance").ok K) (by kernel_rfl)), He.free_ok X G (c.fact 8 (f := fun K => (He.Fa.free "len").ok K) (by kernel_rfl)), He.free_ok X G (c.fact 9 (f := fun K => (He.Fa.free "list").ok K) (by kernel_rfl)), He.free_ok X G (c.fact 10 (f := fun K => (He.Fa.free "max").ok K) (by kernel_rfl)), He.free_ok X G (c.fact 11 (f := fun K => (He.Fa.free "min").ok K) (by kernel_rfl)), He.free_ok X G (c.fact 12 (f := fun K => (He.Fa.free "range").ok K) (by kernel_rfl)), He.free_ok X G (c.fact 13 (f := fun K => (He.Fa.free "repr").ok K) (by kernel_rfl)), He.free_ok X G (c.fact 14 (f := fun K => (He.Fa.free "set").ok K) (by kernel_rfl)), He.free_ok X G (c.fact 15 (f := fun K => (He.Fa.free "sorted").ok K) (by kernel_rfl)), He.free_ok X G (c.fact 16 (f := fun K => (He.Fa.free "str").ok K) (by kernel_rfl)), He.free_ok X G (c.fact 17 (f := fun K => (He.Fa.free "sum").ok K) (by kernel_rfl)), He.free_ok X G (c.fact 18 (f := fun K => (He.Fa.free "tuple").ok K) (by kernel_rfl)), He.free_ok X G (c.fact 19 (f := fun K => (He.Fa.free "zip").ok K) (by kernel_rfl)), He.free_ok X G (c.fact 20 (f := fun K => (He.Fa.free "LookupError").ok K) (by kernel_rfl)), He.free_ok X G (c.fact 21 (f := fun K => (He.Fa.free "ValueError").ok K) (by kernel_rfl))⟩,
    c.df X G 22 0 (by kernel_rfl) (by kernel_rfl),
    c.df X G 23 1 (by kernel_rfl) (by kernel_rfl),
    c.df X G 24 2 (by kernel_rfl) (by kernel_rfl),
    c.df X G 25 3 (by kernel_rfl) (by kernel_rfl),
    c.df X G 26 4 (by kernel_rfl) (by kernel_rfl),
    c.df X G 27 5 (by kernel_rfl) (by kernel_rfl),
    c.df X G 28 6 (by kernel_rfl) (by kernel_rfl),
    c.df X G 29 7 (by kernel_rfl) (by kernel_rfl),
    c.df X G 30 8 (by kernel_rfl) (by kernel_rfl),
    c.df X G 31 9 (by kernel_rfl) (by kernel_rfl),
    c.df X G 32 10 (by kernel_rfl) (by kernel_rfl),
    c.df X G 33 11 (by kernel_rfl) (by kernel_rfl),
    c.df X G 34 12 (by kernel_rfl) (by kernel_rfl),
    c.df X G 35 13 (by kernel_rfl) (by kernel_rfl),
    c.df X G 36 14 (by kernel_rfl) (by kernel_rfl),
    c.df X G 37 15 (by kernel_rfl) (by kernel_rfl),
    c.df X G 38 16 (by kernel_rfl) (by kernel_rfl),
    c.df X G 39 17 (by kernel_rfl) (by kernel_rfl),
    c.df X G 40 18 (by kernel_rfl) (by kernel_rfl),
    c.df X G 41 19 (by kernel_rfl) (by kernel_rfl),
    c.df X G 42 20 (by kernel_rfl) (by kernel_rfl),
    c.df X G 43 21 (by kernel_rfl) (by kernel_rfl),
    He.str_ok X G (c.fact 45 (f := fun K => (He.Fa.str "BEHIND" ";").ok K) (by kernel_rfl)),
    He.str_ok X G (c.fact 46 (f := fun K => (He.Fa.str "FIGURES" "0123456789").ok K) (by kernel_rfl)),
    He.int_ok X G (c.fact 47 (f := fun K => (He.Fa.int "LONGEST" 10).ok K) (by kernel_rfl)),
    He.int_ok X G (c.fact 48 (f := fun K => (He.Fa.int "MAX_LENGTH" 1000000).ok K) (by kernel_rfl)),
    He.int_ok X G (c.fact 49 (f := fun K => (He.Fa.int "MAX_MARKS" 12).ok K) (by kernel_rfl)),
    He.int_ok X G (c.fact 50 (f := fun K => (He.Fa.int "MAX_PUSHES" 20).ok K) (by kernel_rfl)),
    He.int_ok X G (c.fact 51 (f := fun K => (He.Fa.int "MAX_TICK" 1000000000).ok K) (by kernel_rfl)),
    by rw [e_BadText]; exact h_BadText,
    by rw [e_FallError]; exact h_FallError,
    by rw [e_BadText]; exact x_BadText.1,
    by rw [e_BadText]; exact x_BadText.2,
    by rw [e_BadText]; exact exmB_ok (x := .own "BadText") (c.fact 56 (f := exmB "BadText" (.own "BadText") true) (by kernel_rfl))⟩
  obtain ⟨f, fd, F, hm⟩ := T.d_law.ex
  rw [hfa] at hm
  cases hm
  exact ⟨fd, fun s v => law_binds F s v, fun base _ _ => law_fn T F base⟩
end Law
open PySem PySem.W PySem.Calls PyProof.Rows in
set_option maxRecDepth 100000 in
set_option maxHeartbeats 0 in
theorem PySem.Challenge.cw_marktopples_k63_whole_texts_there_and_ba_holds : PySem.Challenge.rw_marktopples_k63_whole_texts_there_and_ba.Holds := by
  w_on; o_law
  refine HandSHeadRun.head_any (r := (OpenLaw.row PySem.Challenge.rw_marktopples_k63_whole_texts_there_and_ba)) (q := view (OpenLaw.row PySem.Challenge.rw_marktopples_k63_whole_texts_there_and_ba).prog [36]) (H := Law.hHook) (ob := Law.hOb) (M := 12000) (loose := Law.hLoose) (d := HandSHeadRun.topDef (OpenLaw.row PySem.Challenge.rw_marktopples_k63_whole_texts_there_and_ba).prog 36) (kwd := []) Law.hOb_eq (by kernel_rfl) (fun s => by kernel_rfl) Law.hRun (by kernel_rfl) (by kernel_rfl) (by kernel_rfl) (by rfl) (by first | assumption | decide +kernel) (by decide +kernel) ⟨rfl, rfl, rfl, rfl, rfl, by decide +kernel⟩ ?hw ?hc
  case hw => w_witness2
  case hc =>
    refine DL.walkGE (l := PySem.Challenge.rw_marktopples_k63_whole_texts_there_and_ba) (n := 63) (k := Law.LEVEL) (x := "_law_script") (sp := fun K => DL.spOf K DL.spLaw) rfl (by decide) (by kernel_rfl) ⟨rfl, by decide, by decide⟩ ?F Law.sp_start
    intro w mg fa h Y G hmg0
    obtain ⟨K, KX, c⟩ := Y
    have e : (HandSHeadRun.topDef (OpenLaw.row PySem.Challenge.rw_marktopples_k63_whole_texts_there_and_ba).prog 36).name = ("law" : PySem.Str) := by kernel_rfl
    rw [e] at hmg0
    obtain ⟨fd, hb, hF⟩ := Law.all_mk KX G hmg0 c
    exact ⟨K, fd, KX, hb, hF⟩
