import PyProof.Rows.All
import Wide.All
import OpenK.AllK
import Wide.FinOn
import HandS.ForMost
import HandS.ForExc
import HandS.CallSlots
import HandS.ExcInit
import HandS.Deep
import HandS.Defaults
import HandS.Flow
import HandS.Style
import HandS.Wide
import HandS.WideBits
import HandS.IsInst
import HandS.DictComp
import HandS.HeadEnd
import HandS.SortInts
import PyProof.Rows.SortShellAny
import HandS.Conv
import HandS.Small
import HandS.Zip
import KE.KRevSl
import KE.IntBitsLaws
import KE.DataMinMax
import PyProof.ListOps
import PyProof.ReprRoads
import PyProof.ReprLen
import PyProof.Rows.ReprOcc
import HandS.Rev
import HandS.RevTup
import PyProof.EnumMake
import PyProof.Draws
import KE.SortData
import HandS.More
import HandS.Replace
import KE.KEqDict
import PySem.Challenge.RW_scrapstory_k89_whole_windows_and_full_ri
import HandS.Ends
import HandS.Words
import HandS.WordsExc
import HandS.Head0
import HandS.Head1
import HandS.Head2
import HandS.HeadHook1
import HandS.HeadHook2
import KE.KStateDown
import Lean
set_option Elab.async false
set_option linter.all false
set_option maxRecDepth 100000
set_option maxHeartbeats 0
/-! FLa: data as trees and cells over the hand layer's heap -/
namespace FL
open PySem PySem.Spec PyProof.Rows L2

theorem nodup_at {l : List Addr} (h : l.Nodup) {i j : Nat} {a : Addr} (hi : l[i]? = some a) (hj : l[j]? = some a) : i = j := by
  obtain ⟨li, ei⟩ := List.getElem?_eq_some_iff.mp hi
  obtain ⟨lj, ej⟩ := List.getElem?_eq_some_iff.mp hj
  have hp := List.pairwise_iff_getElem.mp h
  rcases Nat.lt_trichotomy i j with q | q | q
  · exact absurd (ei.trans ej.symm) (hp i j li lj q)
  · exact q
  · exact absurd (ej.trans ei.symm) (hp j i lj li q)

/-- the cells' addresses, in order; addresses that no data may name -/
structure Ad where
  c : List Addr
  p : List Addr
def Ad.out (C : Ad) (a : Addr) : Prop := a ∉ C.c ∧ a ∉ C.p
/-- the built-in classes that a text asks about -/
inductive Ty where
  | non | bool | int | str | list | tuple | dict
  deriving DecidableEq, Inhabited
def Ty.nm : Ty → String
  | .non => "NoneType" | .bool => "bool" | .int => "int" | .str => "str" | .list => "list" | .tuple => "tuple" | .dict => "dict"
/-- data: a tree, or a cell (a list or dict that may be changed), or a value of the layer -/
inductive D where
  | non | bl (b : Bool) | int (i : Int) | str (s : List Nat) | lst (xs : List D) | tup (xs : List D) | dct (kvs : List (D × D)) | ro (xs : List D) | cel (n : Nat) | val (v : V) | ty (t : Ty)
  deriving Inhabited

/-- what a cell holds -/
inductive Co where
  | lst (xs : List D) | dct (kvs : List (D × D)) | lck (kvs : List (D × D))
abbrev Sto := List Co
abbrev En := List (Option D)
abbrev sv (s : List Nat) : Str := ⟨s.toArray⟩

/-- keys -/
inductive RepKey : Key → D → Prop
  | int (i : Int) : RepKey (.inl i) (.int i)
  | str (s : List Nat) : RepKey (.inr (sv s)) (.str s)

mutual
inductive Rep (K : PySem.W.Frag) (H : Hp) (C : Ad) : V → D → Prop
  | non : Rep K H C .non .non
  | bl (b : Bool) : Rep K H C (.bl b) (.bl b)
  | int (i : Int) : Rep K H C (.int i) (.int i)
  | str (s : List Nat) : Rep K H C (.str (sv s)) (.str s)
  | lst {a : Addr} {xs : List V} {ds : List D} : H a = some (.lst xs) → C.out a → Reps K H C xs ds → Rep K H C (.ref a) (.lst ds)
  | tup {a : Addr} {xs : List V} {ds : List D} : H a = some (.tup xs) → C.out a → Reps K H C xs ds → Rep K H C (.ref a) (.tup ds)
  | dct {a : Addr} {o : HO} {kvs : List (Key × V)} {es : List (D × D)} : H a = some o → (o = .dK kvs ∨ ∃ ob, o = .frz ob (.dK kvs)) → C.out a → RepKs K H C kvs es → Rep K H C (.ref a) (.dct es)
  | ro {a : Addr} {o : HO} {xs : List V} {ds : List D} : H a = some o → (o = .lst xs ∨ ∃ ob, o = .frz ob (.lst xs)) → C.out a → Reps K H C xs ds → Rep K H C (.ref a) (.ro ds)
  | roK {a : Addr} {xs : List V} {ds : List D} : (∀ G : Hp, SqL K G a xs) → Reps K H C xs ds → Rep K H C (.ref a) (.ro ds)
  | cel {a : Addr} {n : Nat} : C.c[n]? = some a → Rep K H C (.ref a) (.cel n)
  | val (v : V) : Rep K H C v (.val v)
  | ty (t : Ty) : Rep K H C (.ty t.nm) (.ty t)
inductive Reps (K : PySem.W.Frag) (H : Hp) (C : Ad) : List V → List D → Prop
  | nil : Reps K H C [] []
  | cons {v : V} {vs : List V} {d : D} {ds : List D} : Rep K H C v d → Reps K H C vs ds → Reps K H C (v :: vs) (d :: ds)
inductive RepKs (K : PySem.W.Frag) (H : Hp) (C : Ad) : List (Key × V) → List (D × D) → Prop
  | nil : RepKs K H C [] []
  | cons {k : Key} {v : V} {r : List (Key × V)} {q d : D} {es : List (D × D)} : RepKey k q → Rep K H C v d → RepKs K H C r es → RepKs K H C ((k, v) :: r) ((q, d) :: es)
end

section
variable {K : PySem.W.Frag} {H H' H'' : Hp} {C C' C'' : Ad}

def isFrz : HO → Bool
  | .frz _ _ => true
  | _ => false
/-- what a step may do: new cells behind, all tracked that is no cell stays, what is locked too -/
structure Ext (C : Ad) (H : Hp) (C' : Ad) (H' : Hp) : Prop where
  pre : C.c <+: C'.c
  priv : C'.p = C.p
  new : ∀ a ∈ C'.c, a ∈ C.c ∨ H a = none
  keep : ∀ a o, H a = some o → a ∉ C.c → H' a = some o
  frz : ∀ a o, H a = some o → isFrz o = true → H' a = some o
  trk : ∀ a o, H a = some o → H' a ≠ none

theorem Ext.refl : Ext C H C H := ⟨List.prefix_rfl, rfl, fun _ h => .inl h, fun _ _ h _ => h, fun _ _ h _ => h, fun _ _ h => by rw [h]; exact fun z => nomatch z⟩
theorem Ext.trans (a : Ext C H C' H') (b : Ext C' H' C'' H'') : Ext C H C'' H'' where
  pre := a.pre.trans b.pre
  priv := b.priv.trans a.priv
  new := fun x hx => by
    rcases b.new x hx with h | h
    · exact a.new x h
    · refine .inr ?_
      cases e : H x with
      | none => rfl
      | some o => exact absurd h (a.trk x o e)
  keep := fun x o h hx => by
    have h1 := a.keep x o h hx
    refine b.keep x o h1 fun hc => ?_
    rcases a.new x hc with q | q
    · exact hx q
    · rw [h] at q; cases q
  frz := fun x o h hx => b.frz x o (a.frz x o h hx) hx
  trk := fun x o h => by
    cases e : H' x with
    | none => exact absurd e (a.trk x o h)
    | some u => exact b.trk x u e

/-- what data lean on stays -/
structure Stay (C : Ad) (H : Hp) (C' : Ad) (H' : Hp) : Prop where
  pre : C.c <+: C'.c
  nt : ∀ a, C.out a → H a ≠ none → C'.out a
  keep : ∀ a o, H a = some o → C.out a → H' a = some o
theorem Ext.stay (e : Ext C H C' H') : Stay C H C' H' := ⟨e.pre, fun a ho hn => by
  refine ⟨fun hc => ?_, fun hc => ?_⟩
  · rcases e.new a hc with q | q
    · exact ho.1 q
    · exact hn q
  · rw [e.priv] at hc
    exact ho.2 hc, fun a o h q => e.keep a o h q.1⟩
theorem Stay.get (e : Stay C H C' H') {n : Nat} {a : Addr} (h : C.c[n]? = some a) : C'.c[n]? = some a := by
  obtain ⟨t, ht⟩ := e.pre
  obtain ⟨hn, rfl⟩ := List.getElem?_eq_some_iff.mp h
  rw [← ht, List.getElem?_append_left hn]
  exact h
theorem Stay.out (e : Stay C H C' H') {a : Addr} {o : HO} (h : H a = some o) (hx : C.out a) : C'.out a := e.nt a hx (by rw [h]; exact fun z => nomatch z)
theorem Ext.get (e : Ext C H C' H') {n : Nat} {a : Addr} (h : C.c[n]? = some a) : C'.c[n]? = some a := by
  obtain ⟨t, ht⟩ := e.pre
  obtain ⟨hn, rfl⟩ := List.getElem?_eq_some_iff.mp h
  rw [← ht, List.getElem?_append_left hn]
  exact h
theorem Ext.out (e : Ext C H C' H') {a : Addr} {o : HO} (h : H a = some o) (hx : C.out a) : C'.out a := e.stay.out h hx

mutual
theorem Rep.monoS (e : Stay C H C' H') : ∀ {d : D} {v : V}, Rep K H C v d → Rep K H' C' v d
  | .non, _, h => by cases h; exact .non
  | .bl _, _, h => by cases h; exact .bl _
  | .int _, _, h => by cases h; exact .int _
  | .str _, _, h => by cases h; exact .str _
  | .lst ds, _, h => by
    cases h with
    | lst h1 h2 h3 => exact .lst (e.keep _ _ h1 h2) (e.out h1 h2) (Reps.monoS e h3)
  | .tup ds, _, h => by
    cases h with
    | tup h1 h2 h3 => exact .tup (e.keep _ _ h1 h2) (e.out h1 h2) (Reps.monoS e h3)
  | .dct es, _, h => by
    cases h with
    | dct h1 hs h2 h3 => exact .dct (e.keep _ _ h1 h2) hs (e.out h1 h2) (RepKs.monoS e h3)
  | .ro ds, _, h => by
    cases h with
    | ro h1 ho h2 h3 => exact .ro (e.keep _ _ h1 h2) ho (e.out h1 h2) (Reps.monoS e h3)
    | roK h1 h3 => exact .roK h1 (Reps.monoS e h3)
  | .cel n, _, h => by
    cases h with
    | cel h => exact .cel (e.get h)
  | .val v, _, h => by cases h; exact .val v
  | .ty t, _, h => by cases h; exact .ty t
theorem Reps.monoS (e : Stay C H C' H') : ∀ {ds : List D} {vs : List V}, Reps K H C vs ds → Reps K H' C' vs ds
  | [], _, h => by cases h; exact .nil
  | d :: ds, _, h => by
    cases h with
    | cons h1 h2 => exact .cons (Rep.monoS e h1) (Reps.monoS e h2)
theorem RepKs.monoS (e : Stay C H C' H') : ∀ {es : List (D × D)} {kvs : List (Key × V)}, RepKs K H C kvs es → RepKs K H' C' kvs es
  | [], _, h => by cases h; exact .nil
  | (q, d) :: es, _, h => by
    cases h with
    | cons h0 h1 h2 => exact .cons h0 (Rep.monoS e h1) (RepKs.monoS e h2)
end

theorem Rep.mono (e : Ext C H C' H') {d : D} {v : V} (h : Rep K H C v d) : Rep K H' C' v d := h.monoS e.stay
theorem Reps.mono (e : Ext C H C' H') {ds : List D} {vs : List V} (h : Reps K H C vs ds) : Reps K H' C' vs ds := h.monoS e.stay
theorem RepKs.mono (e : Ext C H C' H') {es : List (D × D)} {kvs : List (Key × V)} (h : RepKs K H C kvs es) : RepKs K H' C' kvs es := h.monoS e.stay
/-! ### lists of data -/
theorem Reps.length : ∀ {ds : List D} {vs : List V}, Reps K H C vs ds → vs.length = ds.length
  | [], _, h => by cases h; rfl
  | d :: ds, _, h => by
    cases h with
    | cons h1 h2 => rw [List.length_cons, List.length_cons, Reps.length h2]
theorem Reps.get : ∀ {ds : List D} {vs : List V} {i : Nat} {d : D}, Reps K H C vs ds → ds[i]? = some d → ∃ v, vs[i]? = some v ∧ Rep K H C v d
  | [], _, _, _, h, e => by simp at e
  | d :: ds, _, 0, _, h, e => by
    cases h with
    | cons h1 h2 => simp at e; subst e; exact ⟨_, rfl, h1⟩
  | d :: ds, _, i + 1, _, h, e => by
    cases h with
    | cons h1 h2 =>
      obtain ⟨v, e1, r⟩ := Reps.get (i := i) h2 (by simpa using e)
      exact ⟨v, by simpa using e1, r⟩
theorem Reps.app : ∀ {ds es : List D} {vs us : List V}, Reps K H C vs ds → Reps K H C us es → Reps K H C (vs ++ us) (ds ++ es)
  | [], _, _, _, h, q => by cases h; exact q
  | d :: ds, _, _, _, h, q => by
    cases h with
    | cons h1 h2 => exact .cons h1 (Reps.app h2 q)
theorem Reps.take : ∀ {ds : List D} {vs : List V} (n : Nat), Reps K H C vs ds → Reps K H C (vs.take n) (ds.take n)
  | _, _, 0, _ => .nil
  | [], _, _ + 1, h => by cases h; exact .nil
  | d :: ds, _, n + 1, h => by
    cases h with
    | cons h1 h2 => exact .cons h1 (Reps.take n h2)
theorem Reps.drop : ∀ {ds : List D} {vs : List V} (n : Nat), Reps K H C vs ds → Reps K H C (vs.drop n) (ds.drop n)
  | _, _, 0, h => h
  | [], _, _ + 1, h => by cases h; exact .nil
  | d :: ds, _, n + 1, h => by
    cases h with
    | cons h1 h2 => exact Reps.drop n h2
theorem Reps.set : ∀ {ds : List D} {vs : List V} (i : Nat) {v : V} {d : D}, Reps K H C vs ds → Rep K H C v d → Reps K H C (vs.set i v) (ds.set i d)
  | [], _, _, _, _, h, _ => by cases h; exact .nil
  | d :: ds, _, 0, _, _, h, q => by
    cases h with
    | cons h1 h2 => exact .cons q h2
  | d :: ds, _, i + 1, _, _, h, q => by
    cases h with
    | cons h1 h2 => exact .cons h1 (Reps.set i h2 q)
theorem Reps.erase : ∀ {ds : List D} {vs : List V} (i : Nat), Reps K H C vs ds → Reps K H C (vs.eraseIdx i) (ds.eraseIdx i)
  | [], _, _, h => by cases h; exact .nil
  | d :: ds, _, 0, h => by
    cases h with
    | cons h1 h2 => exact h2
  | d :: ds, _, i + 1, h => by
    cases h with
    | cons h1 h2 => exact .cons h1 (Reps.erase i h2)
theorem Reps.reverse {ds : List D} {vs : List V} (h : Reps K H C vs ds) : Reps K H C vs.reverse ds.reverse := by
  induction ds generalizing vs with
  | nil => cases h; exact .nil
  | cons d ds ih =>
    cases h with
    | cons h1 h2 =>
      rw [List.reverse_cons, List.reverse_cons]
      exact (ih h2).app (.cons h1 .nil)
theorem Reps.rep {ds : List D} {vs : List V} (h : Reps K H C vs ds) : ∀ n : Nat, Reps K H C (List.replicate n vs).flatten (List.replicate n ds).flatten
  | 0 => .nil
  | n + 1 => by
    rw [List.replicate_succ, List.replicate_succ, List.flatten_cons, List.flatten_cons]
    exact h.app (Reps.rep h n)

/-! ### cells -/
def CoOk (K : PySem.W.Frag) (H : Hp) (C : Ad) (a : Addr) : Co → Prop
  | .lst ds => ∃ xs, H a = some (.lst xs) ∧ Reps K H C xs ds
  | .dct es => ∃ kvs, H a = some (.dK kvs) ∧ RepKs K H C kvs es
  | .lck es => ∃ ob kvs, H a = some (.frz ob (.dK kvs)) ∧ RepKs K H C kvs es
structure StoOk (K : PySem.W.Frag) (H : Hp) (C : Ad) (st : Sto) : Prop where
  len : C.c.length = st.length
  nd : C.c.Nodup
  ok : ∀ (n : Nat) (a : Addr) (o : Co), C.c[n]? = some a → st[n]? = some o → CoOk K H C a o
  pt : ∀ a ∈ C.p, H a ≠ none
  ap : ∀ a ∈ C.p, a ∉ C.c
theorem CoOk.trk {a : Addr} {o : Co} (h : CoOk K H C a o) : H a ≠ none := by
  cases o with
  | lst ds => obtain ⟨_, e, _⟩ := h; rw [e]; exact fun z => nomatch z
  | dct es => obtain ⟨_, e, _⟩ := h; rw [e]; exact fun z => nomatch z
  | lck es => obtain ⟨_, _, e, _⟩ := h; rw [e]; exact fun z => nomatch z
theorem StoOk.at {st : Sto} (s : StoOk K H C st) {n : Nat} {o : Co} (h : st[n]? = some o) : ∃ a, C.c[n]? = some a ∧ CoOk K H C a o := by
  have hn : n < C.c.length := by rw [s.len]; exact (List.getElem?_eq_some_iff.mp h).1
  exact ⟨C.c[n], List.getElem?_eq_getElem hn, s.ok n _ o (List.getElem?_eq_getElem hn) h⟩
theorem StoOk.mem {st : Sto} (s : StoOk K H C st) {a : Addr} (h : a ∈ C.c) : H a ≠ none := by
  obtain ⟨n, hn, rfl⟩ := List.mem_iff_getElem.mp h
  have hs : n < st.length := by rw [← s.len]; exact hn
  exact (s.ok n _ _ (List.getElem?_eq_getElem hn) (List.getElem?_eq_getElem hs)).trk
theorem StoOk.fresh {st : Sto} (s : StoOk K H C st) {p : Addr} (h : H p = none) : C.out p := ⟨fun hc => s.mem hc h, fun hc => s.pt p hc h⟩
/-- the heap has one tracked thing more -/
theorem Ext.tree {p : Addr} {o : HO} (h : H p = none) : Ext C H C (upd H p o) where
  pre := List.prefix_rfl
  priv := rfl
  new := fun _ h => .inl h
  keep := fun a u e _ => by rw [upd_ne (ne_of_none e h)]; exact e
  frz := fun a u e _ => by rw [upd_ne (ne_of_none e h)]; exact e
  trk := fun a u e => by rw [upd_ne (ne_of_none e h), e]; exact fun z => nomatch z
def Ad.add (C : Ad) (p : Addr) : Ad := ⟨C.c ++ [p], C.p⟩
theorem Ext.cell {p : Addr} {o : HO} (h : H p = none) : Ext C H (C.add p) (upd H p o) where
  pre := List.prefix_append _ _
  priv := rfl
  new := fun a ha => by
    rcases List.mem_append.mp ha with q | q
    · exact .inl q
    · rw [List.mem_singleton.mp q]; exact .inr h
  keep := fun a u e _ => by rw [upd_ne (ne_of_none e h)]; exact e
  frz := fun a u e _ => by rw [upd_ne (ne_of_none e h)]; exact e
  trk := fun a u e => by rw [upd_ne (ne_of_none e h), e]; exact fun z => nomatch z
theorem CoOk.mono {a : Addr} {o : Co} (e : Ext C H C' H') (k : ∀ u, H a = some u → H' a = some u) (h : CoOk K H C a o) : CoOk K H' C' a o := by
  cases o with
  | lst ds => obtain ⟨xs, h1, h2⟩ := h; exact ⟨xs, k _ h1, h2.mono e⟩
  | dct es => obtain ⟨xs, h1, h2⟩ := h; exact ⟨xs, k _ h1, h2.mono e⟩
  | lck es => obtain ⟨ob, xs, h1, h2⟩ := h; exact ⟨ob, xs, k _ h1, h2.mono e⟩
theorem Ext.pt {st : Sto} (e : Ext C H C' H') (s : StoOk K H C st) : ∀ a ∈ C'.p, H' a ≠ none := fun a ha => by
  rw [e.priv] at ha
  cases q : H a with
  | none => exact absurd q (s.pt a ha)
  | some o => exact e.trk a o q
theorem StoOk.tree {st : Sto} (s : StoOk K H C st) {p : Addr} {o : HO} (h : H p = none) : StoOk K (upd H p o) C st where
  len := s.len
  nd := s.nd
  ok := fun n a c h1 h2 => (s.ok n a c h1 h2).mono (Ext.tree h) fun u e => by rw [upd_ne (ne_of_none e h)]; exact e
  pt := (Ext.tree h).pt s
  ap := s.ap
theorem StoOk.cell {st : Sto} (s : StoOk K H C st) {p : Addr} {o : HO} {c : Co} (h : H p = none) (hc : CoOk K (upd H p o) (C.add p) p c) : StoOk K (upd H p o) (C.add p) (st ++ [c]) where
  len := by show (C.c ++ [p]).length = _; rw [List.length_append, List.length_append, s.len]; rfl
  nd := by
    show (C.c ++ [p]).Nodup
    rw [List.nodup_append]
    refine ⟨s.nd, by simp, fun a ha b hb => ?_⟩
    rw [List.mem_singleton.mp hb]
    exact fun z => (s.fresh h).1 (z ▸ ha)
  ok := fun n a u h1 h2 => by
    have h1 : (C.c ++ [p])[n]? = some a := h1
    by_cases hn : n < C.c.length
    · rw [List.getElem?_append_left hn] at h1
      rw [List.getElem?_append_left (by rw [← s.len]; exact hn)] at h2
      exact (s.ok n a u h1 h2).mono (Ext.cell h) fun u e => by rw [upd_ne (ne_of_none e h)]; exact e
    · have hn' : n = C.c.length := by
        have := (List.getElem?_eq_some_iff.mp h1).1
        rw [List.length_append, List.length_singleton] at this
        omega
      subst hn'
      rw [List.getElem?_append_right (Nat.le_refl _), Nat.sub_self] at h1
      rw [List.getElem?_append_right (by rw [s.len]; exact Nat.le_refl _), s.len, Nat.sub_self] at h2
      have e1 : p = a := by simpa using h1
      have e2 : c = u := by simpa using h2
      subst e1 e2
      exact hc
  pt := (Ext.cell h).pt s
  ap := fun a ha hc => by
    rcases List.mem_append.mp hc with q | q
    · exact s.ap a ha q
    · rw [List.mem_singleton.mp q] at ha
      exact s.pt _ ha h
/-- an address that no data may name -/
def Ad.hide (C : Ad) (p : Addr) : Ad := ⟨C.c, p :: C.p⟩
theorem Stay.hide {p : Addr} {o : HO} (h : H p = none) : Stay C H (C.hide p) (upd H p o) where
  pre := List.prefix_rfl
  nt := fun a ho hn => ⟨ho.1, fun hc => by
    rcases List.mem_cons.mp hc with rfl | q
    · exact hn h
    · exact ho.2 q⟩
  keep := fun a u e _ => by rw [upd_ne (ne_of_none e h)]; exact e
theorem Stay.show {p : Addr} : Stay (C.hide p) H C H where
  pre := List.prefix_rfl
  nt := fun a ho hn => ⟨ho.1, fun hc => ho.2 (List.mem_cons_of_mem _ hc)⟩
  keep := fun a u e _ => e
/-- what was hidden becomes a cell -/
theorem Stay.open {p : Addr} : Stay (C.hide p) H (C.add p) H where
  pre := List.prefix_append _ _
  nt := fun a ho hn => ⟨fun hc => by
    rcases List.mem_append.mp hc with q | q
    · exact ho.1 q
    · rw [List.mem_singleton.mp q] at ho
      exact ho.2 List.mem_cons_self, fun hc => ho.2 (List.mem_cons_of_mem _ hc)⟩
  keep := fun a u e _ => e
theorem CoOk.monoS {a : Addr} {o : Co} (e : Stay C H C' H') (k : ∀ u, H a = some u → H' a = some u) (h : CoOk K H C a o) : CoOk K H' C' a o := by
  cases o with
  | lst ds => obtain ⟨xs, h1, h2⟩ := h; exact ⟨xs, k _ h1, h2.monoS e⟩
  | dct es => obtain ⟨xs, h1, h2⟩ := h; exact ⟨xs, k _ h1, h2.monoS e⟩
  | lck es => obtain ⟨ob, xs, h1, h2⟩ := h; exact ⟨ob, xs, k _ h1, h2.monoS e⟩
theorem StoOk.hide {st : Sto} (s : StoOk K H C st) {p : Addr} {o : HO} (h : H p = none) : StoOk K (upd H p o) (C.hide p) st where
  len := s.len
  nd := s.nd
  ok := fun n a c h1 h2 => (s.ok n a c h1 h2).monoS (Stay.hide h) fun u e => by rw [upd_ne (ne_of_none e h)]; exact e
  pt := fun a ha => by
    rcases List.mem_cons.mp ha with rfl | q
    · rw [upd_same]; exact fun z => nomatch z
    · cases e : H a with
      | none => exact absurd e (s.pt a q)
      | some u => rw [upd_ne (ne_of_none e h), e]; exact fun z => nomatch z
  ap := fun a ha hc => by
    rcases List.mem_cons.mp ha with rfl | q
    · exact (s.fresh h).1 hc
    · exact s.ap a q hc
theorem StoOk.show {st : Sto} {p : Addr} (s : StoOk K H (C.hide p) st) : StoOk K H C st where
  len := s.len
  nd := s.nd
  ok := fun n a c h1 h2 => (s.ok n a c h1 h2).monoS Stay.show fun u e => e
  pt := fun a ha => s.pt a (List.mem_cons_of_mem _ ha)
  ap := fun a ha => s.ap a (List.mem_cons_of_mem _ ha)
theorem StoOk.open {st : Sto} {p : Addr} {ds : List D} {xs : List V} (s : StoOk K H (C.hide p) st) (hc : p ∉ C.c) (hp : p ∉ C.p) (h : H p = some (.lst xs)) (r : Reps K H (C.hide p) xs ds) : StoOk K H (C.add p) (st ++ [.lst ds]) where
  len := by
    have l : C.c.length = st.length := s.len
    show (C.c ++ [p]).length = _
    rw [List.length_append, List.length_append, l]; rfl
  nd := by
    show (C.c ++ [p]).Nodup
    rw [List.nodup_append]
    refine ⟨s.nd, by simp, fun a ha b hb => ?_⟩
    rw [List.mem_singleton.mp hb]
    exact fun z => hc (z ▸ ha)
  ok := fun n a u h1 h2 => by
    have l : C.c.length = st.length := s.len
    have h1 : (C.c ++ [p])[n]? = some a := h1
    by_cases hn : n < C.c.length
    · rw [List.getElem?_append_left hn] at h1
      rw [List.getElem?_append_left (by rw [← l]; exact hn)] at h2
      exact (s.ok n a u h1 h2).monoS Stay.open fun u e => e
    · have hn' : n = C.c.length := by
        have := (List.getElem?_eq_some_iff.mp h1).1
        rw [List.length_append, List.length_singleton] at this
        omega
      subst hn'
      rw [List.getElem?_append_right (Nat.le_refl _), Nat.sub_self] at h1
      rw [List.getElem?_append_right (by rw [l]; exact Nat.le_refl _), l, Nat.sub_self] at h2
      have e1 : p = a := by simpa using h1
      have e2 : Co.lst ds = u := by simpa using h2
      subst e1 e2
      exact ⟨xs, h, r.monoS Stay.open⟩
  pt := fun a ha => s.pt a (List.mem_cons_of_mem _ ha)
  ap := fun a ha hcc => by
    rcases List.mem_append.mp hcc with q | q
    · exact s.ap a (List.mem_cons_of_mem _ ha) q
    · rw [List.mem_singleton.mp q] at ha
      exact hp ha
/-- a hidden thing is written -/
theorem Stay.hid {p : Addr} {o : HO} (h : p ∈ C.p) : Stay C H C (upd H p o) where
  pre := List.prefix_rfl
  nt := fun a ho _ => ho
  keep := fun a u e q => by
    have z : a ≠ p := fun z => q.2 (by rw [z]; exact h)
    rw [upd_ne z]; exact e
theorem StoOk.hid {st : Sto} (s : StoOk K H C st) {p : Addr} {o : HO} (h : p ∈ C.p) : StoOk K (upd H p o) C st where
  len := s.len
  nd := s.nd
  ok := fun n a c h1 h2 => (s.ok n a c h1 h2).monoS (Stay.hid h) fun u e => by
    have z : a ≠ p := fun z => s.ap p h (by rw [← z]; exact List.mem_of_getElem? h1)
    rw [upd_ne z]; exact e
  pt := fun a ha => by
    by_cases z : a = p
    · rw [z, upd_same]; exact fun q => nomatch q
    · rw [upd_ne z]; exact s.pt a ha
  ap := s.ap
/-- a cell is written -/
theorem Ext.put {a : Addr} {o u : HO} (h : a ∈ C.c) (hu : H a = some u) (hf : isFrz u = false) : Ext C H C (upd H a o) where
  pre := List.prefix_rfl
  priv := rfl
  new := fun _ h => .inl h
  keep := fun b u e hb => by
    have z : b ≠ a := fun z => hb (by rw [z]; exact h)
    rw [upd_ne z]; exact e
  frz := fun b w e hb => by
    have z : b ≠ a := fun z => by
      rw [z, hu] at e
      cases e
      rw [hf] at hb
      cases hb
    rw [upd_ne z]; exact e
  trk := fun b u e => by
    by_cases z : b = a
    · rw [z, upd_same]; exact fun q => nomatch q
    · rw [upd_ne z, e]; exact fun q => nomatch q
theorem StoOk.put {st : Sto} (s : StoOk K H C st) {n : Nat} {a : Addr} {o u : HO} {c : Co} (h : C.c[n]? = some a) (hu : H a = some u) (hf : isFrz u = false) (hc : CoOk K (upd H a o) C a c) : StoOk K (upd H a o) C (st.set n c) where
  len := by rw [List.length_set]; exact s.len
  nd := s.nd
  ok := fun m b w h1 h2 => by
    by_cases hm : m = n
    · subst hm
      rw [h] at h1
      cases h1
      have hl : m < st.length := by have := (List.getElem?_eq_some_iff.mp h2).1; rwa [List.length_set] at this
      rw [List.getElem?_set_self hl] at h2
      cases h2
      exact hc
    · rw [List.getElem?_set_ne (Ne.symm hm)] at h2
      have hb : b ≠ a := fun z => by
        subst z
        exact hm (nodup_at s.nd h1 h)
      exact (s.ok m b w h1 h2).mono (Ext.put (List.mem_of_getElem? h) hu hf) fun u e => by rw [upd_ne hb]; exact e
  pt := (Ext.put (List.mem_of_getElem? h) hu hf).pt s
  ap := s.ap
end

/-! ### slots -/
def Rs (K : PySem.W.Frag) (H : Hp) (C : Ad) (σ : L2.St) (ρ : En) : Prop := ρ.length = σ.length ∧ ∀ (i : Nat) (d : D), ρ[i]? = some (some d) → ∃ v, σ[i]? = some (some v) ∧ Rep K H C v d
section
variable {K : PySem.W.Frag} {H H' : Hp} {C C' : Ad} {σ : L2.St} {ρ : En}
theorem Rs.mono (r : Rs K H C σ ρ) (e : Ext C H C' H') : Rs K H' C' σ ρ := ⟨r.1, fun i d h => by
  obtain ⟨v, h1, h2⟩ := r.2 i d h
  exact ⟨v, h1, h2.mono e⟩⟩
theorem Rs.monoS (r : Rs K H C σ ρ) (e : Stay C H C' H') : Rs K H' C' σ ρ := ⟨r.1, fun i d h => by
  obtain ⟨v, h1, h2⟩ := r.2 i d h
  exact ⟨v, h1, h2.monoS e⟩⟩
theorem Rs.set (r : Rs K H C σ ρ) {i : Nat} {v : V} {d : D} (q : Rep K H C v d) : Rs K H C (σ.set i (some v)) (ρ.set i (some d)) := ⟨by rw [List.length_set, List.length_set]; exact r.1, fun j u h => by
  by_cases hj : j = i
  · subst hj
    have hl : j < ρ.length := by have := (List.getElem?_eq_some_iff.mp h).1; rwa [List.length_set] at this
    rw [List.getElem?_set_self hl] at h
    cases h
    exact ⟨v, List.getElem?_set_self (by rw [← r.1]; exact hl), q⟩
  · rw [List.getElem?_set_ne (Ne.symm hj)] at h
    obtain ⟨w, h1, h2⟩ := r.2 j u h
    exact ⟨w, by rw [List.getElem?_set_ne (Ne.symm hj)]; exact h1, h2⟩⟩
/-- slots forgotten -/
def wipeE (ρ : En) : List Nat → En
  | [] => ρ
  | i :: is => (wipeE ρ is).set i none
theorem Rs.unset (r : Rs K H C σ ρ) (i : Nat) : Rs K H C (σ.set i none) (ρ.set i none) := ⟨by rw [List.length_set, List.length_set]; exact r.1, fun j u h => by
  by_cases hj : j = i
  · subst hj
    have hl : j < ρ.length := by have := (List.getElem?_eq_some_iff.mp h).1; rwa [List.length_set] at this
    rw [List.getElem?_set_self hl] at h
    cases h
  · rw [List.getElem?_set_ne (Ne.symm hj)] at h
    obtain ⟨w, h1, h2⟩ := r.2 j u h
    exact ⟨w, by rw [List.getElem?_set_ne (Ne.symm hj)]; exact h1, h2⟩⟩
theorem Rs.wipe (r : Rs K H C σ ρ) : ∀ is : List Nat, Rs K H C (L2.wipe σ is) (wipeE ρ is)
  | [] => r
  | i :: is => (r.wipe is).unset i
end
end FL

/-! FLb: what a piece of the text does, as a function on data; the judgement SE and the rules for expressions -/
namespace FL
open PySem PySem.Spec PyProof.Rows L2

/-- a result: none told, a value with the store behind, an error (its class by number, what it holds) -/
inductive R (α : Type) where
  | no | ok (a : α) (st : Sto) | exc (c : Nat) (x : D) (st : Sto)
def R.bind {α β : Type} (r : R α) (k : α → Sto → R β) : R β := match r with
  | .no => .no
  | .ok a st => k a st
  | .exc c x st => .exc c x st
@[simp] theorem R.bind_no {α β : Type} (k : α → Sto → R β) : R.bind .no k = .no := rfl
@[simp] theorem R.bind_ok {α β : Type} (a : α) (st : Sto) (k : α → Sto → R β) : R.bind (.ok a st) k = k a st := rfl
@[simp] theorem R.bind_exc {α β : Type} (c : Nat) (x : D) (st : Sto) (k : α → Sto → R β) : R.bind (.exc c x st) k = .exc c x st := rfl
def R.opt {α : Type} (o : Option α) (st : Sto) : R α := match o with
  | some a => .ok a st
  | none => .no
@[simp] theorem R.opt_some {α : Type} (a : α) (st : Sto) : R.opt (some a) st = .ok a st := rfl
@[simp] theorem R.opt_none {α : Type} (st : Sto) : R.opt (none : Option α) st = .no := rfl

abbrev FE := En → Sto → R D
abbrev FT := En → Sto → R Bool
abbrev FA := En → Sto → R (List D)

/-- the classes of errors, by number -/
def xn (c : Nat) : Str := (["InvalidName", "InvalidNumber", "InvalidFraction", "InvalidLot", "InvalidList", "InvalidText", "TooMany", "InvalidSigns", "InvalidScrap", "InvalidScraps", "InvalidCounts", "InvalidWindow", "InvalidStretch", "InvalidSwap", "InvalidOverlap", "InvalidPairs", "InvalidSpans", "InvalidChanges", "InvalidCosts", "InvalidCopies", "InvalidReadings", "InvalidStories", "InvalidMarks", "InvalidOrder", "InvalidRing"] : List Str).getD c "?"

/-- the text's own facts that a reading may lean on -/
structure Gx where
  K : PySem.W.Frag
  mg : Str → Option Value
abbrev gx (X : Cx) : Gx := ⟨X.K, X.mg⟩
/-- an error as it lies -/
def ExcAt (g : Gx) (H : Hp) (C : Ad) (cls : Value) (dd : Option Addr) (c : Nat) (x : D) : Prop :=
  g.mg (xn c) = some cls ∧ ∃ (d : Addr) (v : V), dd = some d ∧ H d = some (.xd [("value", v)]) ∧ Rep g.K H C v x
abbrev XK' := Value → Option Addr → Hp → Prop
/-- what follows a result, in every heap that bears it -/
def After {α : Type} (g : Gx) (W : XK') (C : Ad) (H : Hp) (r : R α) (P : α → Sto → Ad → Hp → Prop) : Prop := match r with
  | .no => False
  | .ok a st => ∀ C' H', StoOk g.K H' C' st → Ext C H C' H' → P a st C' H'
  | .exc c x st => ∀ C' H' cls dd, StoOk g.K H' C' st → Ext C H C' H' → ExcAt g H' C' cls dd c x → W cls dd H'
section
variable {α β : Type} {g : Gx} {W : XK'} {C : Ad} {H : Hp}
theorem After.bind {r : R α} {k : α → Sto → R β} {P : β → Sto → Ad → Hp → Prop} (h : After g W C H (r.bind k) P) :
    After g W C H r fun a st C' H' => After g W C' H' (k a st) P := by
  cases r with
  | no => exact h
  | exc c x st => exact h
  | ok a st =>
    intro C' H' so e
    have h : After g W C H (k a st) P := h
    show After g W C' H' (k a st) P
    cases q : k a st with
    | no => rw [q] at h; exact h
    | ok b st' => rw [q] at h; exact fun C'' H'' so' e' => h C'' H'' so' (e.trans e')
    | exc c x st' => rw [q] at h; exact fun C'' H'' cls dd so' e' => h C'' H'' cls dd so' (e.trans e')
theorem After.imp {r : R α} {P P' : α → Sto → Ad → Hp → Prop} (h : After g W C H r P) (f : ∀ a st C' H', StoOk g.K H' C' st → Ext C H C' H' → P a st C' H' → P' a st C' H') : After g W C H r P' := by
  cases r with
  | no => exact h
  | exc c x st => exact h
  | ok a st => exact fun C' H' so e => f a st C' H' so e (h C' H' so e)
theorem After.now {a : α} {st : Sto} {P : α → Sto → Ad → Hp → Prop} (h : After g W C H (.ok a st) P) {C' : Ad} {H' : Hp} (so : StoOk g.K H' C' st) (e : Ext C H C' H') : P a st C' H' := h C' H' so e
theorem After.here {a : α} {st : Sto} {P : α → Sto → Ad → Hp → Prop} (h : After g W C H (.ok a st) P) (so : StoOk g.K H C st) : P a st C H := h C H so .refl
theorem After.opt {o : Option α} {st : Sto} {P : α → Sto → Ad → Hp → Prop} (h : After g W C H (R.opt o st) P) : ∃ a, o = some a ∧ After g W C H (.ok a st) P := by
  cases o with
  | none => exact h.elim
  | some a => exact ⟨a, rfl, h⟩
end

def SimE (g : Gx) (W : WX) (t : TE) (f : FE) : Prop := ∀ (ρ : En) (σ : L2.St) (st : Sto) (H : Hp) (C : Ad) (Q : VK), Rs g.K H C σ ρ → StoOk g.K H C st →
  After g (fun c d H' => W c d σ H') C H (f ρ st) (fun d _ C' H' => ∀ v, Rep g.K H' C' v d → Q v H') → t σ H Q
def SimT (g : Gx) (W : WX) (t : TT) (f : FT) : Prop := ∀ (ρ : En) (σ : L2.St) (st : Sto) (H : Hp) (C : Ad) (Q : Bool → Hp → Prop), Rs g.K H C σ ρ → StoOk g.K H C st →
  After g (fun c d H' => W c d σ H') C H (f ρ st) (fun b _ _ H' => Q b H') → t σ H Q
def SimA (g : Gx) (W : WX) (t : TA) (f : FA) : Prop := ∀ (ρ : En) (σ : L2.St) (st : Sto) (H : Hp) (C : Ad) (Q : List V → Hp → Prop), Rs g.K H C σ ρ → StoOk g.K H C st →
  After g (fun c d H' => W c d σ H') C H (f ρ st) (fun ds _ C' H' => ∀ vs, Reps g.K H' C' vs ds → Q vs H') → t σ H Q
structure SE (X : Cx) (W : WX) (e : Expr) (f : FE) : Prop where
  ex : ∃ t, PE X e t ∧ SimE (gx X) W t f
structure ST (X : Cx) (W : WX) (e : Expr) (f : FT) : Prop where
  ex : ∃ t, PT X e t ∧ SimT (gx X) W t f
structure SW (X : Cx) (W : WX) (e : Expr) (f : FT) : Prop where
  ex : ∃ t, PW X e t ∧ SimT (gx X) W t f
structure SA (X : Cx) (W : WX) (es : List Expr) (f : FA) : Prop where
  ex : ∃ t, PA X es t ∧ SimA (gx X) W t f

/-! ### names and constants -/
def fC (d : D) : FE := fun _ st => .ok d st
def fVar (i : Nat) : FE := fun ρ st => match ρ[i]? with
  | some (some d) => .ok d st
  | _ => .no
section
variable {X : Cx} {W : WX}
theorem sim_const {v : V} {d : D} (h : ∀ K H C, Rep K H C v d) : SimE (gx X) W (tC v) (fC d) := fun ρ σ st H C Q rs so h2 => (h2.here so) v (h _ _ _)
theorem se_var {i : Nat} {x : Str} {pos : Pos} (hN : X.N[i]? = some x := by rfl) (hv : Vis X.env.scope x := by first | exact Or.inl rfl | exact Or.inr (Or.inl rfl) | exact Or.inr (Or.inr rfl)) (hd : (x == ("__debug__" : Str)) = false := by decide)
    (hcd : (x == ("__classdict__" : Str)) = false := by decide) : SE X W (.Name x pos) (fVar i) := ⟨tVar i, pe_var hN hv hd hcd, fun ρ σ st H C Q rs so h => by
  unfold fVar at h
  cases e : ρ[i]? with
  | none => rw [e] at h; exact h.elim
  | some o =>
    rw [e] at h
    cases o with
    | none => exact h.elim
    | some d =>
      obtain ⟨v, h1, h2⟩ := rs.2 i d e
      exact ⟨v, h1, h.here so v h2⟩⟩
theorem se_int {i : Int} {j pos} : SE X W (.Constant (.int i) j pos) (fC (.int i)) := ⟨_, pe_int, sim_const fun _ _ _ => .int i⟩
theorem se_bl {b : Bool} {j pos} : SE X W (.Constant (.bool b) j pos) (fC (.bl b)) := ⟨_, pe_bl, sim_const fun _ _ _ => .bl b⟩
theorem se_non {j pos} : SE X W (.Constant .none j pos) (fC .non) := ⟨_, pe_non, sim_const fun _ _ _ => .non⟩
theorem se_str {x : Str} {s : List Nat} {j pos} (h : x = sv s := by decide +kernel) : SE X W (.Constant (.str x) j pos) (fC (.str s)) := ⟨_, pe_str, sim_const fun _ _ _ => h ▸ .str s⟩
/-- a global that holds a text or a number -/
theorem se_gstr {x : Str} {s : List Nat} {pos : Pos} (hm : ∃ t, X.mg x = some (.str (sv s) t)) (hg : Gl X x := by rfl) (hd : (x == ("__debug__" : Str)) = false := by decide) : SE X W (.Name x pos) (fC (.str s)) := by
  obtain ⟨t, hm⟩ := hm
  exact ⟨_, pe_glob (v := .str (sv s)) hg hm ⟨t, rfl⟩ hd, sim_const fun _ _ _ => .str s⟩
theorem se_gint {x : Str} {i : Int} {pos : Pos} (hm : ∃ t, X.mg x = some (.int i t)) (hg : Gl X x := by rfl) (hd : (x == ("__debug__" : Str)) = false := by decide) : SE X W (.Name x pos) (fC (.int i)) := by
  obtain ⟨t, hm⟩ := hm
  exact ⟨_, pe_glob (v := .int i) hg hm ⟨t, rfl⟩ hd, sim_const fun _ _ _ => .int i⟩
/-- a built-in class as a value -/
theorem se_ty (ty : Ty) {x : Str} {pos : Pos} (hm : X.mg x = none) (hg : Gl X x := by rfl) (hv : bootBuiltins x = some (.type ty.nm) := by decide +kernel) (hn : x ≠ "__name__" := by decide) (hd : (x == ("__debug__" : Str)) = false := by decide) :
    SE X W (.Name x pos) (fC (.ty ty)) := ⟨_, pe_bltn (v := .ty ty.nm) hg hm hv rfl hn hd, sim_const fun _ _ _ => .ty _⟩
/-- a class or def of the text as a value -/
theorem se_gref {x : Str} {a : Addr} {pos : Pos} (hm : X.mg x = some (.ref a)) (hg : Gl X x := by rfl) (hd : (x == ("__debug__" : Str)) = false := by decide) : SE X W (.Name x pos) (fC (.val (.ref a))) :=
  ⟨_, pe_glob (v := .ref a) hg hm rfl hd, sim_const fun _ _ _ => .val _⟩

/-! ### arguments -/
def faNil : FA := fun _ st => .ok [] st
def faCons (f : FE) (r : FA) : FA := fun ρ st => (f ρ st).bind fun d st1 => (r ρ st1).bind fun ds st2 => .ok (d :: ds) st2
theorem sa_nil : SA X W [] faNil := ⟨tNil, pa_nil, fun ρ σ st H C Q rs so h => h.here so [] .nil⟩
theorem sa_cons {e : Expr} {es : List Expr} {f : FE} {r : FA} (he : SE X W e f) (hr : SA X W es r) (hs : starEach (e :: es) X.env = (false, eval e X.env) :: starEach es X.env := by rfl) : SA X W (e :: es) (faCons f r) := by
  obtain ⟨te, pe, se⟩ := he
  obtain ⟨ta, pa, sa⟩ := hr
  refine ⟨tCons te ta, pa_cons pe pa hs, fun ρ σ st H C Q rs so h => ?_⟩
  refine se ρ σ st H C _ rs so (h.bind.imp fun d st1 C1 H1 so1 e1 h1 v rv => ?_)
  refine sa ρ σ st1 H1 C1 _ (rs.mono e1) so1 (h1.bind.imp fun ds st2 C2 H2 so2 e2 h2 vs rvs => ?_)
  exact h2.here so2 _ (.cons (rv.mono e2) rvs)

/-! ### operators -/
/-- what an operation on values does -/
abbrev F2 := D → D → Sto → R D
def SimR2 (g : Gx) (r : R2) (f : F2) : Prop := ∀ (x y : D) (st : Sto) (H : Hp) (C : Ad) (v u : V) (Q : VK), StoOk g.K H C st → Rep g.K H C v x → Rep g.K H C u y →
  After g (fun _ _ _ => False) C H (f x y st) (fun d _ C' H' => ∀ v, Rep g.K H' C' v d → Q v H') → r v u H Q
def fBin (f : F2) (a b : FE) : FE := fun ρ st => (a ρ st).bind fun x st1 => (b ρ st1).bind fun y st2 => f x y st2
/-- an operation raises nothing -/
def NoX2 (f : F2) : Prop := ∀ x y st c z st', f x y st ≠ .exc c z st'
theorem After.nox {α : Type} {g : Gx} {W W' : XK'} {C : Ad} {H : Hp} {r : R α} {P : α → Sto → Ad → Hp → Prop} (h : After g W C H r P) (n : ∀ c x st, r ≠ .exc c x st) : After g W' C H r P := by
  cases r with
  | no => exact h
  | ok a st => exact h
  | exc c x st => exact absurd rfl (n c x st)
theorem sim_op {r : R2} {f : F2} {ta tb : TE} {fa fb : FE} (hr : SimR2 (gx X) r f) (hn : NoX2 f) (ha : SimE (gx X) W ta fa) (hb : SimE (gx X) W tb fb) : SimE (gx X) W (tOp r ta tb) (fBin f fa fb) := fun ρ σ st H C Q rs so h => by
  refine ha ρ σ st H C _ rs so (h.bind.imp fun x st1 C1 H1 so1 e1 h1 v rv => ?_)
  refine hb ρ σ st1 H1 C1 _ (rs.mono e1) so1 (h1.bind.imp fun y st2 C2 H2 so2 e2 h2 u ru => ?_)
  exact hr x y st2 H2 C2 v u Q so2 (rv.mono e2) ru (h2.nox (hn x y st2))
theorem se_bin {op : Operator} {a b : Expr} {fa fb : FE} {f : F2} {pos : Pos} (ho : ∃ r, OpR X (binaryOp op) r ∧ SimR2 (gx X) r f ∧ NoX2 f) (ha : SE X W a fa) (hb : SE X W b fb) : SE X W (.BinOp a op b pos) (fBin f fa fb) := by
  obtain ⟨r, h1, h2, h3⟩ := ho
  obtain ⟨ta, pa, sa⟩ := ha
  obtain ⟨tb, pb, sb⟩ := hb
  exact ⟨tOp r ta tb, pe_op h1 pa pb, sim_op h2 h3 sa sb⟩
theorem se_cmp {op : CmpOp} {a b : Expr} {fa fb : FE} {f : F2} {pos : Pos} (ho : ∃ r, OpR X (compareOp op) r ∧ SimR2 (gx X) r f ∧ NoX2 f) (ha : SE X W a fa) (hb : SE X W b fb) (hm : behindInMarks op b = false := by first | exact nomark _ | rfl) :
    SE X W (.Compare a [op] [b] pos) (fBin f fa fb) := by
  obtain ⟨r, h1, h2, h3⟩ := ho
  obtain ⟨ta, pa, sa⟩ := ha
  obtain ⟨tb, pb, sb⟩ := hb
  exact ⟨tOp r ta tb, pe_cmpR h1 pa pb hm, sim_op h2 h3 sa sb⟩
end
end FL

/-! FGa: defs called where no repr is under way (guards: none) -/
namespace FL
open PySem PySem.Spec PyProof.Rows L2

structure RoomG (base : Heap) (k : Nat) (A : Around) : Prop where
  room : Room k A
  gd : A.guards = some []
  sys : ∃ o, base.get? sysModules = some o
theorem RoomG.mono {base : Heap} {j k : Nat} {A : Around} (r : RoomG base k A) (h : j ≤ k) : RoomG base j A := ⟨r.room.mono h, r.gd, r.sys⟩
/-- a def's promise, kept where no repr is under way -/
structure FnG (P : Program) (w : World) (K : PySem.W.Frag) (mg : Str → Option Value) (base : Heap) (CX : CXT) (k : Nat) (f : Addr) (fd : FuncData) (ps : List Str) (sp : Sp) : Prop where
  len : ∀ vs H Q E, sp vs H Q E → vs.length = ps.length
  run : ∀ (A : Around) (outer : List Env) (sh : Shared) (H : Hp) (ar : Args) (us : List Value) (vs : List V) (Q : VK) (E : XK), RoomG base k A → Env0 P w K mg base A outer sh H →
    BindsTo sh fd ar (ps.zip us) → Vals vs us → sp vs H Q E → codeAny (model P w) A (.call (.ref f) ar) (CR CX outer P w H sh Q E) sh
section
variable {P : Program} {w : World} {K : PySem.W.Frag} {mg : Str → Option Value} {base : Heap} {CX : CXT} {k : Nat} {f : Addr} {fd : FuncData} {ps : List Str} {sp : Sp}
theorem FnG.mono {j : Nat} (F : FnG P w K mg base CX j f fd ps sp) (h : j ≤ k) : FnG P w K mg base CX k f fd ps sp :=
  ⟨F.len, fun A o sh H ar us vs Q E r => F.run A o sh H ar us vs Q E (r.mono h)⟩
theorem FnG.imp {sp' : Sp} (F : FnG P w K mg base CX k f fd ps sp) (h : ∀ vs H Q E, sp' vs H Q E → sp vs H Q E) : FnG P w K mg base CX k f fd ps sp' :=
  ⟨fun vs H Q E q => F.len vs H Q E (h _ _ _ _ q), fun A o sh H ar us vs Q E r e b v q => F.run A o sh H ar us vs Q E r e b v (h _ _ _ _ q)⟩
/-- how a body's end ends the call -/
theorem endG {N : List Str} {q : Str} {sc : Scope} {cdv : Value} {A : Around} {outer : List Env} {sh s' : Shared} {H : Hp} {Q : VK} {E : XK} {fl : Flow} {X : Cx} (hX : X = cxOf CX P w K mg base N q sc f cdv A outer sh H E)
    (h : SP X [] { nx := fun _ H' => Q .non H', rt := Q } fl s') : fl = .next ∧ CE outer P w H sh Q .none s' ∨ ∃ u, fl = .ret u ∧ CE outer P w H sh Q u s' := by
  subst hX
  cases fl with
  | next => obtain ⟨z, G, J, r⟩ := h; exact .inl ⟨rfl, .non, G, J.os, J.bare, J.base, J.hok, rfl, r⟩
  | ret u => obtain ⟨y, z, G, J, ry, r⟩ := h; exact .inr ⟨u, rfl, y, G, J.os, J.bare, J.base, J.hok, ry, r⟩
  | brk => obtain ⟨_, _, _, r⟩ := h; cases r
  | cont => obtain ⟨_, _, _, r⟩ := h; cases r
/-- a def of the text keeps its promise if its body does -/
theorem okG {x q : Str} {prm : Arguments} {bd : List Stmt} {sc : Scope} {N : List Str} (D : FunD K x q prm bd sc [] [] f fd) (S : FnScope N ps sc) (len : ∀ vs H Q E, sp vs H Q E → vs.length = ps.length)
    (hb : ∀ (cdv : Value) (A : Around) (outer : List Env) (sh : Shared) (H : Hp) (vs : List V) (Q : VK) (E : XK), RoomG base k (A.deeper (envOfC q sc sh.heap.objs.size f cdv)) → sp vs H Q E →
      ∃ t, PSs (cxOf CX P w K mg base N q sc f cdv A outer sh H E) bd t ∧ t { nx := fun _ H' => Q .non H', rt := Q } (L2.start N vs) H) : FnG P w K mg base CX (k + 1) f fd ps sp := by
  obtain ⟨o1, o2, d1, d2, doc, pm, an, cdv, ct, osl, rfl, at_, code, _, _⟩ := D.ex
  constructor
  · exact len
  intro A outer sh H ar us vs Q E room env bnd rel prom
  have here : K.In sh.heap := env.mod.kin.keeps fun b o z => (env.bs b o z).1
  have free : sh.heap.NoLimit := env.mod.nolimit.keeps fun b o z => (env.bs b o z).1
  have slots : ∀ y ∈ ps.zip us, sc.names.lookup y.1 = some .local ∨ sc.names.lookup y.1 = some .cell ∧ ((cellsFrom (sh.heap.objs.size + 1) sc.names []).lookup y.1).isSome = true := by
    rintro ⟨n, v⟩ hy
    have m := S.par n (List.of_mem_zip hy).1
    exact m.imp id fun z => ⟨z, PySem.W.cellsFrom_some _ _ _ (.inl z)⟩
  obtain ⟨t, body, post⟩ := hb cdv A outer sh H vs Q E ⟨room.room.deeper _, room.gd, room.sys⟩ prom
  apply codeAny_call_function room.room.depth (here _ _ at_) rfl S.co S.gen rfl (PySem.W.codeRec_of here code)
  apply bnd
  apply wpAny_newFunctionEnv_cells S.kind slots
  intro env' same sh' inc
  subst same
  constructor
  · exact free.keeps inc.toInCall.keep
  apply codeAny_func
  have J := inv_start (CX := CX) (cd := cdv) (E := E) S room.room.hd env (len _ _ _ _ prom) rel inc
  apply wpAny_mono (body.run [] sh' _ H _ J post)
  · intro fl s' z
    rcases endG rfl z with ⟨rfl, r⟩ | ⟨u, rfl, r⟩
    · exact r
    · exact r
  · exact fun _ _ z => z
end
section
variable {X : Cx} {CX : CXT} {k : Nat} {f : Addr} {fd : FuncData} {ps : List Str} {sp : Sp}
/-- the call of a def that keeps its promise -/
theorem runG {pins : List (Addr × Obj)} {σ : L2.St} {H : Hp} {sh : Shared} {Q : VK} {ar : Args} {us : List Value} {vs : List V} {E : XK} (F : FnG X.prog X.w X.K X.mg X.base CX k f fd ps sp) (room : RoomG X.base k X.A) (bnd : BindsTo sh fd ar (ps.zip us)) (pass : PassesAt CX X σ E)
    (I : Inv X pins σ H sh) (rel : Vals vs us) (prom : sp vs H Q E) : codeAny (model X.prog X.w) X.A (.call (.ref f) ar) (fun r s' => match r with
      | .ok (.ret u) => EP X pins σ Q u s'
      | .ok _ => False
      | .error e => X.xe e s') sh := by
  apply codeAny_mono (F.run X.A X.stack sh H ar us vs Q E room I.env0 bnd rel prom)
  intro r s' z
  match r, z with
  | .error e, z => exact pass pins H sh e s' I z
  | .ok (.ret u), z => exact I.after z
end
end FL

/-! FLc: operators -/
namespace FL
open PySem PySem.Spec PyProof.Rows L2

def lim : Nat := 1000000
theorem lim_line {n : Nat} (h : n ≤ lim) : n ≤ sizeLine := Nat.le_trans h (by rw [sizeLine_eq]; decide)
theorem sv_len (s : List Nat) : (sv s).length = s.length := by simp [Str.length]
theorem sv_tl (s : List Nat) : (sv s).cps.toList = s := by simp
theorem sv_app (a b : List Nat) : sv a ++ sv b = sv (a ++ b) := by
  show Str.append _ _ = _
  simp [Str.append, sv]

/-- the items of a list -/
def items (st : Sto) : D → Option (List D)
  | .lst ds => some ds
  | .cel n => match st[n]? with
    | some (.lst ds) => some ds
    | _ => none
  | _ => none
/-- .. a list, or one that is only read -/
def itemsR (st : Sto) : D → Option (List D)
  | .ro ds => some ds
  | d => items st d
/-- .. or a tuple -/
def itemsS (st : Sto) : D → Option (List D)
  | .tup ds => some ds
  | d => itemsR st d
/-- the entries of a dict -/
def ents (st : Sto) : D → Option (List (D × D))
  | .dct es => some es
  | .cel n => match st[n]? with
    | some (.dct es) => some es
    | some (.lck es) => some es
    | _ => none
  | _ => none
section
variable {K : PySem.W.Frag} {H : Hp} {C : Ad} {st : Sto} {d : D} {ds : List D} {v : V}
theorem items_rep (h : items st d = some ds) (so : StoOk K H C st) (r : Rep K H C v d) : ∃ a xs, v = .ref a ∧ H a = some (.lst xs) ∧ Reps K H C xs ds := by
  cases d with
  | lst es =>
    cases h
    cases r with
    | lst h1 h2 h3 => exact ⟨_, _, rfl, h1, h3⟩
  | cel n =>
    unfold items at h
    cases r with
    | cel hc =>
      cases e : st[n]? with
      | none => simp [e] at h
      | some o =>
        simp only [e] at h
        cases o with
        | lst es =>
          cases h
          obtain ⟨xs, h1, h2⟩ := so.ok n _ _ hc e
          exact ⟨_, xs, rfl, h1, h2⟩
        | dct es => cases h
        | lck es => cases h
  | _ => cases h
theorem itemsR_rep (h : itemsR st d = some ds) (so : StoOk K H C st) (r : Rep K H C v d) : ∃ a xs, v = .ref a ∧ SqL K H a xs ∧ Reps K H C xs ds ∧ (∀ H' C', Stay C H C' H' → (∀ n, d = .cel n → H' a = H a) → SqL K H' a xs) := by
  by_cases hd : ∃ es, d = .ro es
  · obtain ⟨es, rfl⟩ := hd
    cases h
    cases r with
    | ro h1 h2 h3 h4 =>
      rcases h2 with rfl | ⟨ob, rfl⟩
      · exact ⟨_, _, rfl, .inl (.inl h1), h4, fun H' C' e _ => .inl (.inl (e.keep _ _ h1 h3))⟩
      · exact ⟨_, _, rfl, .inl (.inr ⟨ob, h1⟩), h4, fun H' C' e _ => .inl (.inr ⟨ob, e.keep _ _ h1 h3⟩)⟩
    | roK h1 h2 => exact ⟨_, _, rfl, h1 H, h2, fun H' C' _ _ => h1 H'⟩
  · have h' : items st d = some ds := by
      cases d <;> first
        | exact absurd ⟨_, rfl⟩ hd
        | exact h
    obtain ⟨a, xs, rfl, h1, h2⟩ := items_rep h' so r
    refine ⟨a, xs, rfl, .inl (.inl h1), h2, fun H' C' e k => ?_⟩
    cases d with
    | lst es =>
      cases r with
      | lst q1 q2 q3 =>
        rw [h1] at q1
        exact .inl (.inl (e.keep _ _ h1 q2))
    | cel n => exact .inl (.inl ((k n rfl).trans h1))
    | _ => cases h'
theorem tup_rep {C : Ad} (r : Rep K H C v (.tup ds)) : ∃ a xs, v = .ref a ∧ H a = some (.tup xs) ∧ C.out a ∧ Reps K H C xs ds := by
  cases r with
  | tup h1 h2 h3 => exact ⟨_, _, rfl, h1, h2, h3⟩
theorem itemsS_rep (h : itemsS st d = some ds) (so : StoOk K H C st) (r : Rep K H C v d) : ∃ a xs, v = .ref a ∧ (SqL K H a xs ∨ SqT K H a xs) ∧ Reps K H C xs ds := by
  by_cases hd : ∃ es, d = .tup es
  · obtain ⟨es, rfl⟩ := hd
    cases h
    obtain ⟨a, xs, rfl, h1, _, h2⟩ := tup_rep r
    exact ⟨a, xs, rfl, .inr (.inl (.inl h1)), h2⟩
  · have h' : itemsR st d = some ds := by
      cases d <;> first
        | exact absurd ⟨_, rfl⟩ hd
        | exact h
    obtain ⟨a, xs, rfl, h1, h2, _⟩ := itemsR_rep h' so r
    exact ⟨a, xs, rfl, .inl h1, h2⟩
theorem Reps.ints : ∀ {is : List Int} {vs : List V}, Reps K H C vs (is.map D.int) → vs = is.map V.int
  | [], _, h => by cases h; rfl
  | i :: is, _, h => by
    cases h with
    | cons h1 h2 => cases h1; rw [Reps.ints h2]; rfl
theorem Reps.strs : ∀ {ss : List (List Nat)} {vs : List V}, Reps K H C vs (ss.map D.str) → vs = (ss.map sv).map V.str
  | [], _, h => by cases h; rfl
  | i :: is, _, h => by
    cases h with
    | cons h1 h2 => cases h1; rw [Reps.strs h2]; rfl
theorem Reps.bls : ∀ {bs : List Bool} {vs : List V}, Reps K H C vs (bs.map D.bl) → vs = bs.map V.bl
  | [], _, h => by cases h; rfl
  | i :: is, _, h => by
    cases h with
    | cons h1 h2 => cases h1; rw [Reps.bls h2]; rfl
theorem Reps.of_ints : ∀ (is : List Int), Reps K H C (is.map V.int) (is.map D.int)
  | [] => .nil
  | i :: is => .cons (.int i) (Reps.of_ints is)
theorem Reps.of_strs : ∀ (ss : List (List Nat)), Reps K H C ((ss.map sv).map V.str) (ss.map D.str)
  | [] => .nil
  | i :: is => .cons (.str i) (Reps.of_strs is)
end

/-! ### new objects -/
section
variable {g : Gx} {W : XK'} {C : Ad} {H : Hp} {st : Sto} {ds : List D} {xs : List V} {Q : VK}
theorem new_lst (h : After g W C H (.ok (.lst ds) st) fun d _ C' H' => ∀ v, Rep g.K H' C' v d → Q v H') (so : StoOk g.K H C st) (r : Reps g.K H C xs ds) : ∀ p, H p = none → Q (.ref p) (upd H p (.lst xs)) := fun p hp =>
  h.now (so.tree hp) (Ext.tree hp) _ (.lst upd_same (so.fresh hp) (r.mono (Ext.tree hp)))
theorem new_tup (h : After g W C H (.ok (.tup ds) st) fun d _ C' H' => ∀ v, Rep g.K H' C' v d → Q v H') (so : StoOk g.K H C st) (r : Reps g.K H C xs ds) : ∀ p, H p = none → Q (.ref p) (upd H p (.tup xs)) := fun p hp =>
  h.now (so.tree hp) (Ext.tree hp) _ (.tup upd_same (so.fresh hp) (r.mono (Ext.tree hp)))
theorem new_cel (h : After g W C H (.ok (.cel st.length) (st ++ [.lst ds])) fun d _ C' H' => ∀ v, Rep g.K H' C' v d → Q v H') (so : StoOk g.K H C st) (r : Reps g.K H C xs ds) : ∀ p, H p = none → Q (.ref p) (upd H p (.lst xs)) := fun p hp =>
  h.now (so.cell hp ⟨xs, upd_same, r.mono (Ext.cell hp)⟩) (Ext.cell hp) _ (.cel (by show (C.c ++ [p])[st.length]? = some p; rw [← so.len]; simp))
end

/-! ### + -/
def gAdd : F2 := fun x y st => match x, y with
  | .int i, .int j => .ok (.int (i + j)) st
  | .str a, .str b => if a.length + b.length ≤ lim then .ok (.str (a ++ b)) st else .no
  | x, y => match items st x, items st y with
    | some a, some b => if a.length + b.length ≤ lim then .ok (.lst (a ++ b)) st else .no
    | _, _ => .no
theorem nox_add : NoX2 gAdd := fun x y st c z st' h => by
  unfold gAdd at h
  split at h <;> first
    | cases h
    | (split at h <;> first
      | cases h
      | (split at h <;> cases h))
section
variable {X : Cx}
theorem o_add : ∃ r, OpR X (binaryOp .Add) r ∧ SimR2 (gx X) r gAdd ∧ NoX2 gAdd := by
  refine ⟨_, op_add.or (op_add_str.or op_cat), fun x y st H C v u Q so rx ry h => ?_, nox_add⟩
  unfold gAdd at h
  split at h
  · cases rx; cases ry
    exact .inl ⟨_, _, rfl, rfl, h.here so _ (.int _)⟩
  · cases rx; cases ry
    split at h
    · rename_i hl
      refine .inr (.inl ⟨_, _, rfl, rfl, ?_, ?_⟩)
      · rw [sv_len, sv_len]; exact lim_line hl
      · rw [sv_app]; exact h.here so _ (.str _)
    · exact h.elim
  · split at h
    · rename_i e1 e2
      split at h
      · rename_i hl
        obtain ⟨a, xs, rfl, h1, r1⟩ := items_rep e1 so rx
        obtain ⟨b, ys, rfl, h2, r2⟩ := items_rep e2 so ry
        exact .inr (.inr ⟨a, b, xs, ys, rfl, rfl, h1, h2, by rw [r1.length, r2.length]; exact lim_line hl, new_lst h so (r1.app r2)⟩)
      · exact h.elim
    · exact h.elim
end

/-! ### numbers -/
def gInt (c : Int → Int → Bool) (f : Int → Int → D) : F2 := fun x y st => match x, y with
  | .int i, .int j => if c i j = true then .ok (f i j) st else .no
  | _, _ => .no
theorem nox_int {c : Int → Int → Bool} {f : Int → Int → D} : NoX2 (gInt c f) := fun x y st c z st' h => by
  unfold gInt at h
  split at h
  · split at h <;> cases h
  · cases h
theorem sim_int {g : Gx} {c : Int → Int → Bool} {P : Int → Int → Prop} {f : Int → Int → D} {k : Int → Int → V} (hc : ∀ i j, c i j = true → P i j) (hf : ∀ K H C i j, Rep K H C (k i j) (f i j)) : SimR2 g (rI P k) (gInt c f) := fun x y st H C v u Q so rx ry h => by
  unfold gInt at h
  split at h
  · cases rx; cases ry
    split at h
    · rename_i q
      exact ⟨_, _, rfl, rfl, hc _ _ q, h.here so _ (hf _ _ _ _ _)⟩
    · exact h.elim
  · exact h.elim
def cTrue : Int → Int → Bool := fun _ _ => true
theorem sim_int0 {g : Gx} {f : Int → Int → D} {k : Int → Int → V} (hf : ∀ K H C i j, Rep K H C (k i j) (f i j)) : SimR2 g (rI0 k) (gInt cTrue f) := fun x y st H C v u Q so rx ry h => by
  unfold gInt at h
  split at h
  · cases rx; cases ry
    rw [show cTrue _ _ = true from rfl, if_pos rfl] at h
    exact ⟨_, _, rfl, rfl, h.here so _ (hf _ _ _ _ _)⟩
  · exact h.elim
def gSub : F2 := gInt cTrue fun i j => .int (i - j)
def cMul : Int → Int → Bool := fun i j => decide (i.natAbs < 18446744073709551616) || decide (j.natAbs < 18446744073709551616) || decide (Builtin.Int.intBits i + Builtin.Int.intBits j ≤ 134217728)
def cDiv : Int → Int → Bool := fun _ j => decide (0 < j) && decide (j.natAbs < 18446744073709551616)
def cMod : Int → Int → Bool := fun _ j => decide (0 < j)
def cPow : Int → Int → Bool := fun i j => decide (0 ≤ j) && decide ((Builtin.Int.intBits i : Int) * j ≤ 134217728)
def gDiv : F2 := gInt cDiv fun i j => .int (i / j)
def gMod : F2 := gInt cMod fun i j => .int (i % j)
def gPow : F2 := gInt cPow fun i j => .int (i ^ j.toNat)
section
variable {X : Cx}
theorem o_sub : ∃ r, OpR X (binaryOp .Sub) r ∧ SimR2 (gx X) r gSub ∧ NoX2 gSub := ⟨_, op_sub, sim_int0 fun _ _ _ _ _ => .int _, nox_int⟩
theorem o_div : ∃ r, OpR X (binaryOp .FloorDiv) r ∧ SimR2 (gx X) r gDiv ∧ NoX2 gDiv := ⟨_, op_fdivW, sim_int (fun i j h => by
  unfold cDiv at h
  simp only [Bool.and_eq_true, decide_eq_true_eq] at h
  exact wide_div (b := 64) h.1 (by omega) (by decide) (by decide)) fun _ _ _ _ _ => .int _, nox_int⟩
theorem o_mod : ∃ r, OpR X (binaryOp .Mod) r ∧ SimR2 (gx X) r gMod ∧ NoX2 gMod := ⟨_, op_mod, sim_int (fun i j h => by
  unfold cMod at h
  simpa using h) fun _ _ _ _ _ => .int _, nox_int⟩
def CPowB (i j : Int) : Prop := 0 ≤ j ∧ (Builtin.Int.intBits i : Int) * j ≤ 2 ^ 27
theorem op_powB : OpR X (binaryOp .Pow) (rI CPowB fun i j => .int (i ^ j.toNat)) := opI fun _ _ _ _ _ _ _ hc q => pow_int hc.1 hc.2 q
theorem o_pow : ∃ r, OpR X (binaryOp .Pow) r ∧ SimR2 (gx X) r gPow ∧ NoX2 gPow := ⟨_, op_powB, sim_int (fun i j h => by
  unfold cPow at h
  simp only [Bool.and_eq_true, decide_eq_true_eq] at h
  exact ⟨h.1, h.2⟩) fun _ _ _ _ _ => .int _, nox_int⟩
end

/-! ### * -/
def repL {α : Type} (n : Int) (xs : List α) : List α := (List.replicate n.toNat xs).flatten
theorem repL_len {α : Type} (n : Int) (xs : List α) : (repL n xs).length = n.toNat * xs.length := by
  unfold repL
  induction n.toNat with
  | zero => simp
  | succ k ih => rw [List.replicate_succ, List.flatten_cons, List.length_append, ih, Nat.succ_mul, Nat.add_comm]
def gMul : F2 := fun x y st => match x, y with
  | .int i, .int j => if cMul i j = true then .ok (.int (i * j)) st else .no
  | .str a, .int j => if j.natAbs < 1000000 ∧ a.length * j.toNat ≤ lim then .ok (.str (repL j a)) st else .no
  | x, .int j => match items st x with
    | some a => if j.natAbs < 1000000 ∧ a.length * j.toNat ≤ lim then .ok (.lst (repL j a)) st else .no
    | _ => .no
  | _, _ => .no
theorem nox_mul : NoX2 gMul := fun x y st c z st' h => by
  unfold gMul at h
  split at h <;> first
    | cases h
    | (split at h <;> first
      | cases h
      | (split at h <;> cases h))
theorem fold_app (l : List (Array Nat)) : ∀ acc : Array Nat, (l.foldl (· ++ ·) acc).toList = acc.toList ++ (l.map (·.toList)).flatten := by
  induction l with
  | nil => intro acc; simp
  | cons a r ih => intro acc; rw [List.foldl_cons, ih]; simp
section
variable {X : Cx}
def rMulS : R2 := fun x y H Q => ∃ z n, x = .str z ∧ y = .int n ∧ n < 2 ^ 40 ∧ -(2 ^ 40) < n ∧ z.length * n.toNat ≤ sizeLine ∧ Q (.str (sv (repL n z.cps.toList))) H
theorem op_mulS : OpR X (binaryOp .Mult) rMulS := by
  intro pins s σ H x y v u Q I rx ry h
  obtain ⟨z, n, rfl, rfl, h1, h2, hz, q⟩ := h
  obtain ⟨t, rfl⟩ := rx
  obtain ⟨t', rfl⟩ := ry
  have hz' : z.length * n.toNat ≤ 16777216 := by rw [sizeLine_eq] at hz; exact hz
  refine PySem.P.mul_str ?_ (fun a b => ?_) (fun a b => ?_) ?_
  · have e1 : ¬ n < -(2 ^ 63 : Int) := by omega
    have e2 : ¬ n ≥ (2 ^ 63 : Int) := by omega
    rw [decide_eq_false e1, decide_eq_false e2]; rfl
  · have h0 : 0 < n := by omega
    intro hc
    have e : (z.length : Int) * n ≤ 16777216 := by
      have : ((z.length * n.toNat : Nat) : Int) ≤ 16777216 := Int.ofNat_le.mpr hz'
      rw [Int.natCast_mul, Int.toNat_of_nonneg (by omega)] at this
      exact this
    have e2 : (2 ^ 63 - 1 : Int) / n + 1 ≤ z.length := hc
    have e3 : (2 ^ 63 - 1 : Int) < ((2 ^ 63 - 1 : Int) / n + 1) * n := Int.lt_ediv_add_one_mul_self _ h0
    have e4 : ((2 ^ 63 - 1 : Int) / n + 1) * n ≤ (z.length : Int) * n := Int.mul_le_mul_of_nonneg_right e2 (by omega)
    omega
  · unfold PySem.Builtin.Str.tooLong
    have e : ¬ (z.length * n.toNat > sizeLine) := by rw [sizeLine_eq]; omega
    exact decide_eq_false e
  · split
    · rename_i hn
      refine ⟨by decide, .str _, H, I.tok _, ⟨s.toks, ?_⟩, q⟩
      have e0 : n.toNat = 0 := by omega
      have e1 : repL n z.cps.toList = [] := by unfold repL; rw [e0]; rfl
      rw [e1]
      rfl
    · rename_i hn
      split
      · rename_i hb
        refine ⟨.str _, H, I, ⟨t, ?_⟩, q⟩
        congr 1
        obtain ⟨zc⟩ := z
        simp only [Bool.or_eq_true, beq_iff_eq] at hb
        rcases hb with hb | hb
        · subst hb
          simp [repL, sv]
        · have e0 : zc = #[] := Array.eq_empty_of_size_eq_zero (by simpa [Str.length] using hb)
          subst e0
          simp [repL, sv]
      · have ea : (List.replicate n.toNat z.cps).foldl (· ++ ·) #[] = (repL n z.cps.toList).toArray := by
          apply Array.ext'
          rw [fold_app]
          unfold repL
          simp
        refine ⟨?_, .str _, H, I.tok _, ⟨s.toks, ?_⟩, q⟩
        · rw [ea]
          show (repL n z.cps.toList).toArray.size ≤ sizeLine
          rw [List.size_toArray, repL_len, Array.length_toList, Nat.mul_comm]
          exact hz
        · rw [ea]

theorem o_mul : ∃ r, OpR X (binaryOp .Mult) r ∧ SimR2 (gx X) r gMul ∧ NoX2 gMul := by
  refine ⟨_, op_mulX.or (op_mul.or (op_mulS.or op_rep)), fun x y st H C v u Q so rx ry h => ?_, nox_mul⟩
  unfold gMul at h
  split at h
  · cases rx; cases ry
    split at h
    · rename_i q
      unfold cMul at q
      simp only [Bool.or_eq_true, decide_eq_true_eq] at q
      rcases q with (q | q) | q
      · exact .inr (.inl ⟨_, _, rfl, rfl, .inl (by omega), h.here so _ (.int _)⟩)
      · exact .inr (.inl ⟨_, _, rfl, rfl, .inr (by omega), h.here so _ (.int _)⟩)
      · exact .inl ⟨_, _, rfl, rfl, by unfold CMulX; omega, h.here so _ (.int _)⟩
    · exact h.elim
  · cases rx; cases ry
    split at h
    · rename_i q
      refine .inr (.inr (.inl ⟨_, _, rfl, rfl, by omega, by omega, ?_, ?_⟩))
      · rw [sv_len]; exact lim_line q.2
      · rw [sv_tl]; exact h.here so _ (.str _)
    · exact h.elim
  · cases ry
    split at h
    · rename_i e1
      split at h
      · rename_i q
        obtain ⟨a, xs, rfl, h1, r1⟩ := items_rep e1 so rx
        exact .inr (.inr (.inr ⟨a, _, xs, rfl, rfl, h1, by omega, by omega, by rw [r1.length]; exact lim_line q.2, new_lst h so (r1.rep _)⟩))
      · exact h.elim
    · exact h.elim
  · exact h.elim
end
end FL

/-! FLd: comparisons -/
namespace FL
open PySem PySem.Spec PyProof.Rows L2

def okCp (c : Nat) : Bool := decide (c < 1114112)
theorem okCp_ok {s : List Nat} (h : s.all okCp = true) : PyData.strOk (sv s) = true := by
  show (s.toArray).all (fun x => decide (x < 0x110000)) = true
  unfold okCp at h
  simpa using h
/-- data as the library's plain data (no dicts), n deep -/
def toPy (st : Sto) : Nat → D → Option PyData
  | _, .non => some .none
  | _, .bl b => some (.bool b)
  | _, .int i => some (.int i)
  | _, .str s => if s.all okCp = true then some (.str (sv s)) else none
  | n + 1, .tup ds => (ds.mapM (toPy st n)).map .tuple
  | n + 1, .ro ds => (ds.mapM (toPy st n)).map .list
  | n + 1, d => (items st d).bind fun ds => (ds.mapM (toPy st n)).map .list
  | _, _ => none
section
variable {K : PySem.W.Frag} {H : Hp} {C : Ad} {st : Sto}
theorem mapM_dp {f : D → Option PyData} (ih : ∀ d p v, f d = some p → Rep K H C v d → Dp K H v p) : ∀ (ds : List D) (ps : List PyData) (vs : List V), ds.mapM f = some ps → Reps K H C vs ds → DpAll K H vs ps
  | [], ps, vs, h, r => by
    cases r
    have : ps = [] := by simpa using h.symm
    subst this
    exact .nil
  | d :: ds, ps, vs, h, r => by
    cases r with
    | cons r1 r2 =>
      rw [List.mapM_cons] at h
      cases e : f d with
      | none => rw [e] at h; cases h
      | some p =>
        cases e2 : ds.mapM f with
        | none => rw [e, e2] at h; cases h
        | some qs =>
          rw [e, e2] at h
          have : p :: qs = ps := by simpa using h
          subst this
          exact .cons (ih _ _ _ e r1) (mapM_dp ih ds qs _ e2 r2)
theorem toPy_dp (so : StoOk K H C st) : ∀ (n : Nat) (d : D) (p : PyData) (v : V), toPy st n d = some p → Rep K H C v d → Dp K H v p := by
  intro n
  induction n with
  | zero =>
    intro d p v h r
    cases d with
    | non => cases r; cases h; exact .non
    | bl b => cases r; cases h; exact .bl _
    | int i => cases r; cases h; exact .int _
    | str s =>
      cases r
      rw [toPy] at h
      split at h
      · cases h; exact .str _
      · cases h
    | _ => cases h
  | succ n ih =>
    intro d p v h r
    have lst : ∀ ds, items st d = some ds → (ds.mapM (toPy st n)).map PyData.list = some p → Dp K H v p := fun ds e h => by
      obtain ⟨a, xs, rfl, h1, r1⟩ := items_rep e so r
      cases e2 : ds.mapM (toPy st n) with
      | none => rw [e2] at h; cases h
      | some ps => rw [e2] at h; cases h; exact .lst (SqL.of h1) (mapM_dp ih ds ps xs e2 r1)
    cases d with
    | non => cases r; cases h; exact .non
    | bl b => cases r; cases h; exact .bl _
    | int i => cases r; cases h; exact .int _
    | str s =>
      cases r
      rw [toPy] at h
      split at h
      · cases h; exact .str _
      · cases h
    | tup ds =>
      obtain ⟨a, xs, rfl, h1, _, r1⟩ := tup_rep r
      cases e2 : ds.mapM (toPy st n) with
      | none => rw [toPy, e2] at h; cases h
      | some ps => rw [toPy, e2] at h; cases h; exact .tup (SqT.of h1) (mapM_dp ih ds ps xs e2 r1)
    | ro ds =>
      obtain ⟨a, xs, rfl, h1, r1, _⟩ := itemsR_rep (ds := ds) rfl so r
      cases e2 : ds.mapM (toPy st n) with
      | none => rw [toPy, e2] at h; cases h
      | some ps => rw [toPy, e2] at h; cases h; exact .lst h1 (mapM_dp ih ds ps xs e2 r1)
    | lst ds => exact lst ds rfl h
    | cel k =>
      have h' : (items st (.cel k)).bind (fun ds => (ds.mapM (toPy st n)).map PyData.list) = some p := h
      cases e : items st (.cel k) with
      | none => rw [e] at h'; cases h'
      | some ds => rw [e] at h'; exact lst ds e h'
    | dct es => cases h
    | val u => cases h
    | ty u => cases h
theorem mapM_all {f : D → Option PyData} {P : PyData → Prop} (ih : ∀ d p, f d = some p → P p) : ∀ (ds : List D) (ps : List PyData), ds.mapM f = some ps → ∀ p ∈ ps, P p
  | [], ps, h, p, hp => by
    have : ps = [] := by simpa using h.symm
    subst this
    cases hp
  | d :: ds, ps, h, p, hp => by
    rw [List.mapM_cons] at h
    cases e : f d with
    | none => rw [e] at h; cases h
    | some q =>
      cases e2 : ds.mapM f with
      | none => rw [e, e2] at h; cases h
      | some qs =>
        rw [e, e2] at h
        have : q :: qs = ps := by simpa using h
        subst this
        rcases List.mem_cons.mp hp with rfl | hp
        · exact ih _ _ e
        · exact mapM_all ih ds qs e2 p hp
theorem lay_all : ∀ (ps : List PyData), (∀ p ∈ ps, p.canLay0 = true) → PyData.canLayAll0 ps = true
  | [], _ => rfl
  | p :: ps, h => by
    simp only [PyData.canLayAll0, Bool.and_eq_true]
    exact ⟨h p (List.mem_cons_self), lay_all ps fun q hq => h q (List.mem_cons_of_mem _ hq)⟩
theorem depth_all {n : Nat} : ∀ (ps : List PyData), (∀ p ∈ ps, p.depth ≤ n) → PyData.depthAll ps ≤ n
  | [], _ => by simp [PyData.depthAll]
  | p :: ps, h => by
    have h1 := h p (List.mem_cons_self)
    have h2 := depth_all ps fun q hq => h q (List.mem_cons_of_mem _ hq)
    simp only [PyData.depthAll]
    omega
theorem toPy_ok : ∀ (n : Nat) (d : D) (p : PyData), toPy st n d = some p → p.canLay0 = true ∧ p.depth ≤ n := by
  intro n
  induction n with
  | zero =>
    intro d p h
    cases d with
    | non => cases h; exact ⟨by simp [PyData.canLay0], by simp [PyData.depth]⟩
    | bl b => cases h; exact ⟨by simp [PyData.canLay0], by simp [PyData.depth]⟩
    | int b => cases h; exact ⟨by simp [PyData.canLay0], by simp [PyData.depth]⟩
    | str b =>
      rw [toPy] at h
      split at h
      · rename_i q; cases h; exact ⟨by simp [PyData.canLay0, okCp_ok q], by simp [PyData.depth]⟩
      · cases h
    | _ => cases h
  | succ n ih =>
    intro d p h
    have hl : ∀ (ds : List D) (ps : List PyData), ds.mapM (toPy st n) = some ps → PyData.canLayAll0 ps = true ∧ PyData.depthAll ps ≤ n := fun ds ps e =>
      ⟨lay_all ps fun q hq => (mapM_all (P := fun p => p.canLay0 = true ∧ p.depth ≤ n) ih ds ps e q hq).1, depth_all ps fun q hq => (mapM_all (P := fun p => p.canLay0 = true ∧ p.depth ≤ n) ih ds ps e q hq).2⟩
    have lst : ∀ ds, (List.mapM (toPy st n) ds).map PyData.list = some p → p.canLay0 = true ∧ p.depth ≤ n + 1 := fun ds h => by
      cases e2 : ds.mapM (toPy st n) with
      | none => rw [e2] at h; cases h
      | some ps =>
        rw [e2] at h; cases h
        obtain ⟨h1, h2⟩ := hl ds ps e2
        exact ⟨by simp [PyData.canLay0, h1], by simp [PyData.depth]; omega⟩
    cases d with
    | tup ds =>
      cases e2 : ds.mapM (toPy st n) with
      | none => rw [toPy, e2] at h; cases h
      | some ps =>
        rw [toPy, e2] at h; cases h
        obtain ⟨h1, h2⟩ := hl ds ps e2
        exact ⟨by simp [PyData.canLay0, h1], by simp [PyData.depth]; omega⟩
    | ro ds => exact lst ds h
    | lst ds => exact lst ds h
    | cel k =>
      have h' : (items st (.cel k)).bind (fun ds => (ds.mapM (toPy st n)).map PyData.list) = some p := h
      cases e : items st (.cel k) with
      | none => rw [e] at h'; cases h'
      | some ds => rw [e] at h'; exact lst ds h'
    | dct es => cases h
    | val u => cases h
    | ty u => cases h
    | non => cases h; exact ⟨by simp [PyData.canLay0], by simp [PyData.depth]⟩
    | bl b => cases h; exact ⟨by simp [PyData.canLay0], by simp [PyData.depth]⟩
    | int b => cases h; exact ⟨by simp [PyData.canLay0], by simp [PyData.depth]⟩
    | str b =>
      rw [toPy] at h
      split at h
      · rename_i q; cases h; exact ⟨by simp [PyData.canLay0, okCp_ok q], by simp [PyData.depth]⟩
      · cases h
theorem toPy_shaped {n : Nat} {d : D} {p : PyData} (hn : n ≤ 60) (h : toPy st n d = some p) : SeqAt.shaped p = true := by
  obtain ⟨h1, h2⟩ := toPy_ok n d p h
  unfold SeqAt.shaped
  rw [h1, decide_eq_true (by omega : p.depth ≤ 64)]
  rfl
end

/-! ### == and != -/
def gEqN (neg : Bool) : F2 := fun x y st => match toPy st 40 x, toPy st 40 y with
  | some p, some q => .ok (.bl (neg != PyData.eqv p q)) st
  | _, _ => .no
def gEq : F2 := gEqN false
def gNe : F2 := gEqN true
theorem nox_eqN {b : Bool} : NoX2 (gEqN b) := fun x y st c z st' h => by
  unfold gEqN at h
  split at h <;> cases h
section
variable {X : Cx}
theorem o_eq (hu : X.A.units + 64 < cLine) : ∃ r, OpR X (compareOp .Eq) r ∧ SimR2 (gx X) r gEq ∧ NoX2 gEq := by
  refine ⟨_, op_eqD hu, fun x y st H C v u Q so rx ry h => ?_, nox_eqN⟩
  unfold gEq gEqN at h
  split at h
  · rename_i e1 e2
    exact ⟨_, _, toPy_dp so _ _ _ _ e1 rx, toPy_dp so _ _ _ _ e2 ry, toPy_shaped (by decide) e1, toPy_shaped (by decide) e2, by simpa using h.here so _ (.bl _)⟩
  · exact h.elim
theorem o_ne (hu : X.A.units + 64 < cLine) : ∃ r, OpR X (compareOp .NotEq) r ∧ SimR2 (gx X) r gNe ∧ NoX2 gNe := by
  refine ⟨_, op_neD hu, fun x y st H C v u Q so rx ry h => ?_, nox_eqN⟩
  unfold gNe gEqN at h
  split at h
  · rename_i e1 e2
    exact ⟨_, _, toPy_dp so _ _ _ _ e1 rx, toPy_dp so _ _ _ _ e2 ry, toPy_shaped (by decide) e1, toPy_shaped (by decide) e2, by simpa using h.here so _ (.bl _)⟩
  · exact h.elim
end

/-! ### < <= > >= -/
def gOrd (f : Int → Int → Bool) (s : List Nat → List Nat → Bool) : F2 := fun x y st => match x, y with
  | .int i, .int j => .ok (.bl (f i j)) st
  | .str a, .str b => .ok (.bl (s a b)) st
  | _, _ => .no
theorem nox_ord {f : Int → Int → Bool} {k : List Nat → List Nat → Bool} : NoX2 (gOrd f k) := fun x y st c z st' h => by
  unfold gOrd at h
  split at h <;> cases h
def gLt : F2 := gOrd (fun i j => decide (i < j)) fun a b => decide (a < b)
def gLe : F2 := gOrd (fun i j => decide (i ≤ j)) fun a b => !decide (b < a)
def gGt : F2 := gOrd (fun i j => decide (j < i)) fun a b => decide (b < a)
def gGe : F2 := gOrd (fun i j => decide (j ≤ i)) fun a b => !decide (a < b)
section
variable {X : Cx}
theorem o_ord {op : CmpOp} {f : Int → Int → Bool} {k : List Nat → List Nat → Bool} (h1 : OpR X (compareOp op) (rI0 fun i j => .bl (f i j))) (h2 : OpR X (compareOp op) (fun x y H Q => ∃ i j, x = .str i ∧ y = .str j ∧ Q (.bl (k i.cps.toList j.cps.toList)) H)) :
    ∃ r, OpR X (compareOp op) r ∧ SimR2 (gx X) r (gOrd f k) ∧ NoX2 (gOrd f k) := by
  refine ⟨_, h1.or h2, fun x y st H C v u Q so rx ry h => ?_, nox_ord⟩
  unfold gOrd at h
  split at h
  · cases rx; cases ry
    exact .inl ⟨_, _, rfl, rfl, h.here so _ (.bl _)⟩
  · cases rx; cases ry
    refine .inr ⟨_, _, rfl, rfl, ?_⟩
    rw [sv_tl, sv_tl]
    exact h.here so _ (.bl _)
  · exact h.elim
theorem o_lt : ∃ r, OpR X (compareOp .Lt) r ∧ SimR2 (gx X) r gLt ∧ NoX2 gLt := o_ord op_lt op_lt_str
theorem o_le : ∃ r, OpR X (compareOp .LtE) r ∧ SimR2 (gx X) r gLe ∧ NoX2 gLe := o_ord op_le op_le_str
theorem o_gt : ∃ r, OpR X (compareOp .Gt) r ∧ SimR2 (gx X) r gGt ∧ NoX2 gGt := o_ord op_gt op_gt_str
theorem o_ge : ∃ r, OpR X (compareOp .GtE) r ∧ SimR2 (gx X) r gGe ∧ NoX2 gGe := o_ord op_ge op_ge_str
end

/-! ### in -/
def isNone : D → Bool
  | .non => true
  | _ => false
/-! ### is, is not: with None, True, False -/
def isD : D → D → Option Bool
  | .val _, .non => none
  | x, .non => some (isNone x)
  | .bl a, .bl b => some (a == b)
  | .non, .bl _ => some false
  | .int _, .bl _ => some false
  | .str _, .bl _ => some false
  | .lst _, .bl _ => some false
  | .tup _, .bl _ => some false
  | .dct _, .bl _ => some false
  | .cel _, .bl _ => some false
  | _, _ => none
def gIs : F2 := fun x y st => match isD x y with
  | some b => .ok (.bl b) st
  | none => .no
def gIsNot : F2 := fun x y st => match isD x y with
  | some b => .ok (.bl (!b)) st
  | none => .no
theorem nox_is : NoX2 gIs := fun x y st c z st' h => by
  unfold gIs at h
  split at h <;> cases h
theorem nox_isNot : NoX2 gIsNot := fun x y st c z st' h => by
  unfold gIsNot at h
  split at h <;> cases h
/-- a value and a bool: whether they are one -/
def isV : V → Bool → Bool
  | .bl a, b => a == b
  | _, _ => false
section
variable {X : Cx}
def rIsV : R2 := fun x y H Q => ∃ b, y = .bl b ∧ Q (.bl (isV x b)) H
def rIsNotV : R2 := fun x y H Q => ∃ b, y = .bl b ∧ Q (.bl (!isV x b)) H
theorem op_isV : OpR X (compareOp .Is) rIsV := by
  intro pins s σ H x y v u Q I rx ry h
  obtain ⟨b, rfl, q⟩ := h
  cases (show u = Value.bool b from ry)
  cases x with
  | bl a =>
    cases (show v = Value.bool a from rx)
    by_cases e : a = b
    · subst e
      exact wpAny_is_self rfl ⟨.bl true, H, I, rfl, by simpa [isV] using q⟩
    · exact wpAny_is_other rfl (fun z => e (Value.bool.inj z)) ⟨.bl false, H, I, rfl, by rw [show isV (.bl a) b = false from beq_eq_false_iff_ne.mpr e] at q; exact q⟩
  | non => cases (show v = Value.none from rx); exact wpAny_is_other rfl (fun z => nomatch z) ⟨.bl false, H, I, rfl, q⟩
  | int i => obtain ⟨t, rfl⟩ := rx; exact wpAny_is_other rfl (fun z => nomatch z) ⟨.bl false, H, I, rfl, q⟩
  | str i => obtain ⟨t, rfl⟩ := rx; exact wpAny_is_other rfl (fun z => nomatch z) ⟨.bl false, H, I, rfl, q⟩
  | byt i => obtain ⟨t, rfl⟩ := rx; exact wpAny_is_other rfl (fun z => nomatch z) ⟨.bl false, H, I, rfl, q⟩
  | flt i => obtain ⟨t, rfl⟩ := rx; exact wpAny_is_other rfl (fun z => nomatch z) ⟨.bl false, H, I, rfl, q⟩
  | ref a => cases (show v = Value.ref a from rx); exact wpAny_is_other rfl (fun z => nomatch z) ⟨.bl false, H, I, rfl, q⟩
  | ty n => cases (show v = Value.type n from rx); exact wpAny_is_other rfl (fun z => nomatch z) ⟨.bl false, H, I, rfl, q⟩
theorem op_isNotV : OpR X (compareOp .IsNot) rIsNotV := by
  intro pins s σ H x y v u Q I rx ry h
  obtain ⟨b, rfl, q⟩ := h
  cases (show u = Value.bool b from ry)
  cases x with
  | bl a =>
    cases (show v = Value.bool a from rx)
    by_cases e : a = b
    · subst e
      exact wpAny_isNot_self rfl ⟨.bl false, H, I, rfl, by simpa [isV] using q⟩
    · exact wpAny_isNot_other rfl (fun z => e (Value.bool.inj z)) ⟨.bl true, H, I, rfl, by rw [show isV (.bl a) b = false from beq_eq_false_iff_ne.mpr e] at q; exact q⟩
  | non => cases (show v = Value.none from rx); exact wpAny_isNot_other rfl (fun z => nomatch z) ⟨.bl true, H, I, rfl, q⟩
  | int i => obtain ⟨t, rfl⟩ := rx; exact wpAny_isNot_other rfl (fun z => nomatch z) ⟨.bl true, H, I, rfl, q⟩
  | str i => obtain ⟨t, rfl⟩ := rx; exact wpAny_isNot_other rfl (fun z => nomatch z) ⟨.bl true, H, I, rfl, q⟩
  | byt i => obtain ⟨t, rfl⟩ := rx; exact wpAny_isNot_other rfl (fun z => nomatch z) ⟨.bl true, H, I, rfl, q⟩
  | flt i => obtain ⟨t, rfl⟩ := rx; exact wpAny_isNot_other rfl (fun z => nomatch z) ⟨.bl true, H, I, rfl, q⟩
  | ref a => cases (show v = Value.ref a from rx); exact wpAny_isNot_other rfl (fun z => nomatch z) ⟨.bl true, H, I, rfl, q⟩
  | ty n => cases (show v = Value.type n from rx); exact wpAny_isNot_other rfl (fun z => nomatch z) ⟨.bl true, H, I, rfl, q⟩
theorem isD_rep {K : PySem.W.Frag} {H : Hp} {C : Ad} {x y : D} {v u : V} {b : Bool} (h : isD x y = some b) (rx : Rep K H C v x) (ry : Rep K H C u y) : (u = .non ∧ decide (v = .non) = b) ∨ ∃ k, u = .bl k ∧ isV v k = b := by
  unfold isD at h
  split at h
  · cases h
  · rename_i hv
    cases ry
    refine .inl ⟨rfl, ?_⟩
    cases h
    cases rx <;> first
      | rfl
      | exact absurd rfl (hv _)
  · cases rx; cases ry; cases h; exact .inr ⟨_, rfl, rfl⟩
  all_goals first
    | (cases rx; cases ry; cases h; exact .inr ⟨_, rfl, rfl⟩)
    | cases h
end
end FL

/-! FLe: tests, displays, calls of built-ins, subscripts, methods -/
namespace FL
open PySem PySem.Spec PyProof.Rows L2

/-! ### tests -/
def fTest (f : FE) : FT := fun ρ st => (f ρ st).bind fun d st1 => match d with
  | .bl b => .ok b st1
  | _ => .no
def fNotT (f : FT) : FT := fun ρ st => (f ρ st).bind fun b st1 => .ok (!b) st1
def fAndT (f h : FT) : FT := fun ρ st => (f ρ st).bind fun b st1 => if b = true then h ρ st1 else .ok false st1
def fOrT (f h : FT) : FT := fun ρ st => (f ρ st).bind fun b st1 => if b = true then .ok true st1 else h ρ st1
def fAndE (f h : FE) : FE := fun ρ st => (f ρ st).bind fun d st1 => match d with
  | .bl b => if b = true then h ρ st1 else .ok (.bl false) st1
  | _ => .no
def fOrE (f h : FE) : FE := fun ρ st => (f ρ st).bind fun d st1 => match d with
  | .bl b => if b = true then .ok (.bl true) st1 else h ρ st1
  | _ => .no
def fNotE (f : FE) : FE := fun ρ st => (f ρ st).bind fun d st1 => match d with
  | .bl b => .ok (.bl (!b)) st1
  | _ => .no
def fIfE (t : FT) (f h : FE) : FE := fun ρ st => (t ρ st).bind fun b st1 => if b = true then f ρ st1 else h ρ st1
section
variable {X : Cx} {W : WX} {e a b c : Expr} {fa fb : FE} {ft fu : FT} {rest : List Expr} {pos : Pos}
theorem sim_test {t : TE} {f : FE} (h : SimE (gx X) W t f) : SimT (gx X) W (tB t) (fTest f) := fun ρ σ st H C Q rs so q => by
  refine h ρ σ st H C _ rs so (q.bind.imp fun d st1 C1 H1 so1 e1 h1 v rv => ?_)
  cases d with
  | bl b => cases rv; exact ⟨b, rfl, h1.here so1⟩
  | _ => exact h1.elim
theorem st_val (h : SE X W e fa) (he : ∀ whole, isTrue e X.env whole = (do let v ← whole; standAt e.pos; holding [v] (truthy v)) := by intro _; rfl) : ST X W e (fTest fa) := by
  obtain ⟨t, p, s⟩ := h
  exact ⟨_, pt_val p he, sim_test s⟩
theorem st_not (h : ST X W a ft) : ST X W (.UnaryOp .Not a pos) (fNotT ft) := by
  obtain ⟨t, p, s⟩ := h
  exact ⟨_, pt_not p, fun ρ σ st H C Q rs so q => s ρ σ st H C _ rs so (q.bind.imp fun b st1 C1 H1 so1 e1 h1 => h1.here so1)⟩
theorem sw_and1 (h : ST X W a ft) : SW X W (.BoolOp .And [a] pos) ft := by
  obtain ⟨t, p, s⟩ := h
  exact ⟨_, pw_and1 p, s⟩
theorem sw_or1 (h : ST X W a ft) : SW X W (.BoolOp .Or [a] pos) ft := by
  obtain ⟨t, p, s⟩ := h
  exact ⟨_, pw_or1 p, s⟩
theorem sw_and (h : ST X W a ft) (h2 : SW X W (.BoolOp .And (b :: rest) pos) fu) : SW X W (.BoolOp .And (a :: b :: rest) pos) (fAndT ft fu) := by
  obtain ⟨t, p, s⟩ := h
  obtain ⟨u, p2, s2⟩ := h2
  refine ⟨_, pw_and p p2, fun ρ σ st H C Q rs so q => s ρ σ st H C _ rs so (q.bind.imp fun k st1 C1 H1 so1 e1 h1 => ?_)⟩
  cases k with
  | true => exact iteT (s2 ρ σ st1 H1 C1 _ (rs.mono e1) so1 h1)
  | false => exact iteF (h1.here so1)
theorem sw_or (h : ST X W a ft) (h2 : SW X W (.BoolOp .Or (b :: rest) pos) fu) : SW X W (.BoolOp .Or (a :: b :: rest) pos) (fOrT ft fu) := by
  obtain ⟨t, p, s⟩ := h
  obtain ⟨u, p2, s2⟩ := h2
  refine ⟨_, pw_or p p2, fun ρ σ st H C Q rs so q => s ρ σ st H C _ rs so (q.bind.imp fun k st1 C1 H1 so1 e1 h1 => ?_)⟩
  cases k with
  | true => exact iteT (h1.here so1)
  | false => exact iteF (s2 ρ σ st1 H1 C1 _ (rs.mono e1) so1 h1)
theorem SW.st (h : SW X W e ft) : ST X W e ft := by
  obtain ⟨t, p, s⟩ := h
  exact ⟨_, p.pt, s⟩
theorem se_one {op} (h : SE X W a fa) : SE X W (.BoolOp op [a] pos) fa := by
  obtain ⟨t, p, s⟩ := h
  exact ⟨_, pe_one p, s⟩
theorem se_and (h : SE X W a fa) (h2 : SE X W (.BoolOp .And (b :: rest) pos) fb) : SE X W (.BoolOp .And (a :: b :: rest) pos) (fAndE fa fb) := by
  obtain ⟨t, p, s⟩ := h
  obtain ⟨u, p2, s2⟩ := h2
  refine ⟨_, pe_and p p2, fun ρ σ st H C Q rs so q => s ρ σ st H C _ rs so (q.bind.imp fun d st1 C1 H1 so1 e1 h1 v rv => ?_)⟩
  cases d with
  | bl k =>
    cases rv
    cases k with
    | true => exact ⟨true, rfl, iteT (s2 ρ σ st1 H1 C1 _ (rs.mono e1) so1 h1)⟩
    | false => exact ⟨false, rfl, iteF (h1.here so1 _ (.bl _))⟩
  | _ => exact h1.elim
theorem se_or (h : SE X W a fa) (h2 : SE X W (.BoolOp .Or (b :: rest) pos) fb) : SE X W (.BoolOp .Or (a :: b :: rest) pos) (fOrE fa fb) := by
  obtain ⟨t, p, s⟩ := h
  obtain ⟨u, p2, s2⟩ := h2
  refine ⟨_, pe_or p p2, fun ρ σ st H C Q rs so q => s ρ σ st H C _ rs so (q.bind.imp fun d st1 C1 H1 so1 e1 h1 v rv => ?_)⟩
  cases d with
  | bl k =>
    cases rv
    cases k with
    | true => exact ⟨true, rfl, iteT (h1.here so1 _ (.bl _))⟩
    | false => exact ⟨false, rfl, iteF (s2 ρ σ st1 H1 C1 _ (rs.mono e1) so1 h1)⟩
  | _ => exact h1.elim
theorem se_not (h : SE X W a fa) : SE X W (.UnaryOp .Not a pos) (fNotE fa) := by
  obtain ⟨t, p, s⟩ := h
  refine ⟨_, pe_not p, fun ρ σ st H C Q rs so q => s ρ σ st H C _ rs so (q.bind.imp fun d st1 C1 H1 so1 e1 h1 v rv => ?_)⟩
  cases d with
  | bl k => cases rv; exact ⟨k, rfl, h1.here so1 _ (.bl _)⟩
  | _ => exact h1.elim
theorem se_ifExp (h : ST X W c ft) (h1 : SE X W a fa) (h2 : SE X W b fb) : SE X W (.IfExp c a b pos) (fIfE ft fa fb) := by
  obtain ⟨t, p, s⟩ := h
  obtain ⟨t1, p1, s1⟩ := h1
  obtain ⟨t2, p2, s2⟩ := h2
  refine ⟨_, pe_ifExp p p1 p2, fun ρ σ st H C Q rs so q => s ρ σ st H C _ rs so (q.bind.imp fun k st1 C1 H1 so1 e1 h1 => ?_)⟩
  cases k with
  | true => exact iteT (s1 ρ σ st1 H1 C1 _ (rs.mono e1) so1 h1)
  | false => exact iteF (s2 ρ σ st1 H1 C1 _ (rs.mono e1) so1 h1)
end

/-! ### displays: a tree, or a cell -/
def fLst (f : FA) : FE := fun ρ st => (f ρ st).bind fun ds st1 => if ds.length ≤ lim then .ok (.lst ds) st1 else .no
def fLstC (f : FA) : FE := fun ρ st => (f ρ st).bind fun ds st1 => if ds.length ≤ lim then .ok (.cel st1.length) (st1 ++ [.lst ds]) else .no
def fTup (f : FA) : FE := fun ρ st => (f ρ st).bind fun ds st1 => if ds.length ≤ lim then .ok (.tup ds) st1 else .no
section
variable {X : Cx} {W : WX} {es : List Expr} {f : FA} {pos : Pos}
theorem se_lst (h : SA X W es f) : SE X W (.List es pos) (fLst f) := by
  obtain ⟨t, p, s⟩ := h
  refine ⟨_, pe_lst p, fun ρ σ st H C Q rs so q => s ρ σ st H C _ rs so (q.bind.imp fun ds st1 C1 H1 so1 e1 h1 vs rv => ?_)⟩
  split at h1
  · rename_i hl
    exact ⟨by rw [rv.length]; exact lim_line hl, new_lst h1 so1 rv⟩
  · exact h1.elim
theorem se_lstC (h : SA X W es f) : SE X W (.List es pos) (fLstC f) := by
  obtain ⟨t, p, s⟩ := h
  refine ⟨_, pe_lst p, fun ρ σ st H C Q rs so q => s ρ σ st H C _ rs so (q.bind.imp fun ds st1 C1 H1 so1 e1 h1 vs rv => ?_)⟩
  split at h1
  · rename_i hl
    exact ⟨by rw [rv.length]; exact lim_line hl, new_cel h1 so1 rv⟩
  · exact h1.elim
theorem se_tup {k} (h : SA X W es f) : SE X W (.Tuple es k pos) (fTup f) := by
  obtain ⟨t, p, s⟩ := h
  refine ⟨_, pe_tup p, fun ρ σ st H C Q rs so q => s ρ σ st H C _ rs so (q.bind.imp fun ds st1 C1 H1 so1 e1 h1 vs rv => ?_)⟩
  split at h1
  · rename_i hl
    exact ⟨by rw [rv.length]; exact lim_line hl, new_tup h1 so1 rv⟩
  · exact h1.elim
end

/-! ### built-ins by name -/
abbrev F1 := List D → Sto → R D
def SimCR (g : Gx) (r : List V → Hp → VK → Prop) (f : F1) : Prop := ∀ (ds : List D) (st : Sto) (H : Hp) (C : Ad) (vs : List V) (Q : VK), StoOk g.K H C st → Reps g.K H C vs ds →
  After g (fun _ _ _ => False) C H (f ds st) (fun d _ C' H' => ∀ v, Rep g.K H' C' v d → Q v H') → r vs H Q
def NoX1 (f : F1) : Prop := ∀ ds st c z st', f ds st ≠ .exc c z st'
def fCB (f : F1) (a : FA) : FE := fun ρ st => (a ρ st).bind fun ds st1 => f ds st1
section
variable {X : Cx} {W : WX} {e : Expr} {es : List Expr} {fa : FA} {pos p : Pos} {x : Str}
theorem sim_cb {r : List V → Hp → VK → Prop} {f : F1} {t : TA} (hr : SimCR (gx X) r f) (hn : NoX1 f) (ha : SimA (gx X) W t fa) : SimE (gx X) W (tCB r t) (fCB f fa) := fun ρ σ st H C Q rs so h => by
  refine ha ρ σ st H C _ rs so (h.bind.imp fun ds st1 C1 H1 so1 e1 h1 vs rv => ?_)
  exact hr ds st1 H1 C1 vs Q so1 rv (h1.nox (hn ds st1))
theorem se_callB {id : String} {f : F1} (hc : ∃ r, CallR X (.builtin id) r ∧ SimCR (gx X) r f ∧ NoX1 f) (hm : X.mg x = none) (ha : SA X W (e :: es) fa) (hg : Gl X x := by rfl) (hv : bootBuiltins x = some (.builtin id) := by decide +kernel) (hn : x ≠ "__name__" := by decide) (hdb : (x == ("__debug__" : Str)) = false := by decide)
    (he : starEach (e :: es) X.env = (false, eval e X.env) :: starEach es X.env := by rfl) (hpl : (backTo pos (starEach es X.env)).any (·.1) = false := by rfl) : SE X W (.Call (.Name x p) (e :: es) [] pos) (fCB f fa) := by
  obtain ⟨r, h1, h2, h3⟩ := hc
  obtain ⟨t, pa, sa⟩ := ha
  exact ⟨_, pe_callB h1 hg hm hv pa hn hdb he hpl, sim_cb h2 h3 sa⟩
theorem se_callTy {T : String} {f : F1} (hc : ∃ r, CallR X (.type T) r ∧ SimCR (gx X) r f ∧ NoX1 f) (hm : X.mg x = none) (ha : SA X W (e :: es) fa) (hg : Gl X x := by rfl) (hv : bootBuiltins x = some (.type T) := by decide +kernel) (hn : x ≠ "__name__" := by decide) (hdb : (x == ("__debug__" : Str)) = false := by decide)
    (he : starEach (e :: es) X.env = (false, eval e X.env) :: starEach es X.env := by rfl) (hpl : (backTo pos (starEach es X.env)).any (·.1) = false := by rfl) : SE X W (.Call (.Name x p) (e :: es) [] pos) (fCB f fa) := by
  obtain ⟨r, h1, h2, h3⟩ := hc
  obtain ⟨t, pa, sa⟩ := ha
  exact ⟨_, pe_callTy h1 hg hm hv pa hn hdb he hpl, sim_cb h2 h3 sa⟩
end

/-- len -/
def kLen : F1 := fun ds st => match ds with
  | [.str s] => if s.length ≤ lim then .ok (.int s.length) st else .no
  | [d] => match itemsS st d with
    | some xs => .ok (.int xs.length) st
    | none => match d with
      | .dct es => .ok (.int es.length) st
      | .cel n => match st[n]? with
        | some (.dct es) => .ok (.int es.length) st
        | _ => .no
      | _ => .no
  | _ => .no
theorem nox_len : NoX1 kLen := fun ds st c z st' h => by
  unfold kLen at h
  split at h
  · split at h <;> cases h
  · split at h
    · cases h
    · split at h
      · cases h
      · split at h <;> cases h
      · cases h
  · cases h
/-- int(n) of a number -/
def kInt : F1 := fun ds st => match ds with
  | [.int i] => .ok (.int i) st
  | _ => .no
theorem nox_kint : NoX1 kInt := fun ds st c z st' h => by
  unfold kInt at h
  split at h <;> cases h
def kAbs : F1 := fun ds st => match ds with
  | [.int i] => .ok (.int i.natAbs) st
  | _ => .no
theorem nox_abs : NoX1 kAbs := fun ds st c z st' h => by
  unfold kAbs at h
  split at h <;> cases h

section
variable {X : Cx}
theorem RepKs.length {K : PySem.W.Frag} {H : Hp} {C : Ad} : ∀ {es : List (D × D)} {kvs : List (Key × V)}, RepKs K H C kvs es → kvs.length = es.length
  | [], _, h => by cases h; rfl
  | (q, d) :: es, _, h => by
    cases h with
    | cons h0 h1 h2 => rw [List.length_cons, List.length_cons, RepKs.length h2]
theorem call_lenR : CallR X (.builtin "len") (fun xs H Q => ∃ a kvs, xs = [V.ref a] ∧ Rd H a (.dK kvs) ∧ Q (.int kvs.length) H) := by
  intro pins s σ H xs us Q I r h
  obtain ⟨a, kvs, rfl, ha, q⟩ := h
  obtain ⟨u, rfl, ru⟩ := vals1 r
  cases ru
  exact d_len I ha fun t s' I' => ⟨.int kvs.length, H, I', ⟨t, rfl⟩, q⟩
theorem c_len : ∃ r, CallR X (.builtin "len") r ∧ SimCR (gx X) r kLen ∧ NoX1 kLen := by
  refine ⟨_, call_len_str.or (call_len_seq.or call_lenR), fun ds st H C vs Q so rv h => ?_, nox_len⟩
  unfold kLen at h
  split at h
  · cases rv with
    | cons r1 r2 =>
      cases r1; cases r2
      split at h
      · rename_i hl
        exact .inl ⟨_, rfl, by rw [sv_len]; exact lim_line hl, by rw [sv_len]; exact h.here so _ (.int _)⟩
      · exact h.elim
  · rename_i d hd
    cases rv with
    | cons r1 r2 =>
      cases r2
      split at h
      · rename_i xs e
        obtain ⟨a, ys, rfl, h1, h2⟩ := itemsS_rep e so r1
        refine .inr (.inl ⟨a, ys, rfl, h1, ?_⟩)
        rw [h2.length]
        exact h.here so _ (.int _)
      · split at h
        · rename_i es _
          cases r1 with
          | @dct a o kvs _ h1 h2 h3 h4 =>
            refine .inr (.inr ⟨a, kvs, rfl, ?_, ?_⟩)
            · rcases h2 with rfl | ⟨ob, rfl⟩
              · exact .inl h1
              · exact .inr ⟨ob, h1⟩
            · rw [h4.length]
              exact h.here so _ (.int _)
        · split at h
          · rename_i n _ es hn
            cases r1 with
            | cel hc =>
              obtain ⟨kvs, h1, h2⟩ := so.ok _ _ _ hc hn
              refine .inr (.inr ⟨_, kvs, rfl, .inl h1, ?_⟩)
              rw [h2.length]
              exact h.here so _ (.int _)
          · exact h.elim
        · exact h.elim
  · exact h.elim
theorem c_int : ∃ r, CallR X (.type "int") r ∧ SimCR (gx X) r kInt ∧ NoX1 kInt := by
  refine ⟨_, call_int1, fun ds st H C vs Q so rv h => ?_, nox_kint⟩
  unfold kInt at h
  split at h
  · cases rv with
    | cons r1 r2 => cases r1; cases r2; exact .inl ⟨_, rfl, h.here so _ (.int _)⟩
  · exact h.elim
theorem c_abs : ∃ r, CallR X (.builtin "abs") r ∧ SimCR (gx X) r kAbs ∧ NoX1 kAbs := by
  refine ⟨_, call_abs, fun ds st H C vs Q so rv h => ?_, nox_abs⟩
  unfold kAbs at h
  split at h
  · cases rv with
    | cons r1 r2 =>
      cases r1; cases r2
      refine ⟨_, rfl, ?_⟩
      have e : ∀ i : Int, (if i < 0 then -i else i) = (i.natAbs : Int) := fun i => by omega
      rw [e]
      exact h.here so _ (.int _)
  · exact h.elim
end
end FL

/-! FLf: more built-ins -/
namespace FL
open PySem PySem.Spec PyProof.Rows L2

/-! ### isinstance -/
def tyOf (st : Sto) : D → Option Ty
  | .non => some .non
  | .bl _ => some .bool
  | .int _ => some .int
  | .str _ => some .str
  | .lst _ => some .list
  | .tup _ => some .tuple
  | .dct _ => some .dict
  | .cel n => match st[n]? with
    | some (.lst _) => some .list
    | some (.dct _) => some .dict
    | some (.lck _) => some .dict
    | none => none
  | _ => none
def isTy (a b : Ty) : Bool := decide (a = b) || (decide (a = .bool) && decide (b = .int))
theorem isTy_kit (a b : Ty) : kitB a.nm b.nm = some (isTy a b) := by
  cases a <;> cases b <;> decide +kernel
def kIsi : F1 := fun ds st => match ds with
  | [x, .ty b] => match tyOf st x with
    | some a => .ok (.bl (isTy a b)) st
    | none => .no
  | [x, .tup [.ty b, .ty c]] => match tyOf st x with
    | some a => .ok (.bl (isTy a b || isTy a c)) st
    | none => .no
  | _ => .no
theorem nox_isi : NoX1 kIsi := fun ds st c z st' h => by
  unfold kIsi at h
  split at h
  · split at h <;> cases h
  · split at h <;> cases h
  · cases h
theorem tyOf_rep {K : PySem.W.Frag} {H : Hp} {C : Ad} {st : Sto} {x : D} {v : V} {t : Ty} (h : tyOf st x = some t) (so : StoOk K H C st) (r : Rep K H C v x) : TyX K H v (.type t.nm) := by
  cases r with
  | non => cases h; exact .base .non
  | bl b => cases h; exact .base (.bl b)
  | int b => cases h; exact .base (.int b)
  | str b => cases h; exact .base (.str _)
  | lst h1 h2 h3 => cases h; exact .base (.lst h1)
  | tup h1 h2 h3 => cases h; exact .base (.tup h1)
  | dct h1 h2 h3 h4 =>
    cases h
    rcases h2 with rfl | ⟨ob, rfl⟩
    · exact .base (.dK h1)
    · exact .fDict h1
  | ro h1 h2 h3 h4 => cases h
  | roK h1 h2 => cases h
  | cel hc =>
    simp only [tyOf] at h
    split at h
    · rename_i e
      cases h
      obtain ⟨xs, h1, _⟩ := so.ok _ _ _ hc e
      exact .base (.lst h1)
    · rename_i e
      cases h
      obtain ⟨xs, h1, _⟩ := so.ok _ _ _ hc e
      exact .base (.dK h1)
    · rename_i e
      cases h
      obtain ⟨ob, xs, h1, _⟩ := so.ok _ _ _ hc e
      exact .fDict h1
    · cases h
  | val v => cases h
  | ty t => cases h
section
variable {X : Cx}
theorem c_isi : ∃ r, CallR X (.builtin "isinstance") r ∧ SimCR (gx X) r kIsi ∧ NoX1 kIsi := by
  refine ⟨_, call_isi.or call_isiT, fun ds st H C vs Q so rv h => ?_, nox_isi⟩
  unfold kIsi at h
  split at h
  · cases rv with
    | cons r1 r2 =>
      cases r2 with
      | cons r2 r3 =>
        cases r3; cases r2
        split at h
        · rename_i a e
          exact .inl ⟨_, _, _, _, _, rfl, .ty _, tyOf_rep e so r1, kit_ty (isTy_kit _ _), h.here so _ (.bl _)⟩
        · exact h.elim
  · cases rv with
    | cons r1 r2 =>
      cases r2 with
      | cons r2 r3 =>
        cases r3
        cases r2 with
        | tup h1 h2 h3 =>
          cases h3 with
          | cons q1 q2 =>
            cases q2 with
            | cons q2 q3 =>
              cases q3; cases q1; cases q2
              split at h
              · rename_i a e
                refine .inr ⟨_, _, _, _, _, _, rfl, h1, .cons (.ty _) (.cons (.ty _) .nil), tyOf_rep e so r1, ?_, h.here so _ (.bl _)⟩
                refine kitAny_cons (kit_ty (isTy_kit _ _)) (fun q => ?_) (fun q => by rw [q]; rfl)
                rw [q, Bool.false_or]
                exact kitAny_cons (kit_ty (isTy_kit _ _)) (fun q => by rw [q]; exact kitAny_nil) (fun q => q)
              · exact h.elim
  · exact h.elim
end

/-! ### max, min of two numbers; sum of numbers -/
def kMax : F1 := fun ds st => match ds with
  | [.int i, .int j] => .ok (.int (max i j)) st
  | _ => .no
def kMin : F1 := fun ds st => match ds with
  | [.int i, .int j] => .ok (.int (min i j)) st
  | _ => .no
theorem nox_max : NoX1 kMax := fun ds st c z st' h => by
  unfold kMax at h
  split at h <;> cases h
theorem nox_min : NoX1 kMin := fun ds st c z st' h => by
  unfold kMin at h
  split at h <;> cases h
/-- the ints, texts, truths of a list of data -/
def intsOf : List D → Option (List Int)
  | [] => some []
  | .int i :: r => (intsOf r).map (i :: ·)
  | _ :: _ => none
def strsOf : List D → Option (List (List Nat))
  | [] => some []
  | .str i :: r => (strsOf r).map (i :: ·)
  | _ :: _ => none
def blsOf : List D → Option (List Bool)
  | [] => some []
  | .bl i :: r => (blsOf r).map (i :: ·)
  | _ :: _ => none
theorem intsOf_eq : ∀ {ds : List D} {is : List Int}, intsOf ds = some is → ds = is.map D.int
  | [], _, h => by cases h; rfl
  | .int i :: r, is, h => by
    rw [intsOf] at h
    cases e : intsOf r with
    | none => rw [e] at h; cases h
    | some js => rw [e] at h; cases h; rw [intsOf_eq e]; rfl
  | .non :: _, _, h | .bl _ :: _, _, h | .str _ :: _, _, h | .lst _ :: _, _, h | .tup _ :: _, _, h | .dct _ :: _, _, h | .ro _ :: _, _, h | .cel _ :: _, _, h | .val _ :: _, _, h | .ty _ :: _, _, h => by cases h
theorem strsOf_eq : ∀ {ds : List D} {is : List (List Nat)}, strsOf ds = some is → ds = is.map D.str
  | [], _, h => by cases h; rfl
  | .str i :: r, is, h => by
    rw [strsOf] at h
    cases e : strsOf r with
    | none => rw [e] at h; cases h
    | some js => rw [e] at h; cases h; rw [strsOf_eq e]; rfl
  | .non :: _, _, h | .bl _ :: _, _, h | .int _ :: _, _, h | .lst _ :: _, _, h | .tup _ :: _, _, h | .dct _ :: _, _, h | .ro _ :: _, _, h | .cel _ :: _, _, h | .val _ :: _, _, h | .ty _ :: _, _, h => by cases h
theorem blsOf_eq : ∀ {ds : List D} {is : List Bool}, blsOf ds = some is → ds = is.map D.bl
  | [], _, h => by cases h; rfl
  | .bl i :: r, is, h => by
    rw [blsOf] at h
    cases e : blsOf r with
    | none => rw [e] at h; cases h
    | some js => rw [e] at h; cases h; rw [blsOf_eq e]; rfl
  | .non :: _, _, h | .str _ :: _, _, h | .int _ :: _, _, h | .lst _ :: _, _, h | .tup _ :: _, _, h | .dct _ :: _, _, h | .ro _ :: _, _, h | .cel _ :: _, _, h | .val _ :: _, _, h | .ty _ :: _, _, h => by cases h
theorem intsOf_map : ∀ is : List Int, intsOf (is.map D.int) = some is
  | [] => rfl
  | i :: r => by rw [List.map_cons, intsOf, intsOf_map r]; rfl
theorem strsOf_map : ∀ is : List (List Nat), strsOf (is.map D.str) = some is
  | [] => rfl
  | i :: r => by rw [List.map_cons, strsOf, strsOf_map r]; rfl
theorem blsOf_map : ∀ is : List Bool, blsOf (is.map D.bl) = some is
  | [] => rfl
  | i :: r => by rw [List.map_cons, blsOf, blsOf_map r]; rfl
def kSum : F1 := fun ds st => match ds with
  | [d] => match (itemsR st d).bind intsOf with
    | some is => .ok (.int is.sum) st
    | none => .no
  | _ => .no
theorem nox_sum : NoX1 kSum := fun ds st c z st' h => by
  unfold kSum at h
  split at h
  · split at h <;> cases h
  · cases h
def kAll : F1 := fun ds st => match ds with
  | [d] => match (itemsR st d).bind blsOf with
    | some bs => .ok (.bl (bs.all id)) st
    | none => .no
  | _ => .no
def kAny : F1 := fun ds st => match ds with
  | [d] => match (itemsR st d).bind blsOf with
    | some bs => .ok (.bl (bs.any id)) st
    | none => .no
  | _ => .no
theorem nox_all : NoX1 kAll := fun ds st c z st' h => by
  unfold kAll at h
  split at h
  · split at h <;> cases h
  · cases h
theorem nox_any : NoX1 kAny := fun ds st c z st' h => by
  unfold kAny at h
  split at h
  · split at h <;> cases h
  · cases h
section
variable {X : Cx}
theorem c_max (hc : X.calm = true) : ∃ r, CallR X (.builtin "max") r ∧ SimCR (gx X) r kMax ∧ NoX1 kMax := by
  refine ⟨_, call_max2 hc, fun ds st H C vs Q so rv h => ?_, nox_max⟩
  unfold kMax at h
  split at h
  · cases rv with
    | cons r1 r2 =>
      cases r2 with
      | cons r2 r3 =>
        cases r1; cases r2; cases r3
        refine ⟨_, _, rfl, ?_⟩
        have e : ∀ i j : Int, (if j > i then j else i) = max i j := fun i j => by omega
        rw [e]
        exact h.here so _ (.int _)
  · exact h.elim
theorem c_min (hc : X.calm = true) : ∃ r, CallR X (.builtin "min") r ∧ SimCR (gx X) r kMin ∧ NoX1 kMin := by
  refine ⟨_, call_min2 hc, fun ds st H C vs Q so rv h => ?_, nox_min⟩
  unfold kMin at h
  split at h
  · cases rv with
    | cons r1 r2 =>
      cases r2 with
      | cons r2 r3 =>
        cases r1; cases r2; cases r3
        refine ⟨_, _, rfl, ?_⟩
        have e : ∀ i j : Int, (if j < i then j else i) = min i j := fun i j => by omega
        rw [e]
        exact h.here so _ (.int _)
  · exact h.elim
theorem c_sum (hc : X.calm = true) : ∃ r, CallR X (.builtin "sum") r ∧ SimCR (gx X) r kSum ∧ NoX1 kSum := by
  refine ⟨_, cr_sum hc, fun ds st H C vs Q so rv h => ?_, nox_sum⟩
  unfold kSum at h
  split at h
  · split at h
    · rename_i is e
      cases rv with
      | cons r1 r2 =>
        cases r2
        obtain ⟨xs, e1, e2⟩ := Option.bind_eq_some_iff.mp e
        obtain ⟨a, ys, rfl, h1, h2, _⟩ := itemsR_rep e1 so r1
        rw [intsOf_eq e2] at h2
        rw [Reps.ints h2] at h1
        exact ⟨a, is, rfl, h1, h.here so _ (.int _)⟩
    · exact h.elim
  · exact h.elim
theorem c_all (hc : X.calm = true) : ∃ r, CallR X (.builtin "all") r ∧ SimCR (gx X) r kAll ∧ NoX1 kAll := by
  refine ⟨_, cr_all hc, fun ds st H C vs Q so rv h => ?_, nox_all⟩
  unfold kAll at h
  split at h
  · split at h
    · rename_i is e
      cases rv with
      | cons r1 r2 =>
        cases r2
        obtain ⟨xs, e1, e2⟩ := Option.bind_eq_some_iff.mp e
        obtain ⟨a, ys, rfl, h1, h2, _⟩ := itemsR_rep e1 so r1
        rw [blsOf_eq e2] at h2
        rw [Reps.bls h2] at h1
        exact ⟨a, is, rfl, h1, h.here so _ (.bl _)⟩
    · exact h.elim
  · exact h.elim
theorem c_any (hc : X.calm = true) : ∃ r, CallR X (.builtin "any") r ∧ SimCR (gx X) r kAny ∧ NoX1 kAny := by
  refine ⟨_, cr_any hc, fun ds st H C vs Q so rv h => ?_, nox_any⟩
  unfold kAny at h
  split at h
  · split at h
    · rename_i is e
      cases rv with
      | cons r1 r2 =>
        cases r2
        obtain ⟨xs, e1, e2⟩ := Option.bind_eq_some_iff.mp e
        obtain ⟨a, ys, rfl, h1, h2, _⟩ := itemsR_rep e1 so r1
        rw [blsOf_eq e2] at h2
        rw [Reps.bls h2] at h1
        exact ⟨a, is, rfl, h1, h.here so _ (.bl _)⟩
    · exact h.elim
  · exact h.elim
end

/-! ### sorted: one sort for all orders -/
def ins {α : Type} (le : α → α → Bool) (x : α) : List α → List α
  | [] => [x]
  | y :: r => if le x y = true then x :: y :: r else y :: ins le x r
def srt {α : Type} (le : α → α → Bool) : List α → List α
  | [] => []
  | x :: r => ins le x (srt le r)
theorem ins_perm {α : Type} {le : α → α → Bool} (x : α) : ∀ l, (ins le x l).Perm (x :: l)
  | [] => .refl _
  | y :: r => by
    unfold ins
    split
    · exact .refl _
    · exact ((ins_perm x r).cons y).trans (.swap x y r)
theorem srt_perm {α : Type} {le : α → α → Bool} : ∀ l, (srt le l).Perm l
  | [] => .refl _
  | x :: r => (ins_perm x _).trans ((srt_perm r).cons x)
structure Ord' {α : Type} (le : α → α → Bool) : Prop where
  tot : ∀ x y, le x y = true ∨ le y x = true
  tr : ∀ x y z, le x y = true → le y z = true → le x z = true
  anti : ∀ x y, le x y = true → le y x = true → x = y
theorem ins_sorted {α : Type} {le : α → α → Bool} (O : Ord' le) (x : α) : ∀ l, l.Pairwise (fun a b => le a b = true) → (ins le x l).Pairwise (fun a b => le a b = true)
  | [], _ => by simp [ins]
  | y :: r, h => by
    unfold ins
    have h1 := List.pairwise_cons.mp h
    split
    · rename_i q
      refine List.pairwise_cons.mpr ⟨fun z hz => ?_, h⟩
      rcases List.mem_cons.mp hz with rfl | hz
      · exact q
      · exact O.tr _ _ _ q (h1.1 z hz)
    · rename_i q
      refine List.pairwise_cons.mpr ⟨fun z hz => ?_, ins_sorted O x r h1.2⟩
      rcases List.mem_cons.mp ((ins_perm x r).mem_iff.mp hz) with rfl | hz
      · exact (O.tot y z).resolve_right q
      · exact h1.1 z hz
theorem srt_sorted {α : Type} {le : α → α → Bool} (O : Ord' le) : ∀ l, (srt le l).Pairwise (fun a b => le a b = true)
  | [] => .nil
  | x :: r => ins_sorted O x _ (srt_sorted O r)
theorem sorted_one {α : Type} {le : α → α → Bool} (O : Ord' le) : ∀ {l m : List α}, l.Perm m → l.Pairwise (fun a b => le a b = true) → m.Pairwise (fun a b => le a b = true) → l = m
  | [], m, p, _, _ => by rw [List.Perm.eq_nil p.symm]
  | x :: l, [], p, _, _ => by cases List.Perm.eq_nil p
  | x :: l, y :: m, p, h1, h2 => by
    have a1 := List.pairwise_cons.mp h1
    have a2 := List.pairwise_cons.mp h2
    have hx : x ∈ y :: m := p.mem_iff.mp List.mem_cons_self
    have hy : y ∈ x :: l := p.mem_iff.mpr List.mem_cons_self
    have le1 : le x y = true := by
      rcases List.mem_cons.mp hy with rfl | hy
      · exact (O.tot _ _).elim id id
      · exact a1.1 y hy
    have le2 : le y x = true := by
      rcases List.mem_cons.mp hx with rfl | hx
      · exact (O.tot _ _).elim id id
      · exact a2.1 x hx
    cases O.anti _ _ le1 le2
    rw [sorted_one O (List.Perm.cons_inv p) a1.2 a2.2]
theorem srt_of {α : Type} {le : α → α → Bool} (O : Ord' le) {l m : List α} (p : m.Perm l) (h : m.Pairwise (fun a b => le a b = true)) : m = srt le l := sorted_one O (p.trans (srt_perm l).symm) h (srt_sorted O l)

def leI (i j : Int) : Bool := decide (i ≤ j)
theorem ordI : Ord' leI where
  tot := fun x y => by unfold leI; simp; omega
  tr := fun x y z => by unfold leI; simp; omega
  anti := fun x y => by unfold leI; simp; omega
/-- texts in order -/
def leS (a b : List Nat) : Bool := !decide (b < a)
theorem nat_lt_irrefl (a : List Nat) : ¬ a < a := List.lt_irrefl a
theorem ordS : Ord' leS where
  tot := fun x y => by
    unfold leS
    by_cases h : y < x
    · right
      simp [List.lt_asymm h]
    · left
      simp [h]
  tr := fun x y z h1 h2 => by
    unfold leS at *
    simp only [Bool.not_eq_true', decide_eq_false_iff_not] at *
    exact fun h => (List.not_lt.mp h1 |> fun a => List.not_lt.mp h2 |> fun b => absurd h (List.not_lt.mpr (List.le_trans a b)))
  anti := fun x y h1 h2 => by
    unfold leS at *
    simp only [Bool.not_eq_true', decide_eq_false_iff_not] at *
    exact List.le_antisymm (List.not_lt.mp h1) (List.not_lt.mp h2)
theorem ltCps_eq : ∀ a b : List Nat, ltCps a b = decide (a < b)
  | [], [] => by simp [ltCps]
  | [], b :: r => by simp [ltCps]
  | a :: r, [] => by simp [ltCps]
  | a :: r, b :: t => by
    rw [ltCps, ltCps_eq r t]
    have e : (a :: r < b :: t) ↔ (a < b ∨ (a = b ∧ r < t)) := List.cons_lt_cons_iff
    by_cases h : a < b
    · simp [h, e]
    · by_cases q : a = b
      · subst q
        simp [e]
      · simp [h, q, e]
end FL

/-! FLg: sorted, list(..), subscripts, slices, methods -/
namespace FL
open PySem PySem.Spec PyProof.Rows L2

theorem rising_pw : ∀ (l : List Str) (p : Str), risingS p l = true → (∀ x ∈ l, leS p.cps.toList x.cps.toList = true) ∧ l.Pairwise (fun a b => leS a.cps.toList b.cps.toList = true)
  | [], _, _ => ⟨fun x h => (by cases h), List.Pairwise.nil⟩
  | x :: r, p, h => by
    unfold risingS at h
    simp only [Bool.and_eq_true, ltCps_eq] at h
    obtain ⟨h1, h2⟩ := h
    obtain ⟨a, b⟩ := rising_pw r x h2
    refine ⟨fun z hz => ?_, List.pairwise_cons.mpr ⟨a, b⟩⟩
    rcases List.mem_cons.mp hz with rfl | hz
    · exact h1
    · exact ordS.tr _ _ _ h1 (a z hz)
theorem sortedS_pw {l : List Str} (h : sortedS l = true) : l.Pairwise (fun a b => leS a.cps.toList b.cps.toList = true) := by
  cases l with
  | nil => exact .nil
  | cons x r =>
    obtain ⟨a, b⟩ := rising_pw r x h
    exact List.pairwise_cons.mpr ⟨a, b⟩
/-- sorted(xs) of ints, of texts -/
def kSorted : F1 := fun ds st => match ds with
  | [d] => match itemsR st d with
    | some xs => match strsOf xs with
      | some ss => .ok (.lst ((srt leS ss).map D.str)) st
      | none => match intsOf xs with
        | some is => .ok (.lst ((srt leI is).map D.int)) st
        | none => .no
    | none => .no
  | _ => .no
theorem nox_sorted : NoX1 kSorted := fun ds st c z st' h => by
  unfold kSorted at h
  split at h
  · split at h
    · split at h
      · cases h
      · split at h <;> cases h
    · cases h
  · cases h
/-- .. as a cell -/
def kCell (f : F1) : F1 := fun ds st => match f ds st with
  | .ok (.lst xs) st' => .ok (.cel st'.length) (st' ++ [.lst xs])
  | _ => .no
section
variable {X : Cx}
def rSortedA (K : PySem.W.Frag) : List V → Hp → VK → Prop := fun vs H Q => ∃ (a : Addr) (xs : List Str), vs = [V.ref a] ∧ SqL K H a (xs.map V.str) ∧
  ∀ (ys : List Str) (p : Addr), ys.Perm xs → sortedS ys = true → H p = none → Q (.ref p) (upd H p (.lst (ys.map V.str)))
theorem cr_sortedA : CallR X (.builtin "sorted") (rSortedA X.K) := by
  intro pins s σ H vs us Q I r h
  obtain ⟨a, xs, rfl, hs, q⟩ := h
  obtain ⟨its, rv, hl, hsz⟩ := I.list hs
  rw [Vals.ref1 r]
  have hlen0 := rv.length
  rw [List.length_map] at hlen0
  rw [List.length_map] at hsz
  refine PyProof.Rows.sorted_strsAny hl.isList rv.strs (by rw [← hlen0]; exact hsz) fun out ys h1 h2 h3 => ?_
  obtain ⟨ep, he'⟩ := PyProof.Rows.sortedAll_at s.heap its out
  have hlen : (ys.map V.str).length ≤ sizeLine := by rw [List.length_map, h2.length_eq]; exact hsz
  exact ⟨.ref _, upd H (s.heap.objs.size + 1) (.lst (ys.map V.str)), I.laid (t' := s.toks) (fun _ _ => PyProof.Rows.sortedAll_old) (Nat.le_succ _) ⟨hlen, out.toList, ep, vals_of_strs h1, he'⟩, rfl, q ys _ h2 h3 (I.hok.fresh (Nat.le_succ _))⟩
theorem c_sorted : ∃ r, CallR X (.builtin "sorted") r ∧ SimCR (gx X) r kSorted ∧ NoX1 kSorted := by
  refine ⟨_, cr_sortedA.or cr_sortedI, fun ds st H C vs Q so rv h => ?_, nox_sorted⟩
  unfold kSorted at h
  split at h
  · cases rv with
    | cons r1 r2 =>
      cases r2
      split at h
      · rename_i xs e
        obtain ⟨a, ys, rfl, h1, h2, _⟩ := itemsR_rep e so r1
        split at h
        · rename_i ss e2
          rw [strsOf_eq e2] at h2
          rw [Reps.strs h2] at h1
          refine .inl ⟨a, ss.map sv, rfl, h1, fun zs p hp hs hn => ?_⟩
          have e3 : zs = (srt leS ss).map sv := by
            have q1 : zs.map (fun z => z.cps.toList) = srt leS ss := srt_of ordS (by
              have := hp.map (fun z : Str => z.cps.toList)
              rw [List.map_map] at this
              have e4 : (fun z : Str => z.cps.toList) ∘ sv = id := by funext z; simp
              rw [e4, List.map_id] at this
              exact this) (List.pairwise_map.mpr (sortedS_pw hs))
            rw [← q1, List.map_map]
            have e5 : sv ∘ (fun z : Str => z.cps.toList) = id := by funext z; simp [sv]
            rw [e5, List.map_id]
          rw [e3]
          exact new_lst h so (Reps.of_strs _) p hn
        · split at h
          · rename_i is e2
            rw [intsOf_eq e2] at h2
            rw [Reps.ints h2] at h1
            refine .inr ⟨a, is, rfl, h1, fun ns p hp hs hn => ?_⟩
            have e3 : ns = srt leI is := srt_of ordI hp (hs.imp fun h => by unfold leI; simpa using h)
            rw [e3]
            exact new_lst h so (Reps.of_ints _) p hn
          · exact h.elim
      · exact h.elim
  · exact h.elim
end
/-- a call whose list may be held in a cell -/
theorem simcr_cell {g : Gx} {r : List V → Hp → VK → Prop} {f : F1} (h : ∀ (ds : List D) (st : Sto) (H : Hp) (C : Ad) (vs : List V) (Q : VK), StoOk g.K H C st → Reps g.K H C vs ds → ∀ xs st', f ds st = .ok (.lst xs) st' →
    (st' = st ∧ ((∀ ys p, Reps g.K H C ys xs → H p = none → Q (.ref p) (upd H p (.lst ys))) → r vs H Q))) : SimCR g r (kCell f) := fun ds st H C vs Q so rv q => by
  unfold kCell at q
  split at q
  · rename_i xs st' e
    obtain ⟨rfl, k⟩ := h ds st H C vs Q so rv xs _ e
    exact k fun ys p ry hp => new_cel q so ry p hp
  · exact q.elim

/-! ### list(..) -/
def kList : F1 := fun ds st => match ds with
  | [.str s] => if s.length ≤ lim then .ok (.lst (s.map fun c => .str [c])) st else .no
  | [d] => match itemsS st d with
    | some xs => .ok (.lst xs) st
    | none => .no
  | _ => .no
theorem nox_list : NoX1 kList := fun ds st c z st' h => by
  unfold kList at h
  split at h
  · split at h <;> cases h
  · split at h <;> cases h
  · cases h
section
variable {X : Cx}
theorem call_listS (hc : X.calm = true) : CallR X (.type "list") (fun xs H Q => ∃ z, xs = [.str z] ∧ z.length ≤ sizeLine ∧ ∀ l, H l = none → Q (.ref l) (upd H l (.lst (z.cps.toList.map fun c => .str (sv [c]))))) := by
  intro pins s σ H xs us Q I r h
  obtain ⟨z, rfl, hz, q⟩ := h
  obtain ⟨u, rfl, ru⟩ := vals1 r
  obtain ⟨t, rfl⟩ := ru
  refine call_list_str (I.ok.hd hc) z t (fun h' tk acc c' hk hD ha => ?_) hz
  have hsz := ha.1
  have hv : Vals (z.cps.toList.map fun c => V.str (sv [c])) acc.toList := by
    refine vals_of_at (by simp [hsz]) fun j x u e1 e2 => ?_
    rw [List.getElem?_map] at e1
    obtain ⟨c, t, h1, rfl⟩ := ha.2 j u (by rw [← Array.getElem?_toList]; exact e2)
    rw [← Array.getElem?_toList] at h1
    rw [h1] at e1
    cases e1
    exact ⟨t, rfl⟩
  refine ⟨.ref _, _, I.laid (t' := tk) (o := .lst (z.cps.toList.map fun c => V.str (sv [c]))) hk (Nat.le_refl _) ⟨?_, acc.toList, c', hv, ?_⟩, rfl, q _ I.fresh⟩
  · rw [List.length_map, Array.length_toList]; exact hz
  · simpa using hD
theorem c_list (hc : X.calm = true) : ∃ r, CallR X (.type "list") r ∧ SimCR (gx X) r kList ∧ NoX1 kList := by
  refine ⟨_, (call_listS hc).or call_list_of, fun ds st H C vs Q so rv h => ?_, nox_list⟩
  unfold kList at h
  split at h
  · cases rv with
    | cons r1 r2 =>
      cases r1; cases r2
      split at h
      · rename_i s hl
        refine .inl ⟨_, rfl, by rw [sv_len]; exact lim_line hl, ?_⟩
        rw [sv_tl]
        have e : (s.map fun c => V.str (sv [c])) = ((s.map fun c => [c]).map sv).map V.str := by simp
        have e2 : (s.map fun c => D.str [c]) = (s.map fun c => [c]).map D.str := by simp
        rw [e]
        rw [e2] at h
        exact new_lst h so (Reps.of_strs _)
      · exact h.elim
  · cases rv with
    | cons r1 r2 =>
      cases r2
      split at h
      · rename_i xs e
        obtain ⟨a, ys, rfl, h1, h2⟩ := itemsS_rep e so r1
        exact .inr ⟨a, ys, rfl, h1, new_lst h so h2⟩
      · exact h.elim
  · exact h.elim
/-- .. into a cell -/
theorem c_listC (hc : X.calm = true) : ∃ r, CallR X (.type "list") r ∧ SimCR (gx X) r (kCell kList) ∧ NoX1 (kCell kList) := by
  refine ⟨_, (call_listS hc).or call_list_of, simcr_cell fun ds st H C vs Q so rv xs st' h => ?_, fun ds st c z st' h => by unfold kCell at h; split at h <;> cases h⟩
  unfold kList at h
  split at h
  · cases rv with
    | cons r1 r2 =>
      cases r1; cases r2
      split at h
      · rename_i s hl
        cases h
        refine ⟨rfl, fun k => .inl ⟨_, rfl, by rw [sv_len]; exact lim_line hl, ?_⟩⟩
        rw [sv_tl]
        have e : (s.map fun c => V.str (sv [c])) = ((s.map fun c => [c]).map sv).map V.str := by simp
        have e2 : (s.map fun c => D.str [c]) = (s.map fun c => [c]).map D.str := by simp
        rw [e]
        rw [e2] at k
        exact fun p hp => k _ p (Reps.of_strs _) hp
      · cases h
  · cases rv with
    | cons r1 r2 =>
      cases r2
      split at h
      · rename_i xs e
        cases h
        obtain ⟨a, ys, rfl, h1, h2⟩ := itemsS_rep e so r1
        exact ⟨rfl, fun k => .inr ⟨a, ys, rfl, h1, fun p hp => k _ p h2 hp⟩⟩
      · cases h
  · cases h
end

/-! ### a[b] -/
def keyD : Key → D
  | .inl i => .int i
  | .inr x => .str x.cps.toList
/-- equal keys -/
def sameK : D → D → Bool
  | .int i, .int j => decide (i = j)
  | .str a, .str b => decide (a = b)
  | _, _ => false
def lookK (es : List (D × D)) (k : D) : Option D := (es.find? fun e => sameK e.1 k).map (·.2)
def gIx : F2 := fun x y st => match x, y with
  | .str s, .int i => if s.length ≤ lim then match atI s i with
    | some c => .ok (.str [c]) st
    | none => .no
    else .no
  | x, y => match itemsS st x with
    | some xs => match y with
      | .int i => match atI xs i with
        | some d => .ok d st
        | none => .no
      | _ => .no
    | none => match ents st x with
      | some es => match y with
        | .int i => R.opt (lookK es (.int i)) st
        | .str s => R.opt (lookK es (.str s)) st
        | _ => .no
      | none => .no
theorem nox_ix : NoX2 gIx := fun x y st c z st' h => by
  unfold gIx at h
  split at h
  · split at h
    · split at h <;> cases h
    · cases h
  · split at h
    · split at h
      · split at h <;> cases h
      · cases h
    · split at h
      · split at h
        · unfold R.opt at h; split at h <;> cases h
        · unfold R.opt at h; split at h <;> cases h
        · cases h
      · cases h
theorem atI_rep {K : PySem.W.Frag} {H : Hp} {C : Ad} {xs : List V} {ds : List D} {i : Int} {d : D} (h : atI ds i = some d) (r : Reps K H C xs ds) : ∃ v, atI xs i = some v ∧ Rep K H C v d := by
  unfold atI at *
  rw [r.length]
  cases e : ixN ds.length i with
  | none => rw [e] at h; cases h
  | some j =>
    rw [e] at h
    obtain ⟨v, h1, h2⟩ := r.get (i := j) (d := d) h
    exact ⟨v, h1, h2⟩
theorem ents_rep {K : PySem.W.Frag} {H : Hp} {C : Ad} {st : Sto} {x : D} {v : V} {es : List (D × D)} (h : ents st x = some es) (so : StoOk K H C st) (r : Rep K H C v x) : ∃ a kvs, v = .ref a ∧ Rd H a (.dK kvs) ∧ RepKs K H C kvs es := by
  cases r with
  | dct h1 h2 h3 h4 =>
    cases h
    rcases h2 with rfl | ⟨ob, rfl⟩
    · exact ⟨_, _, rfl, .inl h1, h4⟩
    · exact ⟨_, _, rfl, .inr ⟨ob, h1⟩, h4⟩
  | cel hc =>
    simp only [ents] at h
    split at h
    · rename_i e
      cases h
      obtain ⟨kvs, h1, h2⟩ := so.ok _ _ _ hc e
      exact ⟨_, kvs, rfl, .inl h1, h2⟩
    · rename_i e
      cases h
      obtain ⟨ob, kvs, h1, h2⟩ := so.ok _ _ _ hc e
      exact ⟨_, kvs, rfl, .inr ⟨ob, h1⟩, h2⟩
    · cases h
  | _ => cases h
theorem sameK_key {a b : Key} {x y : D} (h1 : RepKey a x) (h2 : RepKey b y) : sameK x y = decide (a = b) := by
  cases h1 <;> cases h2 <;> simp [sameK]
theorem lookK_rep {K : PySem.W.Frag} {H : Hp} {C : Ad} {k : Key} {q : D} (hk : RepKey k q) : ∀ {es : List (D × D)} {kvs : List (Key × V)}, RepKs K H C kvs es →
    (match lookK es q with | some d => ∃ v, valV kvs k = some v ∧ Rep K H C v d | none => valV kvs k = none)
  | [], _, h => by cases h; rfl
  | (p, d) :: es, _, h => by
    cases h with
    | cons h0 h1 h2 =>
      rename_i k' v r
      have e := sameK_key h0 hk
      have ih := lookK_rep hk h2
      unfold lookK at *
      by_cases q' : k' = k
      · rw [List.find?_cons_of_pos (by rw [e]; exact decide_eq_true q')]
        exact ⟨v, valV_pos q', h1⟩
      · rw [List.find?_cons_of_neg (by rw [e]; simpa using q'), valV_neg q']
        exact ih
section
variable {X : Cx}
def rIxDct : R2 := fun x y H Q => ∃ a v, x = .ref a ∧ DGet H a y (some v) ∧ Q v H
theorem ix_dict (hu : X.A.units + 1 < cLine) : IxR X rIxDct := by
  intro value slice pins s σ H x y v u Q I rx ry h hs
  obtain ⟨a, w, rfl, g, q⟩ := h
  cases rx
  exact tail_any (dict_typeIs I g) PySem.F.slot_dict_getitem.lookup (d_getItem hu I g ry fun w' s3 I3 rw' => ⟨w, H, I3, rw', q⟩) hs
theorem o_ix (hu : X.A.units + 1 < cLine) : ∃ r, IxR X r ∧ SimR2 (gx X) r gIx ∧ NoX2 gIx := by
  refine ⟨_, ix_str.or (ix_list.or (ix_tup.or (ix_dict hu))), fun x y st H C v u Q so rx ry h => ?_, nox_ix⟩
  unfold gIx at h
  split at h
  · cases rx; cases ry
    split at h
    · rename_i hl
      split at h
      · rename_i c e
        refine .inl ⟨_, _, c, rfl, rfl, by rw [sv_len]; exact lim_line hl, by rw [sv_tl]; exact e, ?_⟩
        exact h.here so _ (.str [c])
      · exact h.elim
    · exact h.elim
  · split at h
    · rename_i xs e
      obtain ⟨a, ys, rfl, h1, h2⟩ := itemsS_rep e so rx
      split at h
      · cases ry
        split at h
        · rename_i d e3
          obtain ⟨w, e4, r4⟩ := atI_rep e3 h2
          rcases h1 with h1 | h1
          · exact .inr (.inl ⟨a, ys, _, w, rfl, rfl, h1, e4, h.here so _ r4⟩)
          · exact .inr (.inr (.inl ⟨a, ys, _, w, rfl, rfl, h1, e4, h.here so _ r4⟩))
        · exact h.elim
      · exact h.elim
    · split at h
      · rename_i es e
        obtain ⟨a, kvs, rfl, h1, h2⟩ := ents_rep e so rx
        have fin : ∀ (k : Key) (q : D), RepKey k q → u = kV k → After (gx X) (fun _ _ _ => False) C H (R.opt (lookK es q) st) (fun d x C' H' => ∀ (v : V), Rep (gx X).K H' C' v d → Q v H') → rIxDct (V.ref a) u H Q := fun k q hk eu h => by
          obtain ⟨d, e5, h⟩ := h.opt
          have l := lookK_rep hk h2
          rw [e5] at l
          obtain ⟨w, h3, h4⟩ := l
          exact ⟨a, w, rfl, .inl ⟨kvs, k, h1, eu, h3.symm⟩, h.here so _ h4⟩
        split at h
        · cases ry; exact .inr (.inr (.inr (fin _ _ (.int _) rfl h)))
        · cases ry; exact .inr (.inr (.inr (fin _ _ (.str _) rfl h)))
        · exact h.elim
      · exact h.elim
theorem se_ix {W : WX} {a b : Expr} {fa fb : FE} {pos : Pos} (hu : X.A.units + 1 < cLine) (ha : SE X W a fa) (hb : SE X W b fb) (hs : PlainIx b := by exact fun _ _ => rfl) : SE X W (.Subscript a b pos) (fBin gIx fa fb) := by
  obtain ⟨r, h1, h2, h3⟩ := o_ix hu
  obtain ⟨ta, pa, sa⟩ := ha
  obtain ⟨tb, pb, sb⟩ := hb
  exact ⟨_, pe_ix h1 pa pb hs, sim_op h2 h3 sa sb⟩
end

/-! ### a[lo:hi] -/
abbrev FO := En → Sto → R (Option Int)
def SimO (g : Gx) (W : WX) (t : TO) (f : FO) : Prop := ∀ (ρ : En) (σ : L2.St) (st : Sto) (H : Hp) (C : Ad) (Q : Option Int → Hp → Prop), Rs g.K H C σ ρ → StoOk g.K H C st →
  After g (fun c d H' => W c d σ H') C H (f ρ st) (fun o _ _ H' => Q o H') → t σ H Q
structure SO (X : Cx) (W : WX) (e : Option Expr) (f : FO) : Prop where
  ex : ∃ t, PO X e t ∧ SimO (gx X) W t f
def foNone : FO := fun _ st => .ok none st
def foSome (f : FE) : FO := fun ρ st => (f ρ st).bind fun d st1 => match d with
  | .int i => .ok (some i) st1
  | _ => .no
def cut {α : Type} (xs : List α) (lo hi : Option Int) : List α := (xs.drop (HT.sIx xs.length 0 lo)).take (HT.sIx xs.length xs.length hi - HT.sIx xs.length 0 lo)
def gCut (x : D) (lo hi : Option Int) (st : Sto) : R D := match x with
  | .str s => if s.length ≤ lim then .ok (.str (cut s lo hi)) st else .no
  | x => match itemsR st x with
    | some xs => .ok (.lst (cut xs lo hi)) st
    | none => .no
def fCut (f : FE) (l h : FO) : FE := fun ρ st => (f ρ st).bind fun x st1 => (l ρ st1).bind fun lo st2 => (h ρ st2).bind fun hi st3 => gCut x lo hi st3
section
variable {X : Cx} {W : WX}
theorem so_none : SO X W none foNone := ⟨_, po_none, fun ρ σ st H C Q rs so h => h.here so⟩
theorem so_some {e : Expr} {f : FE} (h : SE X W e f) : SO X W (some e) (foSome f) := by
  obtain ⟨t, p, s⟩ := h
  refine ⟨_, po_some p, fun ρ σ st H C Q rs so q => s ρ σ st H C _ rs so (q.bind.imp fun d st1 C1 H1 so1 e1 h1 v rv => ?_)⟩
  cases d with
  | int i => cases rv; exact ⟨i, rfl, h1.here so1⟩
  | _ => exact h1.elim
theorem cutS_sv (s : List Nat) (lo hi : Option Int) : cutS (sv s) lo hi = sv (cut s lo hi) := by
  unfold cutS cut
  simp [sv, Str.length]
theorem Reps.cut {K : PySem.W.Frag} {H : Hp} {C : Ad} {xs : List V} {ds : List D} (r : Reps K H C xs ds) (lo hi : Option Int) : Reps K H C (cutV xs lo hi) (FL.cut ds lo hi) := by
  unfold cutV FL.cut
  rw [r.length]
  exact (r.drop _).take _
theorem se_cut {a : Expr} {lo hi : Option Expr} {f : FE} {l h : FO} {pos p2 : Pos} (ha : SE X W a f) (hl : SO X W lo l) (hh : SO X W hi h) : SE X W (.Subscript a (.Slice lo hi none p2) pos) (fCut f l h) := by
  obtain ⟨ta, pa, sa⟩ := ha
  obtain ⟨tl, pl, sl⟩ := hl
  obtain ⟨th, ph, sh⟩ := hh
  refine ⟨_, pe_slice (sl_str.or sl_list) pa pl ph, fun ρ σ st H C Q rs so q => ?_⟩
  refine sa ρ σ st H C _ rs so (q.bind.imp fun d st1 C1 H1 so1 e1 h1 v rv => ?_)
  refine sl ρ σ st1 H1 C1 _ (rs.mono e1) so1 (h1.bind.imp fun o st2 C2 H2 so2 e2 h2 => ?_)
  refine sh ρ σ st2 H2 C2 _ ((rs.mono e1).mono e2) so2 (h2.bind.imp fun o2 st3 C3 H3 so3 e3 h3 => ?_)
  have rv3 := (rv.mono e2).mono e3
  unfold gCut at h3
  split at h3
  · cases rv3
    split at h3
    · rename_i hl
      refine .inl ⟨_, rfl, by rw [sv_len]; exact lim_line hl, ?_⟩
      rw [cutS_sv]
      exact h3.here so3 _ (.str _)
    · exact h3.elim
  · split at h3
    · rename_i xs e
      obtain ⟨b, ys, rfl, k1, k2, _⟩ := itemsR_rep e so3 rv3
      exact .inr ⟨b, ys, rfl, k1, new_lst h3 so3 (k2.cut _ _)⟩
    · exact h3.elim
end

/-! ### in -/
/-- the answer of `x in y` (list, tuple, text) -/
def inD (st : Sto) (x y : D) : Option Bool := match x, y with
  | .str [c], .str z => some (decide (c ∈ z))
  | .str a, .str z => some (!(Builtin.Str.occurrences (sv z) (sv a) 0 (sv z).length 1).isEmpty)
  | x, y => match toPy st 40 x, toPy st 40 y with
    | some p, some (.list ds) => some (ds.any fun z => PyData.eqv z p)
    | _, _ => none
def keyOf : D → Option Key
  | .int i => some (.inl i)
  | .str s => some (.inr (sv s))
  | _ => none
/-- .. of a dict -/
def inK (st : Sto) (x y : D) : Option Bool := match keyOf x, ents st y with
  | some _, some es => some (lookK es x).isSome
  | _, _ => none
def gIn : F2 := fun x y st => match inD st x y with
  | some b => .ok (.bl b) st
  | none => match inK st x y with
    | some b => .ok (.bl b) st
    | none => .no
def gNotIn : F2 := fun x y st => match inD st x y with
  | some b => .ok (.bl (!b)) st
  | none => match inK st x y with
    | some b => .ok (.bl (!b)) st
    | none => .no
theorem nox_in : NoX2 gIn := fun x y st c z st' h => by
  unfold gIn at h
  split at h
  · cases h
  · split at h <;> cases h
theorem nox_notIn : NoX2 gNotIn := fun x y st c z st' h => by
  unfold gNotIn at h
  split at h
  · cases h
  · split at h <;> cases h
section
variable {X : Cx}
def rInDct (neg : Bool) : R2 := fun x y H Q => ∃ a o, y = .ref a ∧ DGet H a x o ∧ Q (.bl (neg != o.isSome)) H
theorem op_inDct (hu : X.A.units + 1 < cLine) : OpR X (compareOp .In) (rInDct false) := by
  intro pins s σ H x y v u Q I rx ry h
  obtain ⟨a, o, rfl, g, q⟩ := h
  obtain rfl : u = Value.ref a := ry
  exact d_in hu I g rx fun s3 I3 => ⟨.bl o.isSome, H, I3, rfl, by simpa using q⟩
theorem op_notInDct (hu : X.A.units + 1 < cLine) : OpR X (compareOp .NotIn) (rInDct true) := by
  intro pins s σ H x y v u Q I rx ry h
  obtain ⟨a, o, rfl, g, q⟩ := h
  obtain rfl : u = Value.ref a := ry
  exact d_notIn hu I g rx fun s3 I3 => ⟨.bl (!o.isSome), H, I3, rfl, by simpa using q⟩
theorem inK_rep {K : PySem.W.Frag} {H : Hp} {C : Ad} {st : Sto} {x y : D} {v u : V} {b : Bool} (h : inK st x y = some b) (so : StoOk K H C st) (rx : Rep K H C v x) (ry : Rep K H C u y) : ∃ a o, u = .ref a ∧ DGet H a v o ∧ o.isSome = b := by
  unfold inK at h
  split at h
  · rename_i k es e1 e2
    cases h
    obtain ⟨a, kvs, rfl, h1, h2⟩ := ents_rep e2 so ry
    have hk : RepKey k x ∧ v = kV k := by
      unfold keyOf at e1
      split at e1
      · cases e1; cases rx; exact ⟨.int _, rfl⟩
      · cases e1; cases rx; exact ⟨.str _, rfl⟩
      · cases e1
    have l := lookK_rep hk.1 h2
    refine ⟨a, valV kvs k, rfl, .inl ⟨kvs, k, h1, hk.2, rfl⟩, ?_⟩
    split at l
    · rename_i e; obtain ⟨w, l1, _⟩ := l; rw [l1, e]; rfl
    · rename_i e; rw [l, e]; rfl
  · cases h
theorem o_in (hu : X.A.units + 65 < cLine) : ∃ r, OpR X (compareOp .In) r ∧ SimR2 (gx X) r gIn ∧ NoX2 gIn := by
  refine ⟨_, (op_in_sign.or (op_in_str.or (op_inD hu))).or (op_inDct (by omega)), fun x y st H C v u Q so rx ry h => ?_, nox_in⟩
  unfold gIn at h
  split at h
  · rename_i b e
    have q := h.here so _ (.bl b)
    unfold inD at e
    split at e
    · cases e; cases rx; cases ry
      refine .inl (.inl ⟨_, _, rfl, rfl, ?_⟩)
      rw [sv_tl]
      exact q
    · cases e; cases rx; cases ry
      exact .inl (.inr (.inl ⟨_, _, rfl, rfl, q⟩))
    · split at e
      · rename_i e1 e2
        cases e
        exact .inl (.inr (.inr ⟨_, _, toPy_dp so _ _ _ _ e1 rx, toPy_dp so _ _ _ _ e2 ry, toPy_shaped (by decide) e1, toPy_shaped (by decide) e2, q⟩))
      · cases e
  · split at h
    · rename_i b e
      obtain ⟨a, o, rfl, g, rfl⟩ := inK_rep e so rx ry
      exact .inr ⟨a, o, rfl, g, by simpa using h.here so _ (.bl _)⟩
    · exact h.elim
theorem o_notIn (hu : X.A.units + 65 < cLine) : ∃ r, OpR X (compareOp .NotIn) r ∧ SimR2 (gx X) r gNotIn ∧ NoX2 gNotIn := by
  refine ⟨_, (op_notIn_sign.or (op_notin_str.or (op_notInD hu))).or (op_notInDct (by omega)), fun x y st H C v u Q so rx ry h => ?_, nox_notIn⟩
  unfold gNotIn at h
  split at h
  · rename_i b e
    have q := h.here so _ (.bl _)
    unfold inD at e
    split at e
    · cases e; cases rx; cases ry
      refine .inl (.inl ⟨_, _, rfl, rfl, ?_⟩)
      rw [sv_tl]
      exact q
    · cases e; cases rx; cases ry
      exact .inl (.inr (.inl ⟨_, _, rfl, rfl, q⟩))
    · split at e
      · rename_i e1 e2
        cases e
        exact .inl (.inr (.inr ⟨_, _, toPy_dp so _ _ _ _ e1 rx, toPy_dp so _ _ _ _ e2 ry, toPy_shaped (by decide) e1, toPy_shaped (by decide) e2, q⟩))
      · cases e
  · split at h
    · rename_i b e
      obtain ⟨a, o, rfl, g, rfl⟩ := inK_rep e so rx ry
      exact .inr ⟨a, o, rfl, g, by simpa using h.here so _ (.bl _)⟩
    · exact h.elim
end

end FL

/-! FLh: statements, targets, loops -/
namespace FL
open PySem PySem.Spec PyProof.Rows L2

inductive O where
  | no | nx (ρ : En) (st : Sto) | rt (d : D) (st : Sto) | bk (ρ : En) (st : Sto) | ct (ρ : En) (st : Sto) | exc (c : Nat) (x : D) (ρ : En) (st : Sto)
abbrev FS := En → Sto → O
def AfterS (g : Gx) (W : WX) (C : Ad) (H : Hp) (r : O) (D : Ends) : Prop := match r with
  | .no => False
  | .nx ρ st => ∀ C' H' σ', StoOk g.K H' C' st → Ext C H C' H' → Rs g.K H' C' σ' ρ → D.nx σ' H'
  | .rt d st => ∀ C' H' v, StoOk g.K H' C' st → Ext C H C' H' → Rep g.K H' C' v d → D.rt v H'
  | .bk ρ st => ∀ C' H' σ', StoOk g.K H' C' st → Ext C H C' H' → Rs g.K H' C' σ' ρ → D.bk σ' H'
  | .ct ρ st => ∀ C' H' σ', StoOk g.K H' C' st → Ext C H C' H' → Rs g.K H' C' σ' ρ → D.ct σ' H'
  | .exc c x ρ st => ∀ C' H' σ' cls dd, StoOk g.K H' C' st → Ext C H C' H' → Rs g.K H' C' σ' ρ → ExcAt g H' C' cls dd c x → W cls dd σ' H'
def SimS (g : Gx) (W : WX) (t : TS) (f : FS) : Prop := ∀ (ρ : En) (σ : L2.St) (st : Sto) (H : Hp) (C : Ad) (D : Ends), Rs g.K H C σ ρ → StoOk g.K H C st → AfterS g W C H (f ρ st) D → t D σ H
structure SS (X : Cx) (W : WX) (s : Stmt) (f : FS) : Prop where
  ex : ∃ t, PS X s t ∧ SimS (gx X) W t f
structure SSs (X : Cx) (W : WX) (s : List Stmt) (f : FS) : Prop where
  ex : ∃ t, PSs X s t ∧ SimS (gx X) W t f
theorem AfterS.ext {g : Gx} {W : WX} {C C1 : Ad} {H H1 : Hp} {r : O} {D : Ends} (h : AfterS g W C H r D) (e : Ext C H C1 H1) : AfterS g W C1 H1 r D := by
  cases r with
  | no => exact h
  | nx ρ st => exact fun C' H' σ' so e' rs => h C' H' σ' so (e.trans e') rs
  | rt d st => exact fun C' H' v so e' rs => h C' H' v so (e.trans e') rs
  | bk ρ st => exact fun C' H' σ' so e' rs => h C' H' σ' so (e.trans e') rs
  | ct ρ st => exact fun C' H' σ' so e' rs => h C' H' σ' so (e.trans e') rs
  | exc c x ρ st => exact fun C' H' σ' cls dd so e' rs ex => h C' H' σ' cls dd so (e.trans e') rs ex
/-- from a value's result to a statement's -/
def R.toO {α : Type} (r : R α) (ρ : En) (k : α → Sto → O) : O := match r with
  | .no => .no
  | .ok a st => k a st
  | .exc c x st => .exc c x ρ st
@[simp] theorem R.toO_no {α : Type} (ρ : En) (k : α → Sto → O) : R.toO .no ρ k = .no := rfl
@[simp] theorem R.toO_ok {α : Type} (a : α) (st : Sto) (ρ : En) (k : α → Sto → O) : R.toO (.ok a st) ρ k = k a st := rfl
@[simp] theorem R.toO_exc {α : Type} (c : Nat) (x : D) (st : Sto) (ρ : En) (k : α → Sto → O) : R.toO (.exc c x st) ρ k = .exc c x ρ st := rfl
theorem AfterS.val {α : Type} {g : Gx} {W : WX} {C : Ad} {H : Hp} {r : R α} {ρ : En} {σ : L2.St} {k : α → Sto → O} {D : Ends} (rs : Rs g.K H C σ ρ) (h : AfterS g W C H (r.toO ρ k) D) :
    After g (fun c d H' => W c d σ H') C H r fun a st C' H' => AfterS g W C' H' (k a st) D := by
  cases r with
  | no => exact h
  | ok a st => exact fun C' H' so e => AfterS.ext h e
  | exc c x st => exact fun C' H' cls dd so e ex => h C' H' σ cls dd so e (rs.mono e) ex
theorem AfterS.now {g : Gx} {W : WX} {C : Ad} {H : Hp} {ρ : En} {σ : L2.St} {st : Sto} {D : Ends} (h : AfterS g W C H (.nx ρ st) D) (so : StoOk g.K H C st) (rs : Rs g.K H C σ ρ) : D.nx σ H := h C H σ so .refl rs

/-! ### plain statements -/
def fNext : FS := fun ρ st => .nx ρ st
def fNever : FS := fun _ _ => .no
def fBrk : FS := fun ρ st => .bk ρ st
def fCnt : FS := fun ρ st => .ct ρ st
def fDrop (f : FE) : FS := fun ρ st => (f ρ st).toO ρ fun _ st1 => .nx ρ st1
def fRet (f : FE) : FS := fun ρ st => (f ρ st).toO ρ fun d st1 => .rt d st1
def fRetN : FS := fun _ st => .rt .non st
def fSeq (f h : FS) : FS := fun ρ st => match f ρ st with
  | .nx ρ1 st1 => h ρ1 st1
  | o => o
def fIf (t : FT) (f h : FS) : FS := fun ρ st => (t ρ st).toO ρ fun b st1 => if b = true then f ρ st1 else h ρ st1
section
variable {X : Cx} {W : WX} {e : Expr} {fe : FE} {ft : FT} {f h : FS} {s : Stmt} {r : List Stmt} {pos : Pos}
theorem ss_nil : SSs X W [] fNext := ⟨_, pss_nil, fun ρ σ st H C D rs so q => q.now so rs⟩
theorem sim_seq {t u : TS} (h1 : SimS (gx X) W t f) (h2 : SimS (gx X) W u h) : SimS (gx X) W (tSeq t u) (fSeq f h) := fun ρ σ st H C D rs so q => by
  refine h1 ρ σ st H C _ rs so ?_
  unfold fSeq at q
  cases e : f ρ st with
  | nx ρ1 st1 =>
    rw [e] at q
    exact fun C' H' σ' so' e' rs' => h2 ρ1 σ' st1 H' C' D rs' so' (AfterS.ext q e')
  | _ => rw [e] at q; exact q
theorem ss_cons (h1 : SS X W s f) (h2 : SSs X W r h) : SSs X W (s :: r) (fSeq f h) := by
  obtain ⟨t, p, q⟩ := h1
  obtain ⟨u, p2, q2⟩ := h2
  exact ⟨_, pss_cons p p2, sim_seq q q2⟩
theorem ss_one (h1 : SS X W s f) : SSs X W [s] f := by
  obtain ⟨t, p, q⟩ := h1
  exact ⟨_, pss_one p, q⟩
theorem ss_never : SS X W s fNever := ⟨_, ps_never, fun ρ σ st H C D rs so q => q.elim⟩
theorem ss_pass : SS X W (.Pass pos) fNext := ⟨_, ps_pass, fun ρ σ st H C D rs so q => q.now so rs⟩
theorem ss_break : SS X W (.Break pos) fBrk := ⟨_, ps_break, fun ρ σ st H C D rs so q => q C H σ so .refl rs⟩
theorem ss_continue : SS X W (.Continue pos) fCnt := ⟨_, ps_continue, fun ρ σ st H C D rs so q => q C H σ so .refl rs⟩
theorem ss_expr (he : SE X W e fe) (hs : swapsWith e none pos.line X.env = pure false := by rfl) : SS X W (.Expr e pos) (fDrop fe) := by
  obtain ⟨t, p, q⟩ := he
  exact ⟨_, ps_expr p hs, fun ρ σ st H C D rs so h => q ρ σ st H C _ rs so ((h.val rs).imp fun d st1 C1 H1 so1 e1 h1 v rv => h1.now so1 (rs.mono e1))⟩
theorem ss_ret (he : SE X W e fe) : SS X W (.Return (some e) pos) (fRet fe) := by
  obtain ⟨t, p, q⟩ := he
  exact ⟨_, ps_ret p, fun ρ σ st H C D rs so h => q ρ σ st H C _ rs so ((h.val rs).imp fun d st1 C1 H1 so1 e1 h1 v rv => h1 C1 H1 v so1 .refl rv)⟩
theorem ss_retN : SS X W (.Return none pos) fRetN := ⟨_, ps_retN, fun ρ σ st H C D rs so q => q C H .non so .refl .non⟩
theorem ss_if {a b : List Stmt} (ht : ST X W e ft) (ha : SSs X W a f) (hb : SSs X W b h) : SS X W (.If e a b pos) (fIf ft f h) := by
  obtain ⟨t, p, q⟩ := ht
  obtain ⟨t1, p1, q1⟩ := ha
  obtain ⟨t2, p2, q2⟩ := hb
  refine ⟨_, ps_if p p1 p2, fun ρ σ st H C D rs so h => q ρ σ st H C _ rs so ((h.val rs).imp fun k st1 C1 H1 so1 e1 h1 => ?_)⟩
  cases k with
  | true => exact iteT (q1 ρ σ st1 H1 C1 _ (rs.mono e1) so1 h1)
  | false => exact iteF (q2 ρ σ st1 H1 C1 _ (rs.mono e1) so1 h1)
end

/-! ### targets -/
abbrev FG := D → En → Sto → R En
abbrev FGs := List D → En → Sto → R En
def SimG (g : Gx) (W : WX) (t : TG) (f : FG) : Prop := ∀ (d : D) (v : V) (ρ : En) (σ : L2.St) (st : Sto) (H : Hp) (C : Ad) (Q : L2.St → Hp → Prop), Rep g.K H C v d → Rs g.K H C σ ρ → StoOk g.K H C st →
  After g (fun c d H' => W c d σ H') C H (f d ρ st) (fun ρ' _ C' H' => ∀ σ', Rs g.K H' C' σ' ρ' → Q σ' H') → t v σ H Q
def SimGs (g : Gx) (W : WX) (t : TGs) (f : FGs) : Prop := ∀ (ds : List D) (vs : List V) (ρ : En) (σ : L2.St) (st : Sto) (H : Hp) (C : Ad) (Q : L2.St → Hp → Prop), Reps g.K H C vs ds → Rs g.K H C σ ρ → StoOk g.K H C st →
  After g (fun _ _ _ => False) C H (f ds ρ st) (fun ρ' _ C' H' => ∀ σ', Rs g.K H' C' σ' ρ' → Q σ' H') → t vs σ H Q
structure SG (X : Cx) (W : WX) (e : Expr) (f : FG) : Prop where
  ex : ∃ t, PG X e t ∧ SimG (gx X) W t f
structure SGs (X : Cx) (W : WX) (es : List Expr) (f : FGs) : Prop where
  ex : ∃ t, PGs X es t ∧ SimGs (gx X) W t f
def hName (i : Nat) : FG := fun d ρ st => .ok (ρ.set i (some d)) st
def hNil : FGs := fun ds ρ st => match ds with
  | [] => .ok ρ st
  | _ => .no
/-- an error in a target is not served -/
def R.quiet {α : Type} (r : R α) : R α := match r with
  | .exc _ _ _ => .no
  | r => r
def hCons (f : FG) (r : FGs) : FGs := fun ds ρ st => match ds with
  | d :: ds => (f d ρ st).quiet.bind fun ρ1 st1 => r ds ρ1 st1
  | [] => .no
def hTup (n : Nat) (f : FGs) : FG := fun d ρ st => match d with
  | .tup ds => if ds.length = n then (f ds ρ st).quiet else .no
  | _ => .no
theorem After.quiet {α : Type} {g : Gx} {W W' : XK'} {C : Ad} {H : Hp} {r : R α} {P : α → Sto → Ad → Hp → Prop} (h : After g W C H r.quiet P) : After g W' C H r P := by
  cases r with
  | no => exact h
  | ok a st => exact h
  | exc c x st => exact h.elim
section
variable {X : Cx} {W : WX} {e : Expr} {es : List Expr} {fe : FE} {pos : Pos}
theorem sg_name {i : Nat} {x : Str} (hN : X.N.Nodup) (hi : X.N[i]? = some x := by rfl) (hx : Loc X.env.scope x := by first | exact Or.inl rfl | exact Or.inr rfl) (hf : X.fn x = true ∨ X.env.scope.names.lookup x = some .local := by first | exact .inl rfl | exact .inr rfl | assumption) :
    SG X W (.Name x pos) (hName i) := ⟨_, pg_name hN hi hx hf, fun d v ρ σ st H C Q rv rs so q => q.here so _ (rs.set rv)⟩
theorem sgs_nil : SGs X W [] hNil := ⟨_, pgs_nil, fun ds vs ρ σ st H C Q rv rs so q => by
  cases ds with
  | nil => cases rv; exact ⟨rfl, q.here so _ rs⟩
  | cons d ds => exact q.elim⟩
theorem sgs_cons {f : FG} {r : FGs} (h1 : SG X W e f) (h2 : SGs X W es r) (hs : (assignEach (e :: es) X.env).map (·.2) = assign e X.env :: (assignEach es X.env).map (·.2) := by rfl) : SGs X W (e :: es) (hCons f r) := by
  obtain ⟨t, p, s⟩ := h1
  obtain ⟨u, p2, s2⟩ := h2
  refine ⟨_, pgs_cons p p2 hs, fun ds vs ρ σ st H C Q rv rs so q => ?_⟩
  cases ds with
  | nil => exact q.elim
  | cons d ds =>
    cases rv with
    | cons r1 r2 =>
      refine ⟨_, _, rfl, s d _ ρ σ st H C _ r1 rs so ?_⟩
      have q := After.bind (r := (f d ρ st).quiet) (k := fun ρ1 st1 => r ds ρ1 st1) q
      exact q.quiet.imp fun ρ1 st1 C1 H1 so1 e1 h1 σ1 rs1 => s2 ds _ ρ1 σ1 st1 H1 C1 Q (r2.mono e1) rs1 so1 h1
theorem sg_tup {k n : Nat} {f : FGs} (hc : X.calm = true) (h : SGs X W es f) (hn : (assignEach es X.env).length = n := by rfl) (hst : (assignEach es X.env).findIdx? (·.1) = none := by rfl) : SG X W (.Tuple es k pos) (hTup n f) := by
  obtain ⟨t, p, s⟩ := h
  refine ⟨_, pg_tup hc p hn hst, fun d v ρ σ st H C Q rv rs so q => ?_⟩
  unfold hTup at q
  split at q
  · split at q
    · rename_i hl
      obtain ⟨a, xs, rfl, h1, _, h2⟩ := tup_rep rv
      exact ⟨a, xs, rfl, SqT.of h1, by rw [h2.length]; exact hl, s _ _ ρ σ st H C Q h2 rs so q.quiet⟩
    · exact q.elim
  · exact q.elim

/-! ### assignments -/
def fAsg (f : FE) (h : FG) : FS := fun ρ st => (f ρ st).toO ρ fun d st1 => (h d ρ st1).toO ρ fun ρ1 st2 => .nx ρ1 st2
theorem sim_asg {t : TE} {u : TG} {f : FE} {h : FG} (h1 : SimE (gx X) W t f) (h2 : SimG (gx X) W u h) : SimS (gx X) W (tAsg t u) (fAsg f h) := fun ρ σ st H C D rs so q => by
  refine h1 ρ σ st H C _ rs so ((q.val rs).imp fun d st1 C1 H1 so1 e1 h3 v rv => ?_)
  have rs1 := rs.mono e1
  exact h2 d v ρ σ st1 H1 C1 _ rv rs1 so1 ((h3.val rs1).imp fun ρ1 st2 C2 H2 so2 e2 h4 σ' rs2 => h4.now so2 rs2)
theorem ss_asg {tg e : Expr} {f : FE} {h : FG} (he : SE X W e f) (hg : SG X W tg h) (hs : swapsWithSole [tg] e pos.line X.env = pure false := by rfl) (hw : swappedStores [tg] e X.env = pure none := by rfl) (h1 : (assignEach [tg] X.env).map (·.2) = [assign tg X.env] := by rfl) : SS X W (.Assign [tg] e pos) (fAsg f h) := by
  obtain ⟨t, p, s⟩ := he
  obtain ⟨u, p2, s2⟩ := hg
  exact ⟨_, ps_asg p p2 hs hw h1, sim_asg s s2⟩
theorem ss_set {i : Nat} {x : Str} {f : FE} {pos' : Pos} (hN : X.N.Nodup) (he : SE X W e f) (hi : X.N[i]? = some x := by rfl) (hx : Loc X.env.scope x := by first | exact Or.inl rfl | exact Or.inr rfl) (hs : swapsWith e (some (.Name x pos')) pos.line X.env = pure false := by rfl)
    (hf : X.fn x = true ∨ X.env.scope.names.lookup x = some .local := by first | exact .inl rfl | exact .inr rfl | assumption) : SS X W (.Assign [.Name x pos'] e pos) (fAsg f (hName i)) := by
  obtain ⟨t, p, s⟩ := he
  exact ⟨_, ps_set hN hi hx p hs hf, sim_asg s fun d v ρ σ st H C Q rv rs so q => q.here so _ (rs.set rv)⟩
def fPar (i j : Nat) (fa : FA) : FS := fun ρ st => (fa ρ st).toO ρ fun ds st1 => match ds with
  | [a, b] => .nx ((ρ.set i (some a)).set j (some b)) st1
  | _ => .no
theorem ss_par {i j : Nat} {x y : Str} {a b : Expr} {fa : FA} {px py pt : Pos} {kt k2 pt2} (hc : X.calm = true) (hN : X.N.Nodup) (ha : SA X W [a, b] fa) (hi : X.N[i]? = some x := by rfl) (hj : X.N[j]? = some y := by rfl) (hij : i ≠ j := by decide)
    (hx : X.env.scope.names.lookup x = some .local := by rfl) (hy : X.env.scope.names.lookup y = some .local := by rfl)
    (hw : swappedStores [.Tuple [.Name x px, .Name y py] kt pt] (.Tuple [a, b] k2 pt2) X.env = pure (some [x, y]) := by rfl)
    (hs : swapsWithSole [.Tuple [.Name x px, .Name y py] kt pt] (.Tuple [a, b] k2 pt2) pos.line X.env = pure false := by rfl) :
    SS X W (.Assign [.Tuple [.Name x px, .Name y py] kt pt] (.Tuple [a, b] k2 pt2) pos) (fPar i j fa) := by
  obtain ⟨t, p, s⟩ := ha
  refine ⟨_, ps_par hc hN hi hj hij hx hy p hw hs, fun ρ σ st H C D rs so q => s ρ σ st H C _ rs so ((q.val rs).imp fun ds st1 C1 H1 so1 e1 h1 vs rv => ?_)⟩
  split at h1
  · cases rv with
    | cons r1 r2 =>
      cases r2 with
      | cons r2 r3 =>
        cases r3
        exact ⟨_, _, rfl, h1.now so1 (((rs.mono e1).set r1).set r2)⟩
  · exact h1.elim
def fPar3 (i j l : Nat) (fa : FA) : FS := fun ρ st => (fa ρ st).toO ρ fun ds st1 => match ds with
  | [a, b, c] => .nx (((ρ.set i (some a)).set j (some b)).set l (some c)) st1
  | _ => .no
end
end FL

/-! FLi: what is walked; for, while, list comprehensions -/
namespace FL
open PySem PySem.Spec PyProof.Rows L2

/-- what a loop walks: data told ahead; a cell's list, read turn by turn; two of these side by side -/
inductive Sd where
  | fix (ds : List D) | cel (n : Nat)
inductive Src where
  | fix (ds : List D) | cel (n : Nat) | zip (a b : Sd) | enm (a : Sd)
abbrev FI := En → Sto → R Src
def sdAt (s : Sd) (st : Sto) (i : Nat) : Option (Option D) := match s with
  | .fix ds => some ds[i]?
  | .cel n => match st[n]? with
    | some (.lst ds) => some ds[i]?
    | _ => none
/-- the item at the i-th turn, or the end -/
def nextS (s : Src) (st : Sto) (i : Nat) : Option (Option D) := match s with
  | .fix ds => some ds[i]?
  | .cel n => match st[n]? with
    | some (.lst ds) => some ds[i]?
    | _ => none
  | .zip a b => match sdAt a st i, sdAt b st i with
    | some (some x), some (some y) => some (some (.tup [x, y]))
    | some _, some _ => some none
    | _, _ => none
  | .enm a => match sdAt a st i with
    | some (some x) => some (some (.tup [.int (i : Nat), x]))
    | some none => some none
    | none => none
/-- what is locked stays locked -/
def FrzK (H₁ H : Hp) : Prop := ∀ a o, H₁ a = some o → isFrz o = true → H a = some o
/-- the iterator J yields what the source tells, from the heap H₁ on -/
def Walk (g : Gx) (J : It) (s : Src) (C₁ : Ad) (H₁ : Hp) : Prop := ∀ (st : Sto) (C : Ad) (H : Hp), StoOk g.K H C st → Stay C₁ H₁ C H → FrzK H₁ H → ∀ (i : Nat) (o : Option D), nextS s st i = some o →
  match o with
  | some d => J.go i H ∧ ∀ x H', J.yld i H x H' → StoOk g.K H' C st ∧ Ext C H C H' ∧ Rep g.K H' C x d
  | none => J.stop i H
def SimI (g : Gx) (W : WX) (wi : TI) (f : FI) : Prop := ∀ (ρ : En) (σ : L2.St) (st : Sto) (H : Hp) (C : Ad) (P : It → Hp → Prop), Rs g.K H C σ ρ → StoOk g.K H C st →
  After g (fun c d H' => W c d σ H') C H (f ρ st) (fun s _ C' H' => ∀ J, Walk g J s C' H' → P J H') → wi σ H P
structure SI (X : Cx) (W : WX) (tg iter : Expr) (f : FI) : Prop where
  ex : ∃ wi, PI X tg iter wi ∧ SimI (gx X) W wi f

/-! ### for -/
def stepO (r : O) (k : En → Sto → O) : O := match r with
  | .nx ρ st => k ρ st
  | .ct ρ st => k ρ st
  | .bk ρ st => .nx ρ st
  | o => o
def loopF (h : FG) (b : FS) : List D → En → Sto → O
  | [], ρ, st => .nx ρ st
  | d :: ds, ρ, st => (h d ρ st).toO ρ fun ρ1 st1 => stepO (b ρ1 st1) fun ρ2 st2 => loopF h b ds ρ2 st2
def loopN (s : Src) (h : FG) (b : FS) : Nat → Nat → En → Sto → O
  | 0, _, _, _ => .no
  | m + 1, i, ρ, st => match nextS s st i with
    | some (some d) => (h d ρ st).toO ρ fun ρ1 st1 => stepO (b ρ1 st1) fun ρ2 st2 => loopN s h b m (i + 1) ρ2 st2
    | some none => .nx ρ st
    | none => .no
/-- how many turns a loop over a cell may have -/
def celLen (st : Sto) (n : Nat) : Nat := match st[n]? with
  | some (.lst ds) => ds.length
  | _ => 0
def sdLen (s : Sd) (st : Sto) : Nat := match s with
  | .fix ds => ds.length
  | .cel n => celLen st n
def srcLen (s : Src) (st : Sto) : Nat := match s with
  | .fix ds => ds.length
  | .cel n => celLen st n
  | .zip a _ => sdLen a st
  | .enm a => sdLen a st
def fFor (src : FI) (h : FG) (b : FS) : FS := fun ρ st => (src ρ st).toO ρ fun s st1 => match s with
  | .fix ds => loopF h b ds ρ st1
  | s => loopN s h b (srcLen s st1 + 1) 0 ρ st1
theorem loopN_fix {h : FG} {b : FS} (ds : List D) : ∀ (m i : Nat) (ρ : En) (st : Sto), i + m = ds.length → loopN (.fix ds) h b (m + 1) i ρ st = loopF h b (ds.drop i) ρ st := fun m => by
  induction m with
  | zero =>
    intro i ρ st hi
    have e : ds[i]? = none := List.getElem?_eq_none_iff.mpr (by omega)
    rw [List.drop_eq_nil_of_le (by omega)]
    show (match some ds[i]? with
      | some (some d) => (h d ρ st).toO ρ fun ρ1 st1 => stepO (b ρ1 st1) fun ρ2 st2 => loopN (.fix ds) h b 0 (i + 1) ρ2 st2
      | some none => .nx ρ st
      | none => .no) = _
    rw [e, loopF]
  | succ m ih =>
    intro i ρ st hi
    have hl : i < ds.length := by omega
    rw [List.drop_eq_getElem_cons hl]
    show (match some ds[i]? with
      | some (some d) => (h d ρ st).toO ρ fun ρ1 st1 => stepO (b ρ1 st1) fun ρ2 st2 => loopN (.fix ds) h b (m + 1) (i + 1) ρ2 st2
      | some none => .nx ρ st
      | none => .no) = _
    rw [List.getElem?_eq_getElem hl, loopF]
    simp only
    congr 1
    funext ρ1 st1
    congr 1
    funext ρ2 st2
    exact ih (i + 1) ρ2 st2 (by omega)
theorem AfterS.step {g : Gx} {W : WX} {C : Ad} {H : Hp} {r : O} {k : En → Sto → O} {D : Ends} {N : L2.St → Hp → Prop} (h : AfterS g W C H (stepO r k) D)
    (hN : ∀ ρ' st' C' H' σ', StoOk g.K H' C' st' → Ext C H C' H' → Rs g.K H' C' σ' ρ' → AfterS g W C' H' (k ρ' st') D → N σ' H') : AfterS g W C H r { D with nx := N, ct := N, bk := D.nx } := by
  cases r with
  | no => exact h
  | nx ρ st => exact fun C' H' σ' so e rs => hN ρ st C' H' σ' so e rs (AfterS.ext (r := k ρ st) h e)
  | ct ρ st => exact fun C' H' σ' so e rs => hN ρ st C' H' σ' so e rs (AfterS.ext (r := k ρ st) h e)
  | bk ρ st => exact h
  | rt d st => exact h
  | exc c x ρ st => exact h
section
variable {X : Cx} {W : WX}
theorem sim_for {wi : TI} {tg : TG} {tb : TS} {src : FI} {h : FG} {b : FS} (h0 : SimI (gx X) W wi src) (h1 : SimG (gx X) W tg h) (h2 : SimS (gx X) W tb b) : SimS (gx X) W (tFor wi tg tb) (fFor src h b) := fun ρ σ st H C D rs so q => by
  refine h0 ρ σ st H C _ rs so ((q.val rs).imp fun s st1 C1 H1 so1 e1 h3 J wk => ?_)
  have rs1 := rs.mono e1
  have dyn : ∀ m0, AfterS (gx X) W C1 H1 (loopN s h b m0 0 ρ st1) D → ∃ Wf : Nat → Nat → L2.St → Hp → Prop, (∃ m, Wf 0 m σ H1) ∧ ∀ i m σ H, Wf i m σ H →
      (J.stop i H ∧ D.nx σ H) ∨ (J.go i H ∧ ∃ N : L2.St → Hp → Prop, (∀ σ' H', N σ' H' → ∃ m', m' < m ∧ Wf (i + 1) m' σ' H') ∧ ∀ v H', J.yld i H v H' → tg v σ H' fun σ2 H2 => tb { D with nx := N, ct := N, bk := D.nx } σ2 H2) := fun m0 h3 => by
    let Wf : Nat → Nat → L2.St → Hp → Prop := fun i m σ H => ∃ ρ st C, Rs X.K H C σ ρ ∧ StoOk X.K H C st ∧ Ext C1 H1 C H ∧ AfterS (gx X) W C H (loopN s h b m i ρ st) D
    refine ⟨Wf, ⟨m0, ρ, st1, C1, rs1, so1, .refl, h3⟩, ?_⟩
    rintro i m σ2 H2 ⟨ρ2, st2, C2, rs2, so2, e2, h4⟩
    cases m with
    | zero => exact h4.elim
    | succ m =>
      rw [loopN] at h4
      cases e : nextS s st2 i with
      | none => rw [e] at h4; exact h4.elim
      | some o =>
        rw [e] at h4
        have w := wk st2 C2 H2 so2 e2.stay e2.frz i o e
        cases o with
        | none => exact .inl ⟨w, h4.now so2 rs2⟩
        | some d =>
          refine .inr ⟨w.1, fun σ' H' => Wf (i + 1) m σ' H', fun σ' H' hw => ⟨m, Nat.lt_succ_self m, hw⟩, fun x H' hy => ?_⟩
          obtain ⟨so3, e3, rx⟩ := w.2 x H' hy
          have rs3 := rs2.mono e3
          refine h1 d x ρ2 σ2 st2 H' C2 _ rx rs3 so3 (((AfterS.ext h4 e3).val rs3).imp fun ρ4 st4 C4 H4 so4 e4 h5 σ4 rs4 => ?_)
          exact h2 ρ4 σ4 st4 H4 C4 _ rs4 so4 (h5.step fun ρ5 st5 C5 H5 σ5 so5 e5 rs5 h6 => ⟨ρ5, st5, C5, rs5, so5, ((e2.trans e3).trans e4).trans e5, h6⟩)
  cases s with
  | fix ds =>
    refine dyn (ds.length + 1) ?_
    rw [loopN_fix ds ds.length 0 ρ st1 (by omega)]
    exact h3
  | cel n => exact dyn _ h3
  | zip a b => exact dyn _ h3
  | enm a => exact dyn _ h3
theorem ss_for {tg iter : Expr} {body : List Stmt} {src : FI} {h : FG} {b : FS} {pos : Pos} (hp : PassesOwn (model X.prog X.w) X.A X.env X.xe) (hc : X.calm = true) (hi : SI X W tg iter src) (hg : SG X W tg h) (hb : SSs X W body b)
    (hs : ∀ x, foldedSetIterable iter X.env x = pure x := by intro _; rfl) : SS X W (.For tg iter body [] pos) (fFor src h b) := by
  obtain ⟨wi, p0, s0⟩ := hi
  obtain ⟨t1, p1, s1⟩ := hg
  obtain ⟨t2, p2, s2⟩ := hb
  exact ⟨_, ps_for hp hc p0 p1 p2 hs, sim_for s0 s1 s2⟩
end

/-! ### while -/
def whileF (t : FT) (b : FS) : Nat → En → Sto → O
  | 0, _, _ => .no
  | m + 1, ρ, st => (t ρ st).toO ρ fun c st1 => if c = true then stepO (b ρ st1) fun ρ2 st2 => whileF t b m ρ2 st2 else .nx ρ st1
def fWhile (fuel : Nat) (t : FT) (b : FS) : FS := fun ρ st => whileF t b fuel ρ st
section
variable {X : Cx} {W : WX}
theorem ss_while (fuel : Nat) {c : Expr} {body : List Stmt} {t : FT} {b : FS} {pos : Pos} (hp : PassesOwn (model X.prog X.w) X.A X.env X.xe) (hc : ST X W c t) (hb : SSs X W body b) : SS X W (.While c body [] pos) (fWhile fuel t b) := by
  obtain ⟨tc, p1, s1⟩ := hc
  obtain ⟨tb, p2, s2⟩ := hb
  refine ⟨_, ps_while hp p1 p2, fun ρ σ st H C D rs so q => ?_⟩
  let Wf : Nat → L2.St → Hp → Prop := fun m σ H => ∃ ρ st C, Rs X.K H C σ ρ ∧ StoOk X.K H C st ∧ AfterS (gx X) W C H (whileF t b m ρ st) D
  refine ⟨Wf, ⟨fuel, ρ, st, C, rs, so, q⟩, ?_⟩
  rintro m σ2 H2 ⟨ρ2, st2, C2, rs2, so2, h4⟩
  cases m with
  | zero => exact h4.elim
  | succ m =>
    rw [whileF] at h4
    refine s1 ρ2 σ2 st2 H2 C2 _ rs2 so2 ((h4.val rs2).imp fun k st3 C3 H3 so3 e3 h5 => ?_)
    have rs3 := rs2.mono e3
    cases k with
    | true =>
      refine iteT ⟨fun σ' H' => Wf m σ' H', fun σ' H' hw => ⟨m, Nat.lt_succ_self m, hw⟩, ?_⟩
      rw [if_pos rfl] at h5
      exact s2 ρ2 σ2 st3 H3 C3 _ rs3 so3 (h5.step fun ρ5 st5 C5 H5 σ5 so5 e5 rs5 h6 => ⟨ρ5, st5, C5, rs5, so5, h6⟩)
    | false =>
      rw [if_neg Bool.false_ne_true] at h5
      exact iteF (h5.now so3 rs3)
end

/-! ### sources -/
def iList (f : FE) : FI := fun ρ st => (f ρ st).bind fun d st1 => match d with
  | .cel n => match st1[n]? with
    | some (.lst _) => .ok (.cel n) st1
    | _ => .no
  | .str s => .ok (.fix (s.map fun c => .str [c])) st1
  | .tup ds => .ok (.fix ds) st1
  | d => match itemsR st1 d with
    | some ds => .ok (.fix ds) st1
    | none => .no
def rng (lo hi : Int) : List Int := (List.range (hi - lo).toNat).map fun (i : Nat) => lo + (i : Int)
def okR (i : Int) : Bool := decide (i.natAbs ≤ 1000000000)
def iRange1 (f : FE) : FI := fun ρ st => (f ρ st).bind fun d st1 => match d with
  | .int j => if okR j = true then .ok (.fix ((rng 0 j).map D.int)) st1 else .no
  | _ => .no
def iRange2 (f h : FE) : FI := fun ρ st => (f ρ st).bind fun d st1 => (h ρ st1).bind fun d2 st2 => match d, d2 with
  | .int i, .int j => if okR i = true ∧ okR j = true then .ok (.fix ((rng i j).map D.int)) st2 else .no
  | _, _ => .no
section
variable {X : Cx} {W : WX} {tg e : Expr} {f : FE}
theorem walk_list {a : Addr} {xs : List V} {ds : List D} {C₁ : Ad} {H₁ : Hp} (hq : ∀ H' C', Stay C₁ H₁ C' H' → SqL X.K H' a xs) (hr : Reps X.K H₁ C₁ xs ds) : Walk (gx X) (Itl X.K a) (.fix ds) C₁ H₁ := fun st C H so e _ i o hn => by
  have q := hq H C e
  have hn : ds[i]? = o := Option.some.inj hn
  cases o with
  | some d =>
    obtain ⟨v, h1, h2⟩ := hr.get hn
    refine ⟨⟨xs, v, q, h1⟩, fun x H' hy => ?_⟩
    obtain ⟨rfl, hy⟩ := hy
    have := hy xs q
    rw [h1] at this
    cases this
    exact ⟨so, .refl, h2.monoS e⟩
  | none => exact ⟨xs, q, by rw [hr.length]; exact List.getElem?_eq_none_iff.mp hn⟩
theorem walk_tup {a : Addr} {xs : List V} {ds : List D} {C₁ : Ad} {H₁ : Hp} (h0 : H₁ a = some (.tup xs)) (ho : C₁.out a) (hr : Reps X.K H₁ C₁ xs ds) : Walk (gx X) (Itt X.K a) (.fix ds) C₁ H₁ := fun st C H so e _ i o hn => by
  have q : SqT X.K H a xs := SqT.of (e.keep _ _ h0 ho)
  have hn : ds[i]? = o := Option.some.inj hn
  cases o with
  | some d =>
    obtain ⟨v, h1, h2⟩ := hr.get hn
    refine ⟨⟨xs, v, q, h1⟩, fun x H' hy => ?_⟩
    obtain ⟨rfl, hy⟩ := hy
    have := hy xs q
    rw [h1] at this
    cases this
    exact ⟨so, .refl, h2.monoS e⟩
  | none => exact ⟨xs, q, by rw [hr.length]; exact List.getElem?_eq_none_iff.mp hn⟩
theorem walk_str {s : List Nat} {C₁ : Ad} {H₁ : Hp} : Walk (gx X) (Its (sv s)) (.fix (s.map fun c => .str [c])) C₁ H₁ := fun st C H so ex _ i o hn => by
  have hsz : (sv s).cps.size = s.length := by simp
  have hd : (s.map fun c => D.str [c])[i]? = o := Option.some.inj hn
  rw [List.getElem?_map] at hd
  cases e : s[i]? with
  | none =>
    rw [e] at hd
    cases hd
    show (sv s).cps.size ≤ _
    rw [hsz]
    exact List.getElem?_eq_none_iff.mp e
  | some c =>
    rw [e] at hd
    cases hd
    have hl := (List.getElem?_eq_some_iff.mp e).1
    refine ⟨by show i < (sv s).cps.size; rw [hsz]; exact hl, fun x H' hy => ?_⟩
    obtain ⟨rfl, c', e1, rfl⟩ := hy
    have e2 : (sv s).cps[i]? = s[i]? := by simp
    rw [e2, e] at e1
    cases e1
    exact ⟨so, .refl, .str [c]⟩
theorem walk_cel {a : Addr} {n : Nat} {C₁ : Ad} {H₁ : Hp} (h : C₁.c[n]? = some a) : Walk (gx X) (Itl X.K a) (.cel n) C₁ H₁ := fun st C H so e _ i o hn => by
  unfold nextS at hn
  simp only at hn
  split at hn
  · rename_i ds hd
    obtain ⟨xs, h1, h2⟩ := so.ok n a _ (e.get h) hd
    have hn : ds[i]? = o := Option.some.inj hn
    cases o with
    | some d =>
      obtain ⟨v, h3, h4⟩ := h2.get hn
      refine ⟨⟨xs, v, SqL.of h1, h3⟩, fun x H' hy => ?_⟩
      obtain ⟨rfl, hy⟩ := hy
      have := hy xs (SqL.of h1)
      rw [h3] at this
      cases this
      exact ⟨so, .refl, h4⟩
    | none => exact ⟨xs, SqL.of h1, by rw [h2.length]; exact List.getElem?_eq_none_iff.mp hn⟩
  · cases hn
theorem PI.or {wi wj : TI} (h : PI X tg e wi) (k : PI X tg e wj) : PI X tg e fun σ H P => wi σ H P ∨ wj σ H P := ⟨fun pins s σ H R I q => by
  rcases q with q | q
  · exact h.run pins s σ H R I q
  · exact k.run pins s σ H R I q⟩
theorem si_list (he : SE X W e f) : SI X W tg e (iList f) := by
  obtain ⟨t, p, s⟩ := he
  refine ⟨_, PI.or (PI.or (pi_str p) (pi_tup p)) (pi_list p), fun ρ σ st H C P rs so q => ?_⟩
  have key : ∀ (R' : VK), (∀ d st1, f ρ st = .ok d st1 → After (gx X) (fun c d H' => W c d σ H') C H (R.ok d st1) fun d _ C' H' => ∀ v, Rep X.K H' C' v d → R' v H') → t σ H R' := fun R' k => by
    refine s ρ σ st H C R' rs so ?_
    unfold iList at q
    cases e : f ρ st with
    | no => rw [e] at q; exact q.elim
    | exc c x st1 => rw [e] at q; exact q
    | ok d st1 => exact k d st1 e
  unfold iList at q
  cases e : f ρ st with
  | no => rw [e] at q; exact q.elim
  | exc c x st1 =>
    refine .inr (key _ fun d st1 e2 => ?_)
    rw [e] at e2; cases e2
  | ok d st1 =>
    rw [e, R.bind_ok] at q
    split at q
    · split at q
      · rename_i n _ ds hn
        refine .inr (key _ fun d st1 e2 => ?_)
        rw [e] at e2; cases e2
        intro C1 H1 so1 e1 v rv
        cases rv with
        | @cel a _ hc =>
          obtain ⟨xs, h1, h2⟩ := so1.ok _ _ _ hc hn
          exact ⟨a, rfl, ⟨xs, SqL.of h1⟩, q C1 H1 so1 e1 _ (walk_cel hc)⟩
      · exact q.elim
    · refine .inl (.inl (key _ fun d st1 e2 => ?_))
      rw [e] at e2; cases e2
      intro C1 H1 so1 e1 v rv
      cases rv
      exact ⟨_, rfl, q C1 H1 so1 e1 _ walk_str⟩
    · refine .inl (.inr (key _ fun d st1 e2 => ?_))
      rw [e] at e2; cases e2
      intro C1 H1 so1 e1 v rv
      obtain ⟨a, xs, rfl, h1, h2, h3⟩ := tup_rep rv
      exact ⟨a, rfl, ⟨xs, SqT.of h1⟩, q C1 H1 so1 e1 _ (walk_tup h1 h2 h3)⟩
    · split at q
      · rename_i hc _ _ _ ds hd
        refine .inr (key _ fun d st1 e2 => ?_)
        rw [e] at e2; cases e2
        intro C1 H1 so1 e1 v rv
        obtain ⟨a, xs, rfl, h1, h2, h3⟩ := itemsR_rep hd so1 rv
        exact ⟨a, rfl, ⟨xs, h1⟩, q C1 H1 so1 e1 _ (walk_list (fun H' C' e' => h3 H' C' e' fun n hn => absurd hn (hc n)) h2)⟩
      · exact q.elim
theorem rng_at {lo : Int} {n i : Nat} {d : D} (h : (((List.range n).map fun (i : Nat) => lo + (i : Int)).map D.int)[i]? = some d) : i < n ∧ d = .int (lo + i) := by
  rw [List.getElem?_map, List.getElem?_map] at h
  cases e : (List.range n)[i]? with
  | none => rw [e] at h; cases h
  | some k =>
    rw [e] at h
    cases h
    obtain ⟨h1, h2⟩ := List.getElem?_eq_some_iff.mp e
    rw [List.length_range] at h1
    rw [List.getElem_range] at h2
    subst h2
    exact ⟨h1, rfl⟩
theorem walk_range {lo : Int} {n : Nat} {C₁ : Ad} {H₁ : Hp} : Walk (gx X) (Itr lo n) (Src.fix (((List.range n).map fun (i : Nat) => lo + (i : Int)).map D.int)) C₁ H₁ := fun st C H so e _ i o hn => by
  have hn : (((List.range n).map fun (i : Nat) => lo + (i : Int)).map D.int)[i]? = o := Option.some.inj hn
  cases o with
  | some d =>
    obtain ⟨h1, rfl⟩ := rng_at hn
    refine ⟨h1, fun x H' hy => ?_⟩
    obtain ⟨rfl, rfl⟩ := hy
    exact ⟨so, .refl, .int _⟩
  | none =>
    have := List.getElem?_eq_none_iff.mp hn
    show n ≤ _
    simpa using this
theorem si_range1 {p pos : Pos} (hm : X.mg "range" = none) (he : SE X W e f) (hg : Gl X "range" := by rfl) (hs : starEach [e] X.env = [(false, eval e X.env)] := by rfl) (hs2 : starEach (e :: []) X.env = (false, eval e X.env) :: starEach [] X.env := by rfl) :
    SI X W tg (.Call (.Name "range" p) [e] [] pos) (iRange1 f) := by
  obtain ⟨t, pe, s⟩ := he
  refine ⟨_, pi_range1 hg hm (pa_cons pe pa_nil hs2) hs, fun ρ σ st H C P rs so q => ?_⟩
  refine s ρ σ st H C _ rs so (q.bind.imp fun d st1 C1 H1 so1 e1 h1 v rv => ?_)
  cases d with
  | int j =>
    cases rv
    have h1 : After (gx X) _ C1 H1 (if okR j = true then R.ok (Src.fix ((rng 0 j).map D.int)) st1 else R.no) _ := h1
    split at h1
    · rename_i hj
      unfold okR at hj
      simp only [decide_eq_true_eq] at hj
      refine ⟨j, rfl, by omega, by omega, h1.here so1 _ ?_⟩
      have e : j.toNat = (j - 0).toNat := by rw [Int.sub_zero]
      rw [e]
      exact walk_range
    · exact h1.elim
  | _ => exact h1.elim
theorem si_range2 {e2 : Expr} {h : FE} {p pos : Pos} (hm : X.mg "range" = none) (he : SE X W e f) (he2 : SE X W e2 h) (hg : Gl X "range" := by rfl) (hs : starEach [e, e2] X.env = [(false, eval e X.env), (false, eval e2 X.env)] := by rfl) (hs2 : starEach [e2] X.env = [(false, eval e2 X.env)] := by rfl)
    (hs3 : starEach (e :: [e2]) X.env = (false, eval e X.env) :: starEach [e2] X.env := by rfl) (hs4 : starEach (e2 :: []) X.env = (false, eval e2 X.env) :: starEach [] X.env := by rfl) :
    SI X W tg (.Call (.Name "range" p) [e, e2] [] pos) (iRange2 f h) := by
  obtain ⟨t, pe, s⟩ := he
  obtain ⟨t2, pe2, s2⟩ := he2
  refine ⟨_, pi_range2 hg hm (pa_cons pe (pa_cons pe2 pa_nil hs4) hs3) hs hs2, fun ρ σ st H C P rs so q => ?_⟩
  refine s ρ σ st H C _ rs so (q.bind.imp fun d st1 C1 H1 so1 e1 h1 v rv => ?_)
  refine s2 ρ σ st1 H1 C1 _ (rs.mono e1) so1 (h1.bind.imp fun d2 st2 C2 H2 so2 e2 h2 v2 rv2 => ?_)
  split at h2
  · cases rv; cases rv2
    split at h2
    · rename_i i j hij
      unfold okR at hij
      simp only [decide_eq_true_eq] at hij
      exact ⟨i, j, rfl, by omega, h2.here so2 _ walk_range⟩
    · exact h2.elim
  · exact h2.elim
end
end FL

/-! FLj: list comprehensions -/
namespace FL
open PySem PySem.Spec PyProof.Rows L2

/-- the transformer that a function tells -/
def TEf (g : Gx) (W : WX) (f : FE) : TE := fun σ H Q => ∃ ρ st C, Rs g.K H C σ ρ ∧ StoOk g.K H C st ∧ After g (fun c d H' => W c d σ H') C H (f ρ st) (fun d _ C' H' => ∀ v, Rep g.K H' C' v d → Q v H')
def TTf (g : Gx) (W : WX) (f : FT) : TT := fun σ H Q => ∃ ρ st C, Rs g.K H C σ ρ ∧ StoOk g.K H C st ∧ After g (fun c d H' => W c d σ H') C H (f ρ st) (fun b _ _ H' => Q b H')
theorem SE.can {X : Cx} {W : WX} {e : Expr} {f : FE} (h : SE X W e f) : PE X e (TEf (gx X) W f) := by
  obtain ⟨t, p, s⟩ := h
  exact ⟨fun pins sh σ H Q I ⟨ρ, st, C, rs, so, q⟩ => p.run pins sh σ H Q I (s ρ σ st H C Q rs so q)⟩
abbrev W0 : WX := fun _ _ _ _ => False
/-- the tests of a comprehension -/
structure SPs (X : Cx) (W : WX) (ifs : List Expr) (f : FT) : Prop where
  ex : ∃ t, PTs X ifs t ∧ SimT (gx X) W t f
def fYes : FT := fun _ st => .ok true st
section
variable {X : Cx} {W : WX}
theorem sp_nil : SPs X W [] fYes := ⟨_, pts_nil, fun ρ σ st H C Q rs so h => h.here so⟩
theorem sp_one {c : Expr} {f : FT} (h : ST X W c f) : SPs X W [c] f := by
  obtain ⟨t, p, s⟩ := h
  exact ⟨_, pts_one p, s⟩
theorem SPs.can {ifs : List Expr} {f : FT} (h : SPs X W ifs f) : PTs X ifs (TTf (gx X) W f) := by
  obtain ⟨t, p, s⟩ := h
  exact ⟨fun pins sh σ H Q I ⟨ρ, st, C, rs, so, q⟩ => p.run pins sh σ H Q I (s ρ σ st H C Q rs so q)⟩
end
/-- a comprehension's target: the slots vs alone are stored -/
def SimV (g : Gx) (vs : List Nat) (t : TG) (f : FG) : Prop := ∀ (d : D) (v : V) (ρ : En) (σ : L2.St) (st : Sto) (H : Hp) (C : Ad) (Q : L2.St → Hp → Prop), Rep g.K H C v d → Rs g.K H C σ ρ → StoOk g.K H C st →
  After g (fun _ _ _ => False) C H (f d ρ st) (fun ρ' _ C' H' => ∀ σ', Rs g.K H' C' σ' ρ' → L2.wipe σ' vs = L2.wipe σ vs → Q σ' H') → t v σ H Q
def SimVs (g : Gx) (vs : List Nat) (t : TGs) (f : FGs) : Prop := ∀ (ds : List D) (us : List V) (ρ : En) (σ : L2.St) (st : Sto) (H : Hp) (C : Ad) (Q : L2.St → Hp → Prop), Reps g.K H C us ds → Rs g.K H C σ ρ → StoOk g.K H C st →
  After g (fun _ _ _ => False) C H (f ds ρ st) (fun ρ' _ C' H' => ∀ σ', Rs g.K H' C' σ' ρ' → L2.wipe σ' vs = L2.wipe σ vs → Q σ' H') → t us σ H Q
structure SV (X : Cx) (vs : List Nat) (e : Expr) (f : FG) : Prop where
  ex : ∃ t, PG X e t ∧ SimV (gx X) vs t f
structure SVs (X : Cx) (vs : List Nat) (es : List Expr) (f : FGs) : Prop where
  ex : ∃ t, PGs X es t ∧ SimVs (gx X) vs t f
def TGf (g : Gx) (vs : List Nat) (f : FG) : TG := fun v σ H Q => ∃ d ρ st C, Rep g.K H C v d ∧ Rs g.K H C σ ρ ∧ StoOk g.K H C st ∧ After g (fun _ _ _ => False) C H (f d ρ st) (fun ρ' _ C' H' => ∀ σ', Rs g.K H' C' σ' ρ' → L2.wipe σ' vs = L2.wipe σ vs → Q σ' H')
theorem wipe_set {i : Nat} {o : Option V} : ∀ {vs : List Nat} {σ : L2.St}, i ∈ vs → L2.wipe (σ.set i o) vs = L2.wipe σ vs
  | v :: vs, σ, h => by
    unfold L2.wipe
    by_cases e : i = v
    · subst e
      by_cases hm : i ∈ vs
      · rw [wipe_set hm]
      · have : ∀ (vs : List Nat) (σ : L2.St), (L2.wipe (σ.set i o) vs).set i none = (L2.wipe σ vs).set i none := by
          intro vs
          induction vs with
          | nil => intro σ; simp [L2.wipe]
          | cons w ws ih =>
            intro σ
            unfold L2.wipe
            by_cases hw : w = i
            · subst hw
              simp only [List.set_set]
              exact ih σ
            · rw [List.set_comm _ _ hw, ih, List.set_comm _ _ (Ne.symm hw)]
        exact this vs σ
    · have hm : i ∈ vs := by
        rcases List.mem_cons.mp h with q | q
        · exact absurd q e
        · exact q
      rw [wipe_set hm]
section
variable {X : Cx} {vs : List Nat} {e : Expr} {es : List Expr} {pos : Pos}
theorem SV.can {f : FG} (h : SV X vs e f) : PG X e (TGf (gx X) vs f) := by
  obtain ⟨t, p, s⟩ := h
  exact ⟨fun pins sh σ H v u Q I r ⟨d, ρ, st, C, rv, rs, so, q⟩ => p.run pins sh σ H v u Q I r (s d v ρ σ st H C Q rv rs so q)⟩
theorem sv_name {i : Nat} {x : Str} (hN : X.N.Nodup) (hi : X.N[i]? = some x := by rfl) (hv : i ∈ vs := by decide) (hx : Loc X.env.scope x := by first | exact Or.inl rfl | exact Or.inr rfl) (hf : X.fn x = true ∨ X.env.scope.names.lookup x = some .local := by first | exact .inl rfl | exact .inr rfl | assumption) :
    SV X vs (.Name x pos) (hName i) := ⟨_, pg_name hN hi hx hf, fun d v ρ σ st H C Q rv rs so q => q.here so _ (rs.set rv) (wipe_set hv)⟩
theorem svs_nil : SVs X vs [] hNil := ⟨_, pgs_nil, fun ds us ρ σ st H C Q rv rs so q => by
  cases ds with
  | nil => cases rv; exact ⟨rfl, q.here so _ rs rfl⟩
  | cons d ds => exact q.elim⟩
theorem svs_cons {f : FG} {r : FGs} (h1 : SV X vs e f) (h2 : SVs X vs es r) (hs : (assignEach (e :: es) X.env).map (·.2) = assign e X.env :: (assignEach es X.env).map (·.2) := by rfl) : SVs X vs (e :: es) (hCons f r) := by
  obtain ⟨t, p, s⟩ := h1
  obtain ⟨u, p2, s2⟩ := h2
  refine ⟨_, pgs_cons p p2 hs, fun ds us ρ σ st H C Q rv rs so q => ?_⟩
  cases ds with
  | nil => exact q.elim
  | cons d ds =>
    cases rv with
    | cons r1 r2 =>
      refine ⟨_, _, rfl, s d _ ρ σ st H C _ r1 rs so ?_⟩
      have q := After.bind (r := (f d ρ st).quiet) (k := fun ρ1 st1 => r ds ρ1 st1) q
      exact q.quiet.imp fun ρ1 st1 C1 H1 so1 e1 h1 σ1 rs1 w1 => s2 ds _ ρ1 σ1 st1 H1 C1 Q (r2.mono e1) rs1 so1 (h1.imp fun ρ2 st2 C2 H2 so2 e2 h2 σ2 rs2 w2 => h2 σ2 rs2 (w2.trans w1))
theorem sv_tup {k n : Nat} {f : FGs} (hc : X.calm = true) (h : SVs X vs es f) (hn : (assignEach es X.env).length = n := by rfl) (hst : (assignEach es X.env).findIdx? (·.1) = none := by rfl) : SV X vs (.Tuple es k pos) (hTup n f) := by
  obtain ⟨t, p, s⟩ := h
  refine ⟨_, pg_tup hc p hn hst, fun d v ρ σ st H C Q rv rs so q => ?_⟩
  unfold hTup at q
  split at q
  · split at q
    · rename_i hl
      obtain ⟨a, xs, rfl, h1, _, h2⟩ := tup_rep rv
      exact ⟨a, xs, rfl, SqT.of h1, by rw [h2.length]; exact hl, s _ _ ρ σ st H C Q h2 rs so q.quiet⟩
    · exact q.elim
  · exact q.elim
end

theorem wipe_idem (σ : L2.St) : ∀ vs : List Nat, L2.wipe (L2.wipe σ vs) vs = L2.wipe σ vs := fun vs => by
  have h : ∀ us : List Nat, (∀ i ∈ us, i ∈ vs) → L2.wipe (L2.wipe σ us) vs = L2.wipe σ vs := by
    intro us
    induction us with
    | nil => intro _; rfl
    | cons u us ih =>
      intro hu
      show L2.wipe ((L2.wipe σ us).set u none) vs = _
      rw [wipe_set (hu u List.mem_cons_self)]
      exact ih fun i hi => hu i (List.mem_cons_of_mem _ hi)
  exact h vs fun _ h => h
/-! ### the loop -/
/-- one turn -/
def turnL (h : FG) (t : FT) (e : FE) (vs : List Nat) (ρ : En) (d : D) (st : Sto) : R (Option D) :=
  (h d (wipeE ρ vs) st).quiet.bind fun ρ2 st2 => (t ρ2 st2).quiet.bind fun b st3 => if b = true then (e ρ2 st3).quiet.bind fun y st4 => .ok (some y) st4 else .ok none st3
def consO (o : Option D) (l : List D) : List D := match o with
  | some y => y :: l
  | none => l
def lcN (s : Src) (T : D → Sto → R (Option D)) : Nat → Nat → Sto → R (List D)
  | 0, _, _ => .no
  | m + 1, i, st => match nextS s st i with
    | none => .no
    | some none => .ok [] st
    | some (some d) => (T d st).bind fun o st1 => (lcN s T m (i + 1) st1).bind fun l st2 => .ok (consO o l) st2
def lcL (T : D → Sto → R (Option D)) : List D → Sto → R (List D)
  | [], st => .ok [] st
  | d :: ds, st => (T d st).bind fun o st1 => (lcL T ds st1).bind fun l st2 => .ok (consO o l) st2
theorem lcN_fix (T : D → Sto → R (Option D)) (ds : List D) : ∀ (m i : Nat) (st : Sto), i + m = ds.length → lcN (.fix ds) T (m + 1) i st = lcL T (ds.drop i) st
  | 0, i, st, h => by
    have e : ds[i]? = none := List.getElem?_eq_none_iff.mpr (by omega)
    rw [List.drop_eq_nil_of_le (by omega)]
    simp [lcN, nextS, e, lcL]
  | m + 1, i, st, h => by
    have hi : i < ds.length := by omega
    rw [List.drop_eq_getElem_cons hi]
    have h1 : lcN (.fix ds) T (m + 1 + 1) i st = (T ds[i] st).bind fun o st1 => (lcN (.fix ds) T (m + 1) (i + 1) st1).bind fun l st2 => .ok (consO o l) st2 := by
      show (match some ds[i]? with
        | none => R.no
        | some none => R.ok [] st
        | some (some d) => (T d st).bind fun o st1 => (lcN (.fix ds) T (m + 1) (i + 1) st1).bind fun l st2 => R.ok (consO o l) st2) = _
      rw [List.getElem?_eq_getElem hi]
    rw [h1, lcL]
    congr 1
    funext o st1
    rw [lcN_fix T ds m (i + 1) st1 (by omega)]
def runL (s : Src) (T : D → Sto → R (Option D)) (st : Sto) : R (List D) := match s with
  | .fix ds => lcL T ds st
  | s => lcN s T (srcLen s st + 1) 0 st
theorem runL_N (s : Src) (T : D → Sto → R (Option D)) (st : Sto) : ∃ m, runL s T st = lcN s T m 0 st := by
  cases s with
  | fix ds => exact ⟨ds.length + 1, by rw [lcN_fix T ds ds.length 0 st (by omega)]; rfl⟩
  | cel n => exact ⟨_, rfl⟩
  | zip a b => exact ⟨_, rfl⟩
  | enm a => exact ⟨_, rfl⟩
/-- the list, as a tree or in a cell -/
def endL (cell : Bool) (ys : List D) (st : Sto) : R D := if ys.length ≤ lim then (if cell = true then .ok (.cel st.length) (st ++ [.lst ys]) else .ok (.lst ys) st) else .no
def fLc (cell : Bool) (src : FI) (h : FG) (t : FT) (e : FE) (vs : List Nat) : FE := fun ρ st => (src ρ st).bind fun s st1 => (runL s (turnL h t e vs ρ) st1).bind fun ys st2 => endL cell ys st2
theorem R.quiet_ok {α : Type} {r : R α} {a : α} {st : Sto} (h : r.quiet = .ok a st) : r = .ok a st := by
  cases r <;> first | exact h | cases h
theorem R.bind_eq_ok {α β : Type} {r : R α} {k : α → Sto → R β} {b : β} {st : Sto} (h : r.bind k = .ok b st) : ∃ a st1, r = .ok a st1 ∧ k a st1 = .ok b st := by
  cases r with
  | no => cases h
  | exc c x s => cases h
  | ok a st1 => exact ⟨a, st1, rfl, h⟩
theorem consO_len (o : Option D) (l : List D) : l.length ≤ (consO o l).length := by
  cases o with
  | none => exact Nat.le_refl _
  | some y => exact Nat.le_succ _
section
variable {X : Cx} {W : WX}
theorem sim_lc {cell : Bool} {wi : TI} {tg : TG} {tt : TT} {te : TE} {src : FI} {h : FG} {t : FT} {e : FE} {vs : List Nat} (h0 : SimI (gx X) W wi src) (h1 : SimV (gx X) vs tg h) (h2 : SimT (gx X) W0 tt t) (h3 : SimE (gx X) W0 te e) :
    SimE (gx X) W (tLc wi tg tt te vs) (fLc cell src h t e vs) := fun ρ σ st H C Q rs so q => by
  refine h0 ρ σ st H C _ rs so (q.bind.imp fun s st1 C1 H1 so1 e1 q1 J wk => ?_)
  have rs1 := rs.mono e1
  have tot : ∃ ys st2, runL s (turnL h t e vs ρ) st1 = .ok ys st2 := by
    cases z : runL s (turnL h t e vs ρ) st1 with
    | ok ys st2 => exact ⟨ys, st2, rfl⟩
    | no => rw [z] at q1; exact q1.elim
    | exc c x st2 =>
      exfalso
      obtain ⟨m, hm⟩ := runL_N s (turnL h t e vs ρ) st1
      rw [hm] at z
      have nx : ∀ (m i : Nat) (st : Sto), lcN s (turnL h t e vs ρ) m i st ≠ .exc c x st2 := by
        intro m
        induction m with
        | zero => intro i st z; cases z
        | succ m ih =>
          intro i st z
          rw [lcN] at z
          split at z
          · cases z
          · cases z
          · rename_i d _
            have tn : ∀ c x st', turnL h t e vs ρ d st ≠ .exc c x st' := by
              intro c x st' z
              unfold turnL at z
              cases a1 : h d (wipeE ρ vs) st with
              | no => rw [a1] at z; cases z
              | exc c x st => rw [a1] at z; cases z
              | ok ρ2 s2 =>
                rw [a1] at z
                simp only [R.quiet, R.bind_ok] at z
                cases a2 : t ρ2 s2 with
                | no => rw [a2] at z; cases z
                | exc c x st => rw [a2] at z; cases z
                | ok b s3 =>
                  rw [a2] at z
                  simp only [R.bind_ok] at z
                  split at z
                  · cases a3 : e ρ2 s3 with
                    | no => rw [a3] at z; cases z
                    | exc c x st => rw [a3] at z; cases z
                    | ok y s4 => rw [a3] at z; cases z
                  · cases z
            cases a1 : turnL h t e vs ρ d st with
            | no => rw [a1] at z; cases z
            | exc c x st => exact tn _ _ _ a1
            | ok o s1 =>
              rw [a1, R.bind_ok] at z
              cases a2 : lcN s (turnL h t e vs ρ) m (i + 1) s1 with
              | no => rw [a2] at z; cases z
              | exc c' x' st' => rw [a2] at z; cases z; exact ih _ _ a2
              | ok l s2 => rw [a2] at z; cases z
      exact nx m 0 st1 z
  obtain ⟨ysA, stA, hrun⟩ := tot
  rw [hrun, R.bind_ok] at q1
  unfold endL at q1
  split at q1
  case isFalse => exact q1.elim
  rename_i hlim
  obtain ⟨m0, hm0⟩ := runL_N s (turnL h t e vs ρ) st1
  rw [hm0] at hrun
  intro D hD
  let Wf : Nat → Nat → Hp → Prop := fun i m H => ∃ st C acc accD ys, StoOk X.K H (C.hide D) st ∧ Ext C1 H1 C H ∧ D ∉ C.c ∧ H D = some (.lst acc) ∧ Reps X.K H (C.hide D) acc accD ∧ (∀ ds, s = .fix ds → i ≤ ds.length) ∧ lcN s (turnL h t e vs ρ) m i st = .ok ys stA ∧ accD ++ ys = ysA
  have hDp : D ∉ C1.p := (so1.fresh hD).2
  refine ⟨Wf, ⟨m0, st1, C1, [], [], ysA, so1.hide hD, Ext.tree hD, (so1.fresh hD).1, upd_same, .nil, fun _ _ => Nat.zero_le _, hrun, rfl⟩, ?_⟩
  rintro i m H2 ⟨st2, C2, acc, accD, ys, so2, e2, hD2, hA, rA, hi, hl, hcat⟩
  have soS := so2.show
  cases m with
  | zero => cases hl
  | succ m =>
    rw [lcN] at hl
    split at hl
    · cases hl
    · rename_i hn
      cases hl
      have nw := wk _ C2 H2 soS e2.stay e2.frz i none hn
      refine .inl ⟨nw, ?_⟩
      rw [List.append_nil] at hcat
      subst hcat
      have rA' := rA.monoS Stay.show
      have hD3 : D ∉ C2.p := by rw [e2.priv]; exact hDp
      split at q1
      · have ex : Ext C1 H1 (C2.add D) H2 := ⟨e2.pre.trans (List.prefix_append _ _), e2.priv, fun a ha => by
          rcases List.mem_append.mp ha with z | z
          · exact e2.new a z
          · rw [List.mem_singleton.mp z]; exact .inr hD, e2.keep, e2.frz, e2.trk⟩
        refine q1 (C2.add D) H2 (so2.open hD2 hD3 hA rA) ex _ (.cel ?_)
        show (C2.c ++ [D])[stA.length]? = some D
        have l : C2.c.length = stA.length := so2.len
        rw [← l]; simp
      · exact q1 C2 H2 soS e2 _ (.lst hA ⟨hD2, hD3⟩ rA')
    · rename_i d hn
      have sH : Stay C1 H1 (C2.hide D) H2 := ⟨e2.pre, fun a ho hn => by
        have z := e2.stay.nt a ho hn
        refine ⟨z.1, fun hc => ?_⟩
        rcases List.mem_cons.mp hc with q | q
        · rw [q] at hn; exact hn hD
        · exact z.2 q, e2.stay.keep⟩
      obtain ⟨w1, w2⟩ := wk st2 (C2.hide D) H2 so2 sH e2.frz i (some d) hn
      obtain ⟨o, st3, hT, hl⟩ := R.bind_eq_ok hl
      obtain ⟨l, st4, hl', hfin⟩ := R.bind_eq_ok hl
      cases hfin
      have hi' : ∀ ds, s = .fix ds → i + 1 ≤ ds.length := fun ds es => by
        subst es
        have hn : some ds[i]? = some (some d) := hn
        exact (List.getElem?_eq_some_iff.mp (Option.some.inj hn)).1
      -- behind the turn
      have fin : ∀ (C6 : Ad) (H6 : Hp), StoOk X.K H6 C6 st3 → Ext (C2.hide D) H2 C6 H6 → H6 D = some (.lst acc) ∧ (o = none → Wf (i + 1) m H6) ∧ ∀ y v, o = some y → Rep X.K H6 C6 v y → acc.length < sizeLine ∧ Wf (i + 1) m (upd H6 D (.lst (acc ++ [v]))) := fun C6 H6 so6 e6 => by
        have hA6 : H6 D = some (.lst acc) := e6.keep _ _ hA hD2
        have ep : C6.p = D :: C2.p := e6.priv
        let C3 : Ad := ⟨C6.c, C2.p⟩
        have eC : C6 = C3.hide D := by
          show C6 = ⟨C6.c, D :: C2.p⟩
          rw [← ep]
        have e26 : Ext C2 H2 C3 H6 := ⟨e6.pre, rfl, e6.new, e6.keep, e6.frz, e6.trk⟩
        have e16 : Ext C1 H1 C3 H6 := e2.trans e26
        have hD6 : D ∉ C3.c := fun hc => by
          rcases e6.new D hc with z | z
          · exact hD2 z
          · rw [hA] at z; cases z
        have rA6 := rA.mono e6
        refine ⟨hA6, fun ho => ?_, fun y v ho rv => ?_⟩
        · subst ho
          exact ⟨st3, C3, acc, accD, l, eC ▸ so6, e16, hD6, hA6, eC ▸ rA6, hi', hl', hcat⟩
        · subst ho
          have hlen : acc.length = accD.length := rA.length
          have hc2 : accD ++ (y :: l) = ysA := hcat
          have hl2 : accD.length + (l.length + 1) ≤ lim := by
            rw [← hc2, List.length_append, List.length_cons] at hlim
            exact hlim
          refine ⟨?_, st3, C3, acc ++ [v], accD ++ [y], l, ?_, ?_, hD6, upd_same, ?_, hi', hl', ?_⟩
          · have hz : lim < sizeLine := by rw [sizeLine_eq]; decide
            omega
          · have hm : D ∈ C6.p := by rw [ep]; exact List.mem_cons_self
            exact eC ▸ so6.hid hm
          · refine ⟨e16.pre, e16.priv, e16.new, fun a u ha hc => ?_, fun a u ha hc => ?_, fun a u ha => ?_⟩
            · rw [upd_ne (ne_of_none ha hD)]; exact e16.keep a u ha hc
            · rw [upd_ne (ne_of_none ha hD)]; exact e16.frz a u ha hc
            · rw [upd_ne (ne_of_none ha hD)]; exact e16.trk a u ha
          · have hm : D ∈ C6.p := by rw [ep]; exact List.mem_cons_self
            exact eC ▸ (rA6.app (.cons rv .nil)).monoS (Stay.hid hm)
          · rw [List.append_assoc]; exact hc2
      refine .inr ⟨w1, fun H' => Wf (i + 1) m H', fun H' hw => ⟨m, Nat.lt_succ_self m, hw⟩, fun x H3 hy => ?_⟩
      obtain ⟨so3, e3, rx⟩ := w2 x H3 hy
      have rs3 : Rs X.K H3 (C2.hide D) (L2.wipe σ vs) (wipeE ρ vs) := ((rs1.wipe vs).monoS sH).mono e3
      unfold turnL at hT
      obtain ⟨ρ2, sa, hh, hT⟩ := R.bind_eq_ok hT
      obtain ⟨b, sb, ht, hT⟩ := R.bind_eq_ok hT
      have hh := R.quiet_ok hh
      have ht := R.quiet_ok ht
      refine h1 d x (wipeE ρ vs) (L2.wipe σ vs) st2 H3 (C2.hide D) _ rx rs3 so3 ?_
      rw [hh]
      intro C4 H4 so4 e4 σ4 rs4 w4
      refine ⟨w4.trans (wipe_idem σ vs), ?_⟩
      refine h2 ρ2 σ4 sa H4 C4 _ rs4 so4 ?_
      rw [ht]
      intro C5 H5 so5 e5
      cases b with
      | true =>
        rw [if_pos rfl] at hT
        obtain ⟨y, sc, he, hT⟩ := R.bind_eq_ok hT
        have he := R.quiet_ok he
        cases hT
        refine iteT (h3 ρ2 σ4 sb H5 C5 _ (rs4.mono e5) so5 ?_)
        rw [he]
        intro C6 H6 so6 e6 v rv
        obtain ⟨f1, _, f2⟩ := fin C6 H6 so6 (((e3.trans e4).trans e5).trans e6)
        obtain ⟨f3, f4⟩ := f2 y v rfl rv
        exact ⟨acc, f1, f3, f4⟩
      | false =>
        rw [if_neg Bool.false_ne_true] at hT
        cases hT
        exact iteF ((fin C5 H5 so5 ((e3.trans e4).trans e5)).2.1 rfl)
/-- [elt for tg in iter if ..] -/
theorem se_lc (cell : Bool) {elt tg iter : Expr} {ifs : List Expr} {scope : Scope} {own : List (Str × Nat)} {pos : Pos} {src : FI} {h : FG} {t : FT} {e : FE} (hc : X.calm = true) (hN : X.N.Nodup) (hi : SI X W tg iter src) (ok : BlkOk X.N X.env.scope scope own)
    (hg : ∀ (s : Shared) (H : Hp) (C : Addr) (cl : List (Str × Addr)) (fp : List Addr), SV (X.blk s H scope (compEnvC scope cl C X.env) fp) (own.map (·.2)) tg h)
    (ht : ∀ (s : Shared) (H : Hp) (C : Addr) (cl : List (Str × Addr)) (fp : List Addr), SPs (X.blk s H scope (compEnvC scope cl C X.env) fp) W0 ifs t)
    (he : ∀ (s : Shared) (H : Hp) (C : Addr) (cl : List (Str × Addr)) (fp : List Addr), SE (X.blk s H scope (compEnvC scope cl C X.env) fp) W0 elt e) (hs : ∀ x, foldedSetIterable iter X.env x = pure x := by intro _; rfl) :
    SE X W (.ListComp elt [⟨tg, iter, ifs, 0⟩] scope pos) (fLc cell src h t e (own.map (·.2))) := by
  obtain ⟨wi, p0, s0⟩ := hi
  exact ⟨_, pe_lc (g := TGf (gx X) (own.map (·.2)) h) (tt := TTf (gx X) W0 t) (te := TEf (gx X) W0 e) hc hN p0 ok (fun s H C cl fp => (hg s H C cl fp).can) (fun s H C cl fp => (ht s H C cl fp).can) (fun s H C cl fp => (he s H C cl fp).can) hs,
    sim_lc s0 (fun d v ρ σ st H C Q rv rs so q => ⟨d, ρ, st, C, rv, rs, so, q⟩) (fun ρ σ st H C Q rs so q => ⟨ρ, st, C, rs, so, q⟩) (fun ρ σ st H C Q rs so q => ⟨ρ, st, C, rs, so, q⟩)⟩
/-- name = [..] -/
theorem ss_setLc (cell : Bool) {i : Nat} {y : Str} {py : Pos} {elt tg iter : Expr} {ifs : List Expr} {scope : Scope} {own : List (Str × Nat)} {pos spos : Pos} {src : FI} {h : FG} {t : FT} {e : FE} (hc : X.calm = true) (hN : X.N.Nodup)
    (hi : SI X W tg iter src) (ok : BlkOk X.N X.env.scope scope own)
    (hg : ∀ (s : Shared) (H : Hp) (C : Addr) (cl : List (Str × Addr)) (fp : List Addr), SV (X.blk s H scope (compEnvC scope cl C X.env) fp) (own.map (·.2)) tg h)
    (ht : ∀ (s : Shared) (H : Hp) (C : Addr) (cl : List (Str × Addr)) (fp : List Addr), SPs (X.blk s H scope (compEnvC scope cl C X.env) fp) W0 ifs t)
    (he : ∀ (s : Shared) (H : Hp) (C : Addr) (cl : List (Str × Addr)) (fp : List Addr), SE (X.blk s H scope (compEnvC scope cl C X.env) fp) W0 elt e)
    (hsw : swapsWith (.ListComp elt [⟨tg, iter, ifs, 0⟩] scope pos) (some (.Name y py)) spos.line X.env = pure true := by exact sw_true rfl rfl rfl (by decide +kernel)) (hs : ∀ x, foldedSetIterable iter X.env x = pure x := by intro _; rfl)
    (hy : X.N[i]? = some y := by rfl) (hyl : X.env.scope.names.lookup y = some .local := by rfl) :
    SS X W (.Assign [.Name y py] (.ListComp elt [⟨tg, iter, ifs, 0⟩] scope pos) spos) (fAsg (fLc cell src h t e (own.map (·.2))) (hName i)) := by
  obtain ⟨wi, p0, s0⟩ := hi
  exact ⟨_, ps_setLc (g := TGf (gx X) (own.map (·.2)) h) (tt := TTf (gx X) W0 t) (te := TEf (gx X) W0 e) hc hN hy hyl hsw p0 ok (fun s H C cl fp => (hg s H C cl fp).can) (fun s H C cl fp => (ht s H C cl fp).can) (fun s H C cl fp => (he s H C cl fp).can) hs,
    sim_asg (sim_lc s0 (fun d v ρ σ st H C Q rv rs so q => ⟨d, ρ, st, C, rv, rs, so, q⟩) (fun ρ σ st H C Q rs so q => ⟨ρ, st, C, rs, so, q⟩) (fun ρ σ st H C Q rs so q => ⟨ρ, st, C, rs, so, q⟩))
      fun d v ρ σ st H C Q rv rs so q => q.here so _ (rs.set rv)⟩
end
end FL

/-! FLk: defs: what a body's store leaves (cells that nobody holds any more become trees), the promise, the calls -/
namespace FL
open PySem PySem.Spec PyProof.Rows L2

/-! ### closed data: all cells below n -/
mutual
inductive Cl (n : Nat) : D → Prop
  | non : Cl n .non
  | bl (b : Bool) : Cl n (.bl b)
  | int (i : Int) : Cl n (.int i)
  | str (s : List Nat) : Cl n (.str s)
  | val (v : V) : Cl n (.val v)
  | ty (t : Ty) : Cl n (.ty t)
  | lst {ds : List D} : Cls n ds → Cl n (.lst ds)
  | tup {ds : List D} : Cls n ds → Cl n (.tup ds)
  | ro {ds : List D} : Cls n ds → Cl n (.ro ds)
  | dct {es : List (D × D)} : Clk n es → Cl n (.dct es)
  | cel {k : Nat} : k < n → Cl n (.cel k)
inductive Cls (n : Nat) : List D → Prop
  | nil : Cls n []
  | cons {d : D} {ds : List D} : Cl n d → Cls n ds → Cls n (d :: ds)
inductive Clk (n : Nat) : List (D × D) → Prop
  | nil : Clk n []
  | cons {q d : D} {es : List (D × D)} : Cl n d → Clk n es → Clk n ((q, d) :: es)
end
section
variable {K : PySem.W.Frag} {H : Hp} {C : Ad}
mutual
theorem Rep.cl : ∀ {d : D} {v : V}, Rep K H C v d → Cl C.c.length d
  | .non, _, _ => .non
  | .bl b, _, _ => .bl b
  | .int i, _, _ => .int i
  | .str s, _, _ => .str s
  | .val v, _, _ => .val v
  | .ty t, _, _ => .ty t
  | .lst ds, _, h => by
    cases h with
    | lst _ _ r => exact .lst (Reps.cl r)
  | .tup ds, _, h => by
    cases h with
    | tup _ _ r => exact .tup (Reps.cl r)
  | .ro ds, _, h => by
    cases h with
    | ro _ _ _ r => exact .ro (Reps.cl r)
    | roK _ r => exact .ro (Reps.cl r)
  | .dct es, _, h => by
    cases h with
    | dct _ _ _ r => exact .dct (RepKs.cl r)
  | .cel k, _, h => by
    cases h with
    | cel e => exact .cel (List.getElem?_eq_some_iff.mp e).1
theorem Reps.cl : ∀ {ds : List D} {vs : List V}, Reps K H C vs ds → Cls C.c.length ds
  | [], _, _ => .nil
  | d :: ds, _, h => by
    cases h with
    | cons h1 h2 => exact .cons (Rep.cl h1) (Reps.cl h2)
theorem RepKs.cl : ∀ {es : List (D × D)} {kvs : List (Key × V)}, RepKs K H C kvs es → Clk C.c.length es
  | [], _, _ => .nil
  | (q, d) :: es, _, h => by
    cases h with
    | cons h0 h1 h2 => exact .cons (Rep.cl h1) (RepKs.cl h2)
end
end

/-! ### cells become trees -/
mutual
/-- in the store st the data d is, with the cells from n on opened, e -/
inductive Rsv (st : Sto) (n : Nat) : D → D → Prop
  | same {d : D} : Cl n d → Rsv st n d d
  | lst {ds es : List D} : Rsvs st n ds es → Rsv st n (.lst ds) (.lst es)
  | tup {ds es : List D} : Rsvs st n ds es → Rsv st n (.tup ds) (.tup es)
  | dct {ds es : List (D × D)} : Rsvk st n ds es → Rsv st n (.dct ds) (.dct es)
  | cell {k : Nat} {ds es : List D} : n ≤ k → st[k]? = some (.lst ds) → Rsvs st n ds es → Rsv st n (.cel k) (.lst es)
  | celd {k : Nat} {ds es : List (D × D)} : n ≤ k → st[k]? = some (.dct ds) → Rsvk st n ds es → Rsv st n (.cel k) (.dct es)
inductive Rsvs (st : Sto) (n : Nat) : List D → List D → Prop
  | nil : Rsvs st n [] []
  | cons {d e : D} {ds es : List D} : Rsv st n d e → Rsvs st n ds es → Rsvs st n (d :: ds) (e :: es)
inductive Rsvk (st : Sto) (n : Nat) : List (D × D) → List (D × D) → Prop
  | nil : Rsvk st n [] []
  | cons {q d e : D} {ds es : List (D × D)} : Rsv st n d e → Rsvk st n ds es → Rsvk st n ((q, d) :: ds) ((q, e) :: es)
end
def RsvC (st : Sto) (n : Nat) : Co → Co → Prop
  | .lst ds, .lst es => Rsvs st n ds es
  | .dct ds, .dct es => Rsvk st n ds es
  | .lck ds, .lck es => Rsvk st n ds es
  | _, _ => False
section
variable {K : PySem.W.Frag} {H : Hp} {C : Ad} {st : Sto} {n : Nat}
/-- the first n cells alone -/
def Ad.cut (C : Ad) (n : Nat) : Ad := ⟨C.c.take n, C.p⟩
theorem Ad.cut_out {a : Addr} (h : C.out a) : (C.cut n).out a := ⟨fun q => h.1 (List.mem_of_mem_take q), h.2⟩
mutual
theorem Rep.shrink : ∀ {d : D} {v : V}, Rep K H C v d → Cl n d → Rep K H (C.cut n) v d
  | .non, _, h, _ => by cases h; exact .non
  | .bl b, _, h, _ => by cases h; exact .bl b
  | .int i, _, h, _ => by cases h; exact .int i
  | .str s, _, h, _ => by cases h; exact .str s
  | .val v, _, h, _ => by cases h; exact .val v
  | .ty t, _, h, _ => by cases h; exact .ty t
  | .lst ds, _, h, c => by
    cases h with
    | lst h1 h2 r =>
      cases c with
      | lst c => exact .lst h1 (Ad.cut_out h2) (Reps.shrink r c)
  | .tup ds, _, h, c => by
    cases h with
    | tup h1 h2 r =>
      cases c with
      | tup c => exact .tup h1 (Ad.cut_out h2) (Reps.shrink r c)
  | .ro ds, _, h, c => by
    cases c with
    | ro c =>
      cases h with
      | ro h1 h2 h3 r => exact .ro h1 h2 (Ad.cut_out h3) (Reps.shrink r c)
      | roK h1 r => exact .roK h1 (Reps.shrink r c)
  | .dct es, _, h, c => by
    cases h with
    | dct h1 h2 h3 r =>
      cases c with
      | dct c => exact .dct h1 h2 (Ad.cut_out h3) (RepKs.shrink r c)
  | .cel k, _, h, c => by
    cases h with
    | cel e =>
      cases c with
      | cel c =>
        refine .cel ?_
        show (C.c.take n)[k]? = some _
        rw [List.getElem?_take_of_lt c]
        exact e
theorem Reps.shrink : ∀ {ds : List D} {vs : List V}, Reps K H C vs ds → Cls n ds → Reps K H (C.cut n) vs ds
  | [], _, h, _ => by cases h; exact .nil
  | d :: ds, _, h, c => by
    cases h with
    | cons h1 h2 =>
      cases c with
      | cons c1 c2 => exact .cons (Rep.shrink h1 c1) (Reps.shrink h2 c2)
theorem RepKs.shrink : ∀ {es : List (D × D)} {kvs : List (Key × V)}, RepKs K H C kvs es → Clk n es → RepKs K H (C.cut n) kvs es
  | [], _, h, _ => by cases h; exact .nil
  | (q, d) :: es, _, h, c => by
    cases h with
    | cons h0 h1 h2 =>
      cases c with
      | cons c1 c2 => exact .cons h0 (Rep.shrink h1 c1) (RepKs.shrink h2 c2)
end
theorem cut_not (so : StoOk K H C st) {k : Nat} {a : Addr} (h : C.c[k]? = some a) (hk : n ≤ k) : (C.cut n).out a := by
  refine ⟨fun q => ?_, fun q => so.ap a q (List.mem_of_getElem? h)⟩
  obtain ⟨j, hj, e⟩ := List.mem_iff_getElem.mp (show a ∈ C.c.take n from q)
  have hl : j < n := Nat.lt_of_lt_of_le hj (List.length_take_le _ _)
  have e1 : C.c[j]? = some a := by
    rw [← List.getElem?_take_of_lt hl, List.getElem?_eq_getElem hj, e]
  have := nodup_at so.nd e1 h
  omega
mutual
theorem Rsv.rep (so : StoOk K H C st) : ∀ {d e : D} {v : V}, Rsv st n d e → Rep K H C v d → Rep K H (C.cut n) v e
  | _, _, _, .same c, r => r.shrink c
  | _, _, _, .lst q, r => by
    cases r with
    | lst h1 h2 r => exact .lst h1 (Ad.cut_out h2) (Rsvs.rep so q r)
  | _, _, _, .tup q, r => by
    cases r with
    | tup h1 h2 r => exact .tup h1 (Ad.cut_out h2) (Rsvs.rep so q r)
  | _, _, _, .dct q, r => by
    cases r with
    | dct h1 h2 h3 r => exact .dct h1 h2 (Ad.cut_out h3) (Rsvk.rep so q r)
  | _, _, _, .cell hk hs q, r => by
    cases r with
    | cel e =>
      obtain ⟨xs, h1, h2⟩ := so.ok _ _ _ e hs
      exact .lst h1 (cut_not so e hk) (Rsvs.rep so q h2)
  | _, _, _, .celd hk hs q, r => by
    cases r with
    | cel e =>
      obtain ⟨xs, h1, h2⟩ := so.ok _ _ _ e hs
      exact .dct h1 (.inl rfl) (cut_not so e hk) (Rsvk.rep so q h2)
theorem Rsvs.rep (so : StoOk K H C st) : ∀ {ds es : List D} {vs : List V}, Rsvs st n ds es → Reps K H C vs ds → Reps K H (C.cut n) vs es
  | _, _, _, .nil, r => by cases r; exact .nil
  | _, _, _, .cons q1 q2, r => by
    cases r with
    | cons r1 r2 => exact .cons (Rsv.rep so q1 r1) (Rsvs.rep so q2 r2)
theorem Rsvk.rep (so : StoOk K H C st) : ∀ {ds es : List (D × D)} {kvs : List (Key × V)}, Rsvk st n ds es → RepKs K H C kvs ds → RepKs K H (C.cut n) kvs es
  | _, _, _, .nil, r => by cases r; exact .nil
  | _, _, _, .cons q1 q2, r => by
    cases r with
    | cons r0 r1 r2 => exact .cons r0 (Rsv.rep so q1 r1) (Rsvk.rep so q2 r2)
end
end
/-- behind a body: the store st' with the answer d' is, for whoever held the store st, the store st2 with the answer d -/
def Fz (st st' : Sto) (d' : D) (st2 : Sto) (d : D) : Prop := ∀ (K : PySem.W.Frag) (H : Hp) (C : Ad) (H' : Hp) (C' : Ad), StoOk K H C st → StoOk K H' C' st' → Ext C H C' H' →
  ∃ C2, StoOk K H' C2 st2 ∧ Ext C H C2 H' ∧ ∀ v, Rep K H' C' v d' → Rep K H' C2 v d
theorem Fz.same {st st' : Sto} {d : D} : Fz st st' d st' d := fun K H C H' C' s1 s2 e => ⟨C', s2, e, fun _ r => r⟩
theorem Fz.of {st st' st2 : Sto} {d' d : D} (hl : st2.length = st.length)
    (ho : ∀ i : Nat, i < st.length → (st'[i]? = st[i]? ∧ st2[i]? = st[i]?) ∨ ∃ o o2, st'[i]? = some o ∧ st2[i]? = some o2 ∧ RsvC st' st.length o o2) (hd : Rsv st' st.length d' d) : Fz st st' d' st2 d := fun K H C H' C' s1 s2 e => by
  have hc : C'.cut st.length = C := by
    obtain ⟨t, ht⟩ := e.pre
    have l := s1.len
    show (⟨C'.c.take st.length, C'.p⟩ : Ad) = C
    rw [← ht, e.priv, List.take_append_of_le_length (by omega), List.take_of_length_le (by omega)]
  refine ⟨C, ?_, ⟨List.prefix_rfl, rfl, fun _ h => .inl h, e.keep, e.frz, e.trk⟩, fun v r => hc ▸ hd.rep s2 r⟩
  refine ⟨s1.len.trans hl.symm, s1.nd, fun i a o h1 h2 => ?_, fun a ha => by rw [← e.priv] at ha; exact s2.pt a ha, s1.ap⟩
  have hi : i < st.length := by rw [← s1.len]; exact (List.getElem?_eq_some_iff.mp h1).1
  have h1' := e.get h1
  rcases ho i hi with ⟨q1, q2⟩ | ⟨o1, o2, q1, q2, q3⟩
  · rw [q2] at h2
    have k1 := s1.ok i a o h1 h2
    have k2 := s2.ok i a o h1' (by rw [q1]; exact h2)
    have l := s1.len
    cases o with
    | lst ds =>
      obtain ⟨xs, a1, a2⟩ := k1
      obtain ⟨ys, b1, b2⟩ := k2
      have c := a2.cl
      rw [l] at c
      exact ⟨ys, b1, hc ▸ b2.shrink c⟩
    | dct ds =>
      obtain ⟨xs, a1, a2⟩ := k1
      obtain ⟨ys, b1, b2⟩ := k2
      have c := a2.cl
      rw [l] at c
      exact ⟨ys, b1, hc ▸ b2.shrink c⟩
    | lck ds =>
      obtain ⟨_, xs, a1, a2⟩ := k1
      obtain ⟨ob, ys, b1, b2⟩ := k2
      have c := a2.cl
      rw [l] at c
      exact ⟨ob, ys, b1, hc ▸ b2.shrink c⟩
  · rw [q2] at h2
    cases h2
    have k2 := s2.ok i a o1 h1' q1
    cases o1 <;> cases o <;> first
      | exact q3.elim
      | skip
    · obtain ⟨ys, b1, b2⟩ := k2
      exact ⟨ys, b1, hc ▸ Rsvs.rep s2 q3 b2⟩
    · obtain ⟨ys, b1, b2⟩ := k2
      exact ⟨ys, b1, hc ▸ Rsvk.rep s2 q3 b2⟩
    · obtain ⟨ob, ys, b1, b2⟩ := k2
      exact ⟨ob, ys, b1, hc ▸ Rsvk.rep s2 q3 b2⟩
/-- nothing that was held is changed -/
theorem Fz.junk {st junk : Sto} {d' d : D} (hd : Rsv (st ++ junk) st.length d' d) : Fz st (st ++ junk) d' st d := Fz.of rfl (fun i hi => .inl ⟨List.getElem?_append_left hi, rfl⟩) hd

/-! ### defs -/
def startE (N : List Str) (ds : List D) : En := ds.map some ++ List.replicate (N.length - ds.length) none
/-- the clean function F is what the body fb does -/
def Clean (N : List Str) (np : Nat) (fb : FS) (F : F1) : Prop := ∀ (ds : List D) (st : Sto), match F ds st with
  | .no => True
  | .ok d st2 => ds.length = np ∧ ((∃ d' st', fb (startE N ds) st = .rt d' st' ∧ Fz st st' d' st2 d) ∨ ∃ ρ' st', fb (startE N ds) st = .nx ρ' st' ∧ Fz st st' .non st2 d)
  | .exc c x st2 => ds.length = np ∧ ∃ x' ρ' st', fb (startE N ds) st = .exc c x' ρ' st' ∧ Fz st st' x' st2 x
/-- the promise of a clean function -/
def spF (g : Gx) (np : Nat) (F : F1) : Sp := fun vs H Q E => ∃ ds st C, Reps g.K H C vs ds ∧ ds.length = np ∧ StoOk g.K H C st ∧ After g E C H (F ds st) fun d _ C' H' => ∀ v, Rep g.K H' C' v d → Q v H'
structure DefC (P : Program) (w : World) (K : PySem.W.Frag) (mg : Str → Option Value) (base : Heap) (CX : CXT) (k : Nat) (st : Stmt) (x : Str) (ps : List Str) (F : F1) : Prop where
  ex : ∃ f fd, mg x = some (.ref f) ∧ FunD K x x (defArgs st) (defBody st) (defScope st) [] [] f fd ∧ Binds K fd ps [] ∧ FnG P w K mg base CX k f fd ps (spF ⟨K, mg⟩ ps.length F)
section
variable {P : Program} {w : World} {K : PySem.W.Frag} {mg : Str → Option Value} {base : Heap} {CX : CXT} {k : Nat} {s : Stmt} {x : Str} {ps N : List Str} {F : F1} {fb : FS}
theorem DefC.mono {j : Nat} (d : DefC P w K mg base CX k s x ps F) (h : k ≤ j) : DefC P w K mg base CX j s x ps F := by
  obtain ⟨f, fd, a, b, c, e⟩ := d
  exact ⟨f, fd, a, b, c, e.mono h⟩
/-- a function that says less -/
theorem DefC.less {G : F1} (d : DefC P w K mg base CX k s x ps F) (h : ∀ ds st, G ds st = .no ∨ G ds st = F ds st) : DefC P w K mg base CX k s x ps G := by
  obtain ⟨f, fd, a, b, c, e⟩ := d
  refine ⟨f, fd, a, b, c, e.imp fun vs H Q E ⟨ds, st, C, r, l, so, q⟩ => ⟨ds, st, C, r, l, so, ?_⟩⟩
  rcases h ds st with z | z
  · rw [z] at q; exact q.elim
  · rw [z] at q; exact q
theorem startE_rs {H : Hp} {C : Ad} {vs : List V} {ds : List D} (r : Reps K H C vs ds) : Rs K H C (L2.start N vs) (startE N ds) := by
  unfold L2.start startE
  refine ⟨by simp [r.length], fun i d h => ?_⟩
  by_cases hi : i < ds.length
  · rw [List.getElem?_append_left (by simpa using hi), List.getElem?_map] at h
    cases e : ds[i]? with
    | none => rw [e] at h; cases h
    | some d' =>
      rw [e] at h
      cases h
      obtain ⟨v, h1, h2⟩ := r.get e
      have hv : i < vs.length := (List.getElem?_eq_some_iff.mp h1).1
      exact ⟨v, by rw [List.getElem?_append_left (by simpa using hv), List.getElem?_map, h1]; rfl, h2⟩
  · rw [List.getElem?_append_right (by simpa using hi), List.getElem?_replicate] at h
    split at h <;> cases h
theorem spF_run {g : Gx} {t : TS} {W : WX} {E : XK} {vs : List V} {H : Hp} {Q : VK} {np : Nat} (cl : Clean N np fb F) (hs : SimS g W t fb) (hW : ∀ c d σ H, E c d H → W c d σ H) (h : spF g np F vs H Q E) : t { nx := fun _ H' => Q .non H', rt := Q } (L2.start N vs) H := by
  obtain ⟨ds, st, C, r, l, so, q⟩ := h
  refine hs (startE N ds) (L2.start N vs) st H C _ (startE_rs r) so ?_
  have c := cl ds st
  cases e : F ds st with
  | no => rw [e] at q; exact q.elim
  | ok d st2 =>
    rw [e] at q c
    obtain ⟨_, ⟨d', st', hb, fz⟩ | ⟨ρ', st', hb, fz⟩⟩ := c
    · rw [hb]
      intro C' H' v so' e' rv
      obtain ⟨C2, s2, e2, k2⟩ := fz _ _ _ _ _ so so' e'
      exact q C2 H' s2 e2 v (k2 v rv)
    · rw [hb]
      intro C' H' σ' so' e' rs'
      obtain ⟨C2, s2, e2, k2⟩ := fz _ _ _ _ _ so so' e'
      exact q C2 H' s2 e2 .non (k2 .non .non)
  | exc ec x st2 =>
    rw [e] at q c
    obtain ⟨_, x', ρ', st', hb, fz⟩ := c
    rw [hb]
    intro C' H' σ' cls dd so' e' rs' ⟨m, d, v, e1, e2, rv⟩
    obtain ⟨C2, s2, e3, k2⟩ := fz _ _ _ _ _ so so' e'
    exact hW _ _ _ _ (q C2 H' cls dd s2 e3 ⟨m, d, v, e1, e2, k2 v rv⟩)
/-- a def that lets nothing out -/
theorem DefC.mk0 {f : Addr} {fd : FuncData} (FD : FunD K x x (defArgs s) (defBody s) (defScope s) [] [] f fd) (hm : mg x = some (.ref f)) (S : FnScope N ps (defScope s)) (b : Binds K fd ps []) (cl : Clean N ps.length fb F) (nx : NoX1 F)
    (hb : ∀ (cdv : Value) (A : Around) (outer : List Env) (sh : Shared) (H : Hp) (E : XK), RoomG base k (A.deeper (envOfC x (defScope s) sh.heap.objs.size f cdv)) →
      SSs (cxOf CX0 P w K mg base N x (defScope s) f cdv A outer sh H E).nox W0 (defBody s) fb) : DefC P w K mg base CX0 (k + 1) s x ps F := by
  refine ⟨f, fd, hm, FD, b, okG FD S (fun vs H Q E ⟨ds, st, C, r, l, _⟩ => by rw [r.length, l]) fun cdv A outer sh H vs Q E hr h => ?_⟩
  obtain ⟨t, p, q⟩ := hb cdv A outer sh H E hr
  refine ⟨t, p.nox, ?_⟩
  obtain ⟨ds, st, C, r, l, so, q2⟩ := h
  exact spF_run (g := ⟨K, mg⟩) (E := fun _ _ _ => False) cl q (fun _ _ _ _ z => z) ⟨ds, st, C, r, l, so, q2.nox fun c x st2 => nx ds st c x st2⟩
/-- a def that may raise -/
theorem DefC.mkX {f : Addr} {fd : FuncData} (FD : FunD K x x (defArgs s) (defBody s) (defScope s) [] [] f fd) (hm : mg x = some (.ref f)) (S : FnScope N ps (defScope s)) (b : Binds K fd ps []) (cl : Clean N ps.length fb F)
    (hb : ∀ (cdv : Value) (A : Around) (outer : List Env) (sh : Shared) (H : Hp) (E : XK), RoomG base k (A.deeper (envOfC x (defScope s) sh.heap.objs.size f cdv)) →
      SSs (cxOf (L2.CX P w) P w K mg base N x (defScope s) f cdv A outer sh H E) (fun c d _ H' => E c d H') (defBody s) fb) : DefC P w K mg base (L2.CX P w) (k + 1) s x ps F := by
  refine ⟨f, fd, hm, FD, b, okG FD S (fun vs H Q E ⟨ds, st, C, r, l, _⟩ => by rw [r.length, l]) fun cdv A outer sh H vs Q E hr h => ?_⟩
  obtain ⟨t, p, q⟩ := hb cdv A outer sh H E hr
  exact ⟨t, p, spF_run (g := ⟨K, mg⟩) cl q (fun _ _ _ _ z => z) h⟩
end

/-! ### calls -/
/-- what is let out may be wished for -/
def Pass (CX : CXT) (X : Cx) (W : WX) : Prop := ∀ σ, PassesAt CX X σ (WE W σ)
theorem pass_0 {X : Cx} {W : WX} : Pass CX0 X W := fun _ _ _ _ _ _ _ h => h.elim
theorem pass_X {X : Cx} {W : WX} (tk : Takes X W) : Pass (L2.CX X.prog X.w) X W := fun σ => passAt tk σ
section
variable {X : Cx} {W : WX} {CX : CXT} {k : Nat} {s : Stmt} {x : Str} {ps : List Str} {F : F1} {e : Expr} {es : List Expr} {fa : FA} {pos p : Pos}
theorem sim_call {t : TA} (ha : SimA (gx X) W t fa) : SimE (gx X) W (tCallSD (spF (gx X) ps.length F) [] (WE W) t) (fCB (fun ds st => if ds.length = ps.length then F ds st else .no) fa) := fun ρ σ st H C Q rs so q => by
  refine ha ρ σ st H C _ rs so (q.bind.imp fun ds st1 C1 H1 so1 e1 h1 vs rv => ?_)
  have h1 : After (gx X) _ C1 H1 (if ds.length = ps.length then F ds st1 else .no) _ := h1
  split at h1
  · rename_i hl
    exact ⟨ds, st1, C1, by rw [List.append_nil]; exact rv, hl, so1, h1⟩
  · exact h1.elim
def fCall (n : Nat) (F : F1) (fa : FA) : FE := fCB (fun ds st => if ds.length = n then F ds st else .no) fa
theorem runG_wp {f : Addr} {fd : FuncData} {sp : Sp} {E : XK} {pins : List (Addr × Obj)} {σ : L2.St} {H : Hp} {sh : Shared} {Q : VK} {us : List Value} {vs : List V} (F : FnG X.prog X.w X.K X.mg X.base CX k f fd ps sp) (hr : RoomG X.base k X.A) (hb : Binds X.K fd ps []) (hx : PassesAt CX X σ E)
    (I : Inv X pins σ H sh) (rel : Vals vs us) (h : sp (vs ++ []) H Q E) : wpAny (model X.prog X.w) X.A (PySem.call (.ref f) us) (EP X pins σ Q) X.xe sh := by
  rw [List.append_nil] at h
  have bnd := hb sh us I.kIn (by rw [List.append_nil, ← rel.length]; exact F.len _ _ _ _ h)
  rw [List.append_nil] at bnd
  refine wpAny_call (codeAny_mono (runG F hr bnd hx I rel h) fun r s' z => ?_)
  match r, z with
  | .error e, z => exact z
  | .ok (.ret u), z => exact z
theorem pe_callG {f : Addr} {fd : FuncData} {sp : Sp} {E : L2.St → XK} {t : TA} (F : FnG X.prog X.w X.K X.mg X.base CX k f fd ps sp) (hr : RoomG X.base k X.A) (hg : Gl X x) (hm : X.mg x = some (.ref f)) (hk : PySem.W.keepIn X.K (.ref f) = true) (hb : Binds X.K fd ps []) (hx : ∀ σ, PassesAt CX X σ (E σ))
    (ha : PA X (e :: es) t) (hdb : (x == ("__debug__" : Str)) = false) (he : starEach (e :: es) X.env = (false, eval e X.env) :: starEach es X.env) (hpl : (backTo pos (starEach es X.env)).any (·.1) = false) : PE X (.Call (.Name x p) (e :: es) [] pos) (tCallSD sp [] E t) := by
  constructor
  intro pins sh σ H Q I h
  apply wpAny_Call_Name_kw (ld_glob I hg hm ?_ hdb)
  apply PySem.W.callWith_K (h₀ := X.base) I.ok.mod.kin hk ?_ he hpl
  apply thn (ha.run pos pins sh σ H _ I h)
  rintro us s1 ⟨vs, H1, I1, r, q⟩
  exact ⟨I1.kIn, runG_wp F hr hb (hx σ) I1 r q⟩
theorem se_call (D : DefC X.prog X.w X.K X.mg X.base CX k s x ps F) (hr : RoomG X.base k X.A) (hx : Pass CX X W) (ha : SA X W (e :: es) fa) (hg : Gl X x := by rfl) (hdb : (x == ("__debug__" : Str)) = false := by decide)
    (he : starEach (e :: es) X.env = (false, eval e X.env) :: starEach es X.env := by rfl) (hpl : (backTo pos (starEach es X.env)).any (·.1) = false := by rfl) : SE X W (.Call (.Name x p) (e :: es) [] pos) (fCall ps.length F fa) := by
  obtain ⟨f, fd, hm, FD, b, O⟩ := D
  obtain ⟨t, pa, sa⟩ := ha
  exact ⟨_, pe_callG O hr hg hm FD.kp b hx pa hdb he hpl, sim_call sa⟩
/-- f() -/
theorem pe_callSD0 {f : Addr} {fd : FuncData} {sp : Sp} {E : L2.St → XK} (F : FnG X.prog X.w X.K X.mg X.base CX k f fd ps sp) (hr : RoomG X.base k X.A) (hg : Gl X x) (hm : X.mg x = some (.ref f)) (hk : PySem.W.keepIn X.K (.ref f) = true) (hb : Binds X.K fd ps []) (hx : ∀ σ, PassesAt CX X σ (E σ))
    (hdb : (x == ("__debug__" : Str)) = false := by decide) : PE X (.Call (.Name x p) [] [] pos) (tCallSD sp [] E tNil) := by
  refine ⟨fun pins s σ H Q I h => ?_⟩
  refine wpAny_Call_Name_kw (ld_glob I hg hm ?_ hdb)
  exact PySem.W.callWith_K0 I.kIn hk (runG_wp F hr hb (hx σ) I .nil h)
theorem se_call0 (D : DefC X.prog X.w X.K X.mg X.base CX k s x ps F) (hr : RoomG X.base k X.A) (hx : Pass CX X W) (hg : Gl X x := by rfl) (hdb : (x == ("__debug__" : Str)) = false := by decide) : SE X W (.Call (.Name x p) [] [] pos) (fCall ps.length F faNil) := by
  obtain ⟨f, fd, hm, FD, b, O⟩ := D
  exact ⟨_, pe_callSD0 O hr hg hm FD.kp b hx hdb, sim_call fun ρ σ st H C Q rs so h => h.here so [] .nil⟩

/-! ### f(k = v, ..): keywords alone -/
structure SK (X : Cx) (W : WX) (kws : List Keyword) (f : FA) : Prop where
  ex : ∃ t, PK X kws t ∧ SimA (gx X) W t f
theorem sk_nil : SK X W [] faNil := ⟨tNil, pk_nil, fun ρ σ st H C Q rs so h => h.here so [] .nil⟩
theorem sk_cons {nm : Option Str} {kpos : Pos} {kws : List Keyword} {f : FE} {r : FA} (he : SE X W e f) (hr : SK X W kws r) : SK X W (⟨nm, e, kpos⟩ :: kws) (faCons f r) := by
  obtain ⟨te, pe, se⟩ := he
  obtain ⟨ta, pa, sa⟩ := hr
  refine ⟨tCons te ta, pk_cons pe pa, fun ρ σ st H C Q rs so h => ?_⟩
  refine se ρ σ st H C _ rs so (h.bind.imp fun d st1 C1 H1 so1 e1 h1 v rv => ?_)
  refine sa ρ σ st1 H1 C1 _ (rs.mono e1) so1 (h1.bind.imp fun ds st2 C2 H2 so2 e2 h2 vs rvs => ?_)
  exact h2.here so2 _ (.cons (rv.mono e2) rvs)
/-- the values in the order of the places ix -/
def pick {α : Type} (ix : List Nat) (l : List α) : List α := ix.filterMap fun i => l[i]?
theorem pick_rel {ix : List Nat} {vs : List V} {us : List Value} (r : Vals vs us) : Vals (pick ix vs) (pick ix us) := by
  unfold pick
  induction ix with
  | nil => exact .nil
  | cons i ix ih =>
    cases e : vs[i]? with
    | none =>
      have e2 := r.none_of e
      rw [List.filterMap_cons_none e, List.filterMap_cons_none e2]
      exact ih
    | some v =>
      obtain ⟨u, e2, q⟩ := r.get e
      rw [List.filterMap_cons_some e, List.filterMap_cons_some e2]
      exact .cons q ih
theorem pick_reps {K : PySem.W.Frag} {H : Hp} {C : Ad} {ix : List Nat} {vs : List V} {ds : List D} (r : Reps K H C vs ds) : Reps K H C (pick ix vs) (pick ix ds) := by
  unfold pick
  induction ix with
  | nil => exact .nil
  | cons i ix ih =>
    cases e : ds[i]? with
    | none =>
      have e2 : vs[i]? = none := by
        have := List.getElem?_eq_none_iff.mp e
        exact List.getElem?_eq_none_iff.mpr (by rw [r.length]; exact this)
      rw [List.filterMap_cons_none e, List.filterMap_cons_none e2]
      exact ih
    | some v =>
      obtain ⟨u, e2, q⟩ := r.get e
      rw [List.filterMap_cons_some e, List.filterMap_cons_some e2]
      exact .cons q ih
theorem pick_len {α : Type} {ix : List Nat} {n : Nat} {l : List α} (h : (ix.length == n && ix.all fun i => decide (i < n)) = true) (hl : l.length = n) : (pick ix l).length = n := by
  rw [Bool.and_eq_true, beq_iff_eq, List.all_eq_true] at h
  obtain ⟨h1, h2⟩ := h
  have k : ∀ jx : List Nat, (∀ i ∈ jx, decide (i < n) = true) → (pick jx l).length = jx.length := by
    intro jx
    induction jx with
    | nil => intro _; rfl
    | cons i jx ih =>
      intro hj
      have hi := hj i List.mem_cons_self
      rw [decide_eq_true_eq, ← hl] at hi
      unfold pick
      rw [List.filterMap_cons_some (List.getElem?_eq_getElem hi), List.length_cons, List.length_cons]
      exact congrArg (· + 1) (ih fun i q => hj i (List.mem_cons_of_mem _ q))
  rw [k ix h2, h1]
def fCallK (ix : List Nat) (n : Nat) (F : F1) (fa : FA) : FE := fCB (fun ds st => if ds.length = n then (F (pick ix ds) st).quiet else .no) fa
theorem se_callK (ix : List Nat) {ks : List Str} {kws : List Keyword} (D : DefC X.prog X.w X.K X.mg X.base CX k s x ps F) (hr : RoomG X.base k X.A) (hx : Passes CX X E0) (ha : SK X W kws fa)
    (hb : ∀ (kV doc pm : Value) (an : Option Addr) (cdv ct : Value) (us : List Value), us.length = ps.length → bindArgs (PySem.W.fnOf x x (defArgs s) (defBody s) (defScope s) .none kV doc pm an cdv ct) ⟨[], ks.zip us⟩ = pure (ps.zip (pick ix us)))
    (hix : (ix.length == ps.length && ix.all fun i => decide (i < ps.length)) = true := by rfl)
    (hg : Gl X x := by rfl) (hall : (backToKw pos (keywordEach kws X.env)).all (·.1.isSome) = true := by rfl) (hks : (backToKw pos (keywordEach kws X.env)).filterMap (·.1) = ks := by rfl) (hdb : (x == ("__debug__" : Str)) = false := by decide)
    (hpl : ((backTo pos (starEach [] X.env)).any (·.1) || (backToKw pos (keywordEach kws X.env)).any (·.1.isNone)) = false := by rfl) : SE X W (.Call (.Name x p) [] kws pos) (fCallK ix ps.length F fa) := by
  obtain ⟨f, fd, hm, FD, b, O⟩ := D
  obtain ⟨t, pk, sa⟩ := ha
  have pe : PE X (.Call (.Name x p) [] kws pos) (fun σ H Q => t σ H fun zs H1 => zs.length = ps.length ∧ spF (gx X) ps.length F (pick ix zs) H1 Q E0) := by
    refine ⟨fun pins s₁ σ H Q I h => ?_⟩
    refine wpAny_Call_Name_kw (ld_glob I hg hm ?_ hdb)
    refine PySem.W.callWith_KW0 (h₀ := X.base) I.ok.mod.kin FD.kp hall ?_ hpl
    refine thn (pk.run pos pins s₁ σ H _ I h) fun ws s2 ⟨zs, H2, I2, rz, hzl, q2⟩ => ⟨I2.kIn, ?_⟩
    rw [hks]
    have r2 : Vals (pick ix zs) (pick ix ws) := pick_rel rz
    have hw : ws.length = ps.length := by rw [← rz.length]; exact hzl
    have hb2 : BindsTo s2 fd ⟨[], ks.zip ws⟩ (ps.zip (pick ix ws)) := by
      obtain ⟨oc, od, dV, kV, doc, pm, an, cdv, ct, osl, rfl, lk, hcd, hD, hK⟩ := FD.ex
      rcases hD with ⟨_, rfl⟩ | ⟨e, _⟩
      · exact .of_eq (hb kV doc pm an cdv ct ws hw)
      · exact absurd rfl e
    refine wpAny_call (codeAny_mono (runG O hr hb2 (fun pins H s e s' => hx pins σ H s e s') I2 r2 q2) fun r s' z => ?_)
    match r, z with
    | .error e, z => exact z
    | .ok (.ret u), z => exact z
  refine ⟨_, pe, fun ρ σ st H C Q rs so q => sa ρ σ st H C _ rs so (q.bind.imp fun ds st1 C1 H1 so1 e1 h1 vs rv => ?_)⟩
  have h1 : After (gx X) _ C1 H1 (if ds.length = ps.length then (F (pick ix ds) st1).quiet else .no) _ := h1
  split at h1
  · rename_i hl
    exact ⟨by rw [rv.length]; exact hl, pick ix ds, st1, C1, pick_reps rv, pick_len hix hl, so1, h1.quiet⟩
  · exact h1.elim
end
end FL

/-! FLl: methods of built-in types, stores -/
namespace FL
open PySem PySem.Spec PyProof.Rows L2

/-! ### o.m(..) -/
abbrev FM := D → List D → Sto → R D
def SimMt (g : Gx) (r : V → List V → Hp → VK → Prop) (f : FM) : Prop := ∀ (x : D) (ds : List D) (st : Sto) (H : Hp) (C : Ad) (v : V) (vs : List V) (Q : VK), StoOk g.K H C st → Rep g.K H C v x → Reps g.K H C vs ds →
  After g (fun _ _ _ => False) C H (f x ds st) (fun d _ C' H' => ∀ v, Rep g.K H' C' v d → Q v H') → r v vs H Q
def NoXM (f : FM) : Prop := ∀ x ds st c z st', f x ds st ≠ .exc c z st'
def tyIs (T : Ty) (st : Sto) (x : D) : Bool := match T, x with
  | .str, .str _ => true
  | .list, x => (itemsR st x).isSome
  | _, _ => false
theorem tyIs_rep {K : PySem.W.Frag} {H : Hp} {C : Ad} {st : Sto} {T : Ty} {x : D} {v : V} (h : tyIs T st x = true) (so : StoOk K H C st) (r : Rep K H C v x) : tyV K T.nm v H := by
  unfold tyIs at h
  split at h
  · cases r; rfl
  · cases e : itemsR st x with
    | none => rw [e] at h; cases h
    | some ds =>
      obtain ⟨a, xs, rfl, h1, _⟩ := itemsR_rep e so r
      exact .inl ⟨rfl, xs, h1⟩
  · cases h
def fBm (T : Ty) (m : FM) (o : FE) (a : FA) : FE := fun ρ st => (o ρ st).bind fun x st1 => if tyIs T st1 x = true then (a ρ st1).bind fun ds st2 => m x ds st2 else .no
section
variable {X : Cx} {W : WX} {o e : Expr} {es : List Expr} {fo : FE} {fa : FA} {name : Str} {apos cpos : Pos} {id : String} {m : FM}
theorem se_bm (T : Ty) (hm : ∃ r, MtR X id r ∧ SimMt (gx X) r m ∧ NoXM m) (pa : PlainAttrs T.nm) (slot : Slot T.nm name id) (hty : typeOf (.builtin id) = pure (.type "method_descriptor")) (ho : SE X W o fo) (ha : SA X W (e :: es) fa)
    (hbase : attributeBase o name X.env (eval o X.env) = eval o X.env := by rfl)
    (hfew : ((backTo cpos (starEach (e :: es) X.env)).all (fun x => !x.1) && (backToKw cpos (keywordEach [] X.env)).all (fun x => x.1.isSome)
      && decide ((e :: es).length + ([] : List Keyword).length + (if ([] : List Keyword).isEmpty then 0 else 1) < 30)) = true := by rfl)
    (hline : (apos.endLine == cpos.line) = true := by rfl) (hs : starEach (e :: es) X.env = (false, eval e X.env) :: starEach es X.env := by rfl) (hplain : (backTo cpos (starEach es X.env)).any (·.1) = false := by rfl) :
    SE X W (.Call (.Attribute o name apos) (e :: es) [] cpos) (fBm T m fo fa) := by
  obtain ⟨r, h1, h2, h3⟩ := hm
  obtain ⟨t, po, so⟩ := ho
  obtain ⟨ta, paa, sa⟩ := ha
  refine ⟨_, pe_bm pa slot hty h1 po paa hbase hfew hline hs hplain, fun ρ σ st H C Q rs so1 q => so ρ σ st H C _ rs so1 (q.bind.imp fun x st1 C1 H1 so2 e1 q1 v rv => ?_)⟩
  split at q1
  · rename_i ht
    refine ⟨tyIs_rep ht so2 rv, sa ρ σ st1 H1 C1 _ (rs.mono e1) so2 (q1.bind.imp fun ds st2 C2 H2 so3 e2 q2 vs rvs => ?_)⟩
    exact h2 x ds st2 H2 C2 v vs Q so3 (rv.mono e2) rvs (q2.nox (h3 x ds st2))
  · exact q1.elim
theorem se_bm0 (T : Ty) (hm : ∃ r, MtR X id r ∧ SimMt (gx X) r m ∧ NoXM m) (pa : PlainAttrs T.nm) (slot : Slot T.nm name id) (hty : typeOf (.builtin id) = pure (.type "method_descriptor")) (ho : SE X W o fo)
    (hbase : attributeBase o name X.env (eval o X.env) = eval o X.env := by rfl) (hline : (apos.endLine == cpos.line) = true := by rfl) : SE X W (.Call (.Attribute o name apos) [] [] cpos) (fBm T m fo faNil) := by
  obtain ⟨r, h1, h2, h3⟩ := hm
  obtain ⟨t, po, so⟩ := ho
  refine ⟨_, pe_bm0 pa slot hty h1 po hbase hline, fun ρ σ st H C Q rs so1 q => so ρ σ st H C _ rs so1 (q.bind.imp fun x st1 C1 H1 so2 e1 q1 v rv => ?_)⟩
  split at q1
  · rename_i ht
    have q1 : After (gx X) _ C1 H1 (m x [] st1) _ := q1
    exact ⟨tyIs_rep ht so2 rv, h2 x [] st1 H1 C1 v [] Q so2 rv .nil (q1.nox (h3 x [] st1))⟩
  · exact q1.elim
end

/-! ### list.append, list.pop; str.join; n.bit_length() -/
def mAppend : FM := fun x ds st => match x, ds with
  | .cel n, [d] => match st[n]? with
    | some (.lst xs) => if xs.length < lim then .ok .non (st.set n (.lst (xs ++ [d]))) else .no
    | _ => .no
  | _, _ => .no
theorem noxm_append : NoXM mAppend := fun x ds st c z st' h => by
  unfold mAppend at h
  split at h
  · split at h
    · split at h <;> cases h
    · cases h
  · cases h
/-- pop(), pop(i) -/
def mPop : FM := fun x ds st => match x with
  | .cel n => match st[n]? with
    | some (.lst xs) => match ds with
      | [] => match xs[xs.length - 1]? with
        | some d => .ok d (st.set n (.lst xs.dropLast))
        | none => .no
      | [.int i] => if 0 ≤ i ∧ i < xs.length ∧ i ≤ 1000000 then match xs[i.toNat]? with
        | some d => .ok d (st.set n (.lst (xs.eraseIdx i.toNat)))
        | none => .no
        else .no
      | _ => .no
    | _ => .no
  | _ => .no
theorem noxm_pop : NoXM mPop := fun x ds st c z st' h => by
  unfold mPop at h
  split at h
  · split at h
    · split at h
      · split at h <;> cases h
      · split at h
        · split at h <;> cases h
        · cases h
      · cases h
    · cases h
  · cases h
def joinS (s : List Nat) : List (List Nat) → List Nat
  | [] => []
  | [a] => a
  | a :: b :: r => a ++ s ++ joinS s (b :: r)
def mJoin : FM := fun x ds st => match x, ds with
  | .str s, [d] => match (itemsS st d).bind strsOf with
    | some ss => if (ss.map List.length).sum + ss.length * s.length ≤ lim then .ok (.str (joinS s ss)) st else .no
    | none => .no
  | _, _ => .no
theorem noxm_join : NoXM mJoin := fun x ds st c z st' h => by
  unfold mJoin at h
  split at h
  · split at h
    · split at h <;> cases h
    · cases h
  · cases h
theorem Reps.dropLast {K : PySem.W.Frag} {H : Hp} {C : Ad} {ds : List D} {vs : List V} (h : Reps K H C vs ds) : Reps K H C vs.dropLast ds.dropLast := by
  rw [List.dropLast_eq_take, List.dropLast_eq_take, h.length]
  exact h.take _
theorem joinL_S (S : List Nat) : ∀ l : List (List Nat), TL.joinL S l = joinS S l
  | [] => rfl
  | [a] => by simp [TL.joinL, joinS]
  | a :: b :: r => by
    have ih := joinL_S S (b :: r)
    simp only [TL.joinL, joinS] at ih ⊢
    rw [ih]
    simp [List.append_assoc]
theorem txt_join (s : List Nat) (ss : List (List Nat)) : Txt.join (sv s) (ss.map sv) = sv (joinS s ss) := by
  rw [TL.join_eq]
  have h := TL.tl_join (sv s) (ss.map sv)
  have e : (ss.map sv).map TL.tl = ss := by
    rw [List.map_map]
    have : TL.tl ∘ sv = id := by funext z; simp [TL.tl]
    rw [this, List.map_id]
  rw [e, show TL.tl (sv s) = s from by simp [TL.tl], joinL_S] at h
  rw [← h]
section
variable {X : Cx}
/-- writing a list in a cell -/
theorem cel_set {g : Gx} {C : Ad} {H : Hp} {st : Sto} {n : Nat} {a : Addr} {xs xs' : List V} {ds ds' : List D} (so : StoOk g.K H C st) (hc : C.c[n]? = some a) (h1 : H a = some (.lst xs)) (r : Reps g.K H C xs' ds') :
    StoOk g.K (upd H a (.lst xs')) C (st.set n (.lst ds')) ∧ Ext C H C (upd H a (.lst xs')) := by
  have e : Ext C H C (upd H a (.lst xs')) := Ext.put (List.mem_of_getElem? hc) h1 rfl
  exact ⟨so.put hc h1 rfl ⟨xs', upd_same, r.mono e⟩, e⟩
theorem m_append : ∃ r, MtR X "list.append" r ∧ SimMt (gx X) r mAppend ∧ NoXM mAppend := by
  refine ⟨_, mt_append, fun x ds st H C v vs Q so rx rv q => ?_, noxm_append⟩
  unfold mAppend at q
  split at q
  · cases rx with
    | cel hc =>
      cases rv with
      | cons r1 r2 =>
        cases r2
        split at q
        · rename_i n d xs hx
          split at q
          · rename_i hl
            obtain ⟨ys, h1, h2⟩ := so.ok _ _ _ hc hx
            obtain ⟨s2, e2⟩ := cel_set (ds := xs) so hc h1 (h2.app (.cons r1 .nil))
            refine ⟨_, ys, _, rfl, rfl, h1, ?_, q.now s2 e2 _ .non⟩
            rw [h2.length, sizeLine_eq]
            exact Nat.lt_trans hl (by decide)
          · exact q.elim
        · exact q.elim
  · exact q.elim
theorem m_pop : ∃ r, MtR X "list.pop" r ∧ SimMt (gx X) r mPop ∧ NoXM mPop := by
  refine ⟨_, MtR.or mt_pop mt_popAt, fun x ds st H C v vs Q so rx rv q => ?_, noxm_pop⟩
  unfold mPop at q
  split at q
  · cases rx with
    | cel hc =>
      split at q
      · rename_i n xs hx
        obtain ⟨ys, h1, h2⟩ := so.ok _ _ _ hc hx
        split at q
        · cases rv
          split at q
          · rename_i d hd
            obtain ⟨w, h3, h4⟩ := h2.get hd
            obtain ⟨s2, e2⟩ := cel_set (ds := xs) so hc h1 h2.dropLast
            exact .inl ⟨_, ys, w, rfl, rfl, h1, by rw [h2.length]; exact h3, q.now s2 e2 _ (h4.mono e2)⟩
          · exact q.elim
        · cases rv with
          | cons r1 r2 =>
            cases r1; cases r2
            split at q
            · rename_i hi
              split at q
              · rename_i d hd
                obtain ⟨w, h3, h4⟩ := h2.get hd
                obtain ⟨s2, e2⟩ := cel_set (ds := xs) so hc h1 (h2.erase _)
                refine .inr ⟨_, ys, _, _, w, rfl, rfl, h1, by omega, by omega, ?_, h3, q.now s2 e2 _ (h4.mono e2)⟩
                rw [h2.length]
                exact seqIndex_of hi.1 hi.2.1
              · exact q.elim
            · exact q.elim
        · exact q.elim
      · exact q.elim
  · exact q.elim
theorem m_join : ∃ r, MtR X "str.join" r ∧ SimMt (gx X) r mJoin ∧ NoXM mJoin := by
  refine ⟨_, mt_join, fun x ds st H C v vs Q so rx rv q => ?_, noxm_join⟩
  unfold mJoin at q
  split at q
  · cases rx
    cases rv with
    | cons r1 r2 =>
      cases r2
      split at q
      · rename_i ss e
        split at q
        · rename_i hl
          obtain ⟨xs, e1, e2⟩ := Option.bind_eq_some_iff.mp e
          obtain ⟨a, ys, rfl, h1, h2⟩ := itemsS_rep e1 so r1
          rw [strsOf_eq e2] at h2
          rw [Reps.strs h2] at h1
          refine ⟨_, a, ss.map sv, rfl, rfl, h1, ?_, ?_⟩
          · rw [List.map_map, List.length_map]
            have e3 : (fun z : Str => z.length) ∘ sv = List.length := by funext z; simp [Str.length]
            have e4 : (Str.length ∘ sv) = List.length := by funext z; simp [Str.length]
            rw [show (List.map ((fun x => x.length) ∘ sv) ss) = ss.map List.length from by rw [e3], sv_len]
            exact Nat.le_trans hl (by decide)
          · rw [txt_join]
            exact q.here so _ (.str _)
        · exact q.elim
      · exact q.elim
  · exact q.elim
def fBits (f : FE) : FE := fun ρ st => (f ρ st).bind fun d st1 => match d with
  | .int i => .ok (.int (Builtin.Int.intBits i : Nat)) st1
  | _ => .no
theorem se_bits {W : WX} {o : Expr} {fo : FE} {apos pos : Pos} (ho : SE X W o fo) (hbase : attributeBase o "bit_length" X.env (eval o X.env) = eval o X.env := by rfl) (hline : (apos.endLine == pos.line) = true := by rfl) : SE X W (.Call (.Attribute o "bit_length" apos) [] [] pos) (fBits fo) := by
  obtain ⟨t, p, s⟩ := ho
  refine ⟨_, pe_bits p hbase hline, fun ρ σ st H C Q rs so q => s ρ σ st H C _ rs so (q.bind.imp fun d st1 C1 H1 so1 e1 h1 v rv => ?_)⟩
  cases d with
  | int i => cases rv; exact ⟨i, rfl, h1.here so1 _ (.int _)⟩
  | _ => exact h1.elim
end

/-! ### o[i] = v -/
def putL (es : List (D × D)) (k v : D) : List (D × D) := if (es.any fun e => sameK e.1 k) = true then es.map fun e => if sameK e.1 k = true then (e.1, v) else e else es ++ [(k, v)]
def isKey : D → Bool
  | .int _ => true
  | .str _ => true
  | _ => false
def gSet (o i v : D) (st : Sto) : R Unit := match o with
  | .cel n => match st[n]? with
    | some (.lst xs) => match i with
      | .int k => match ixN xs.length k with
        | some j => .ok () (st.set n (.lst (xs.set j v)))
        | none => .no
      | _ => .no
    | some (.dct es) => if isKey i = true ∧ es.length < lim then .ok () (st.set n (.dct (putL es i v))) else .no
    | _ => .no
  | _ => .no
def hSub (o i : FE) : FG := fun d ρ st => (o ρ st).bind fun x st1 => (i ρ st1).bind fun y st2 => (gSet x y d st2).bind fun _ st3 => .ok ρ st3
section
variable {K : PySem.W.Frag} {H : Hp} {C : Ad}
theorem any_same {k : Key} {q : D} (hk : RepKey k q) : ∀ {es : List (D × D)} {kvs : List (Key × V)}, RepKs K H C kvs es → (es.any fun e => sameK e.1 q) = (kvs.any fun kv => decide (kv.1 = k))
  | [], _, h => by cases h; rfl
  | (p, d) :: es, _, h => by
    cases h with
    | cons h0 h1 h2 => rw [List.any_cons, List.any_cons, any_same hk h2, sameK_key h0 hk]
theorem map_same {k : Key} {q : D} {v : V} {d : D} (hk : RepKey k q) (rv : Rep K H C v d) : ∀ {es : List (D × D)} {kvs : List (Key × V)}, RepKs K H C kvs es → RepKs K H C (kvs.map fun kv => if kv.1 = k then (kv.1, v) else kv) (es.map fun e => if sameK e.1 q = true then (e.1, d) else e)
  | [], _, h => by cases h; exact .nil
  | (p, e) :: es, _, h => by
    cases h with
    | cons h0 h1 h2 =>
      rename_i k' v' r
      have s := sameK_key h0 hk
      rw [List.map_cons, List.map_cons]
      by_cases z : k' = k
      · rw [if_pos z, if_pos (by rw [s]; exact decide_eq_true z)]
        exact .cons h0 rv (map_same hk rv h2)
      · rw [if_neg z, if_neg (by rw [s]; simpa using z)]
        exact .cons h0 h1 (map_same hk rv h2)
theorem RepKs.snoc {k : Key} {q : D} {v : V} {d : D} (hk : RepKey k q) (rv : Rep K H C v d) : ∀ {es : List (D × D)} {kvs : List (Key × V)}, RepKs K H C kvs es → RepKs K H C (kvs ++ [(k, v)]) (es ++ [(q, d)])
  | [], _, h => by cases h; exact .cons hk rv .nil
  | (p, e) :: es, _, h => by
    cases h with
    | cons h0 h1 h2 => exact .cons h0 h1 (RepKs.snoc hk rv h2)
theorem RepKs.put {k : Key} {q : D} {v : V} {d : D} (hk : RepKey k q) (rv : Rep K H C v d) {es : List (D × D)} {kvs : List (Key × V)} (h : RepKs K H C kvs es) : RepKs K H C (putK kvs k v) (putL es q d) := by
  unfold putK putL
  rw [any_same hk h]
  split
  · exact map_same hk rv h
  · exact h.snoc hk rv
end
section
variable {X : Cx} {W : WX}
theorem PSet.or {t u : TSet} (h : PSet X t) (k : PSet X u) : PSet X fun o i v H Q => t o i v H Q ∨ u o i v H Q := fun pins s σ H o i v ov iv w Q I r1 r2 r3 q => by
  rcases q with q | q
  · exact h pins s σ H o i v ov iv w Q I r1 r2 r3 q
  · exact k pins s σ H o i v ov iv w Q I r1 r2 r3 q
theorem sg_sub (hu : X.A.units + 1 < cLine) {o i : Expr} {fo fi : FE} {pos : Pos} (ho : SE X W o fo) (hi : SE X W i fi)
    (ha : ∀ v, assign (.Subscript o i pos) X.env v = (do
      let ov ← holding [v] (eval o X.env)
      let iv ← holding [v, ov] (eval i X.env)
      standAt pos
      holding [v, ov, iv] (setItem ov iv v)
      release [v, ov, iv] []) := by intro _; rfl) : SG X W (.Subscript o i pos) (hSub fo fi) := by
  obtain ⟨t, po, so⟩ := ho
  obtain ⟨t2, pi, si⟩ := hi
  refine ⟨_, pg_sub po pi (PSet.or set_list (set_dict hu)) ha, fun d v ρ σ st H C Q rv rs s0 q => ?_⟩
  refine so ρ σ st H C _ rs s0 (q.bind.imp fun x st1 C1 H1 so1 e1 q1 vx rx => ?_)
  refine si ρ σ st1 H1 C1 _ (rs.mono e1) so1 (q1.bind.imp fun y st2 C2 H2 so2 e2 q2 vy ry => ?_)
  have rx := rx.mono e2
  have rv := (rv.mono e1).mono e2
  have rs := (rs.mono e1).mono e2
  unfold gSet at q2
  cases x with
  | cel n =>
    cases rx with
    | cel hc =>
      simp only at q2
      cases hx : st2[n]? with
      | none => rw [hx] at q2; exact q2.elim
      | some co =>
        rw [hx] at q2
        cases co with
        | lck es => exact q2.elim
        | lst xs =>
          simp only at q2
          obtain ⟨ys, h1, h2⟩ := so2.ok _ _ _ hc hx
          cases y with
          | int k =>
            cases ry
            simp only at q2
            cases hj : ixN xs.length k with
            | none => rw [hj] at q2; exact q2.elim
            | some j =>
              rw [hj] at q2
              obtain ⟨s3, e3⟩ := cel_set (g := gx X) (ds := xs) so2 hc h1 (h2.set j rv)
              have q3 : After (gx X) _ C2 H2 (R.ok ρ (st2.set n (.lst (xs.set j d)))) _ := q2
              refine .inl ⟨_, ys, k, j, rfl, rfl, h1, by rw [h2.length]; exact hj, ?_⟩
              exact q3.now s3 e3 σ (rs.mono e3)
          | _ => exact q2.elim
        | dct es =>
          simp only at q2
          obtain ⟨kvs, h1, h2⟩ := so2.ok _ _ _ hc hx
          split at q2
          · rename_i hk
            obtain ⟨key, hkey, ek⟩ : ∃ key, RepKey key y ∧ vy = kV key := by
              cases y with
              | int i => cases ry; exact ⟨_, .int i, rfl⟩
              | str s => cases ry; exact ⟨_, .str s, rfl⟩
              | _ => exact absurd hk.1 Bool.false_ne_true
            have r2 := h2.put hkey rv
            have e3 : Ext C2 H2 C2 (upd H2 _ (.dK (putK kvs key v))) := Ext.put (List.mem_of_getElem? hc) h1 rfl
            have s3 : StoOk X.K (upd H2 _ (.dK (putK kvs key v))) C2 (st2.set n (.dct (putL es y d))) := so2.put hc h1 rfl ⟨_, upd_same, r2.mono e3⟩
            have q3 : After (gx X) _ C2 H2 (R.ok ρ (st2.set n (.dct (putL es y d)))) _ := q2
            refine .inr ⟨_, _, rfl, .inl ⟨kvs, key, h1, ek, ?_, rfl⟩, q3.now s3 e3 σ (rs.mono e3)⟩
            rw [h2.length, sizeLine_eq]
            exact Nat.lt_trans hk.2 (by decide)
          · exact q2.elim
  | _ => exact q2.elim
end
end FL

/-! FLm: is; zip; [::-1]; a, b, c = ..; a < b < c -/
namespace FL
open PySem PySem.Spec PyProof.Rows L2

section
variable {X : Cx} {W : WX}
theorem o_is : ∃ r, OpR X (compareOp .Is) r ∧ SimR2 (gx X) r gIs ∧ NoX2 gIs := by
  refine ⟨_, op_isN.or op_isV, fun x y st H C v u Q so rx ry h => ?_, nox_is⟩
  unfold gIs at h
  split at h
  · rename_i b e
    rcases isD_rep e rx ry with ⟨rfl, q⟩ | ⟨k, rfl, q⟩
    · exact .inl ⟨rfl, by rw [q]; exact h.here so _ (.bl _)⟩
    · exact .inr ⟨k, rfl, by rw [q]; exact h.here so _ (.bl _)⟩
  · exact h.elim
theorem o_isNot : ∃ r, OpR X (compareOp .IsNot) r ∧ SimR2 (gx X) r gIsNot ∧ NoX2 gIsNot := by
  refine ⟨_, op_notN.or op_isNotV, fun x y st H C v u Q so rx ry h => ?_, nox_isNot⟩
  unfold gIsNot at h
  split at h
  · rename_i b e
    rcases isD_rep e rx ry with ⟨rfl, q⟩ | ⟨k, rfl, q⟩
    · exact .inl ⟨rfl, by rw [q]; exact h.here so _ (.bl _)⟩
    · exact .inr ⟨k, rfl, by rw [q]; exact h.here so _ (.bl _)⟩
  · exact h.elim

/-! ### zip -/
def sdOf (st : Sto) (d : D) : Option Sd := match d with
  | .cel n => match st[n]? with
    | some (.lst _) => some (.cel n)
    | _ => none
  | d => (itemsR st d).map .fix
def zipS (st : Sto) (ds : List D) : Option Src := match ds with
  | [.tup xs, .tup ys] => some (.zip (.fix xs) (.fix ys))
  | [x, y] => match sdOf st x, sdOf st y with
    | some a, some b => some (.zip a b)
    | _, _ => none
  | _ => none
def iZip (f : FA) : FI := fun ρ st => (f ρ st).bind fun ds st1 => R.opt (zipS st1 ds) st1
/-- the list at a is what the side tells, as it stands -/
def SdAt (K : PySem.W.Frag) (sq : Hp → List V → Prop) (s : Sd) (C₁ : Ad) (H₁ : Hp) : Prop := ∀ (st : Sto) (C : Ad) (H : Hp), StoOk K H C st → Stay C₁ H₁ C H → ∀ (i : Nat) (o : Option D), sdAt s st i = some o →
  ∃ xs, sq H xs ∧ match o with
    | some d => ∃ v, xs[i]? = some v ∧ Rep K H C v d
    | none => xs.length ≤ i
theorem sdAt_fix {K : PySem.W.Frag} {sq : Hp → List V → Prop} {xs : List V} {ds : List D} {C₁ : Ad} {H₁ : Hp} (hq : ∀ H' C', Stay C₁ H₁ C' H' → sq H' xs) (hr : Reps K H₁ C₁ xs ds) : SdAt K sq (.fix ds) C₁ H₁ := fun st C H so e i o hn => by
  have hn : ds[i]? = o := Option.some.inj hn
  refine ⟨xs, hq H C e, ?_⟩
  cases o with
  | some d =>
    obtain ⟨v, h1, h2⟩ := hr.get hn
    exact ⟨v, h1, h2.monoS e⟩
  | none => rw [hr.length]; exact List.getElem?_eq_none_iff.mp hn
theorem sdAt_of {d : D} {s : Sd} {st : Sto} {C : Ad} {H : Hp} {v : V} (h : sdOf st d = some s) (so : StoOk X.K H C st) (r : Rep X.K H C v d) : ∃ a xs, v = .ref a ∧ SqL X.K H a xs ∧ SdAt X.K (fun H xs => SqL X.K H a xs) s C H := by
  unfold sdOf at h
  split at h
  · split at h
    · rename_i n _ ds hn
      cases h
      cases r with
      | @cel a _ hc =>
        obtain ⟨xs, h1, h2⟩ := so.ok _ _ _ hc hn
        refine ⟨a, xs, rfl, SqL.of h1, fun st' C' H' so' e i o hs => ?_⟩
        unfold sdAt at hs
        simp only at hs
        split at hs
        · rename_i ds' hd
          obtain ⟨ys, k1, k2⟩ := so'.ok _ _ _ (e.get hc) hd
          have hs : ds'[i]? = o := Option.some.inj hs
          refine ⟨ys, SqL.of k1, ?_⟩
          cases o with
          | some d =>
            obtain ⟨v, h3, h4⟩ := k2.get hs
            exact ⟨v, h3, h4⟩
          | none => rw [k2.length]; exact List.getElem?_eq_none_iff.mp hs
        · cases hs
    · cases h
  · rename_i hc
    rw [Option.map_eq_some_iff] at h
    obtain ⟨ds, e1, rfl⟩ := h
    obtain ⟨a, xs, rfl, h1, h2, h3⟩ := itemsR_rep e1 so r
    exact ⟨a, xs, rfl, h1, sdAt_fix (fun H' C' e' => h3 H' C' e' fun n hn => absurd hn (hc n)) h2⟩
theorem walk_zip {a b : Addr} {s t : Sd} {C₁ : Ad} {H₁ : Hp} {SQ : Hp → Addr → List V → Prop} {J : It} 
    (hgo : ∀ i H, (∃ (xs ys : List V) (x y : V), SQ H a xs ∧ SQ H b ys ∧ xs[i]? = some x ∧ ys[i]? = some y) → J.go i H)
    (hy : ∀ i H v H', J.yld i H v H' → ∃ T x y, v = .ref T ∧ H T = none ∧ H' = upd H T (.tup [x, y]) ∧ (∀ xs, SQ H a xs → xs[i]? = some x) ∧ ∀ ys, SQ H b ys → ys[i]? = some y)
    (hst : ∀ i H, (∃ xs ys : List V, SQ H a xs ∧ SQ H b ys ∧ (xs.length ≤ i ∨ ys.length ≤ i)) → J.stop i H)
    (ha : SdAt X.K (fun H xs => SQ H a xs) s C₁ H₁) (hb : SdAt X.K (fun H xs => SQ H b xs) t C₁ H₁) : Walk (gx X) J (.zip s t) C₁ H₁ := fun st C H so e _ i o hn => by
  unfold nextS at hn
  simp only at hn
  cases e1 : sdAt s st i with
  | none => rw [e1] at hn; cases hn
  | some o1 =>
    cases e2 : sdAt t st i with
    | none => rw [e1, e2] at hn; cases o1 <;> cases hn
    | some o2 =>
      rw [e1, e2] at hn
      obtain ⟨xs, q1, k1⟩ := ha st C H so e i o1 e1
      obtain ⟨ys, q2, k2⟩ := hb st C H so e i o2 e2
      cases o1 with
      | none => cases hn; exact hst i H ⟨xs, ys, q1, q2, .inl k1⟩
      | some d1 =>
        cases o2 with
        | none => cases hn; exact hst i H ⟨xs, ys, q1, q2, .inr k2⟩
        | some d2 =>
          cases hn
          obtain ⟨v1, x1, r1⟩ := k1
          obtain ⟨v2, x2, r2⟩ := k2
          refine ⟨hgo i H ⟨xs, ys, v1, v2, q1, q2, x1, x2⟩, fun x H' hyl => ?_⟩
          obtain ⟨T, x', y', rfl, hT, rfl, f1, f2⟩ := hy i H x H' hyl
          have g1 := f1 xs q1
          have g2 := f2 ys q2
          rw [x1] at g1; cases g1
          rw [x2] at g2; cases g2
          exact ⟨so.tree hT, Ext.tree hT, .tup upd_same (so.fresh hT) ((Reps.cons r1 (.cons r2 .nil)).mono (Ext.tree hT))⟩
end
section
variable {X : Cx} {W : WX}
theorem si_zip {e e2 : Expr} {f : FA} {p pos tpos : Pos} {elts : List Expr} {kk : Nat} (hm : X.mg "zip" = none) (ha : SA X W [e, e2] f) (hg : Gl X "zip" := by rfl)
    (hs : starEach [e, e2] X.env = (false, eval e X.env) :: starEach [e2] X.env := by rfl) (hpl : (backTo pos (starEach [e2] X.env)).any (·.1) = false := by rfl) :
    SI X W (.Tuple elts kk tpos) (.Call (.Name "zip" p) [e, e2] [] pos) (iZip f) := by
  obtain ⟨t, pa, s⟩ := ha
  refine ⟨_, RZ.pi_zipA hg hm pa hs hpl, fun ρ σ st H C P rs so q => s ρ σ st H C _ rs so (q.bind.imp fun ds st1 C1 H1 so1 e1 h1 vs rv => ?_)⟩
  obtain ⟨src, e3, h1⟩ := h1.opt
  unfold zipS at e3
  split at e3
  · cases e3
    cases rv with
    | cons r1 r2 =>
      cases r2 with
      | cons r2 r3 =>
        cases r3
        obtain ⟨a, xs, rfl, k1, o1, k2⟩ := tup_rep r1
        obtain ⟨b, ys, rfl, l1, o2, l2⟩ := tup_rep r2
        refine ⟨a, b, xs, ys, rfl, .inr ⟨SqT.of k1, SqT.of l1, h1.here so1 _ ?_⟩⟩
        exact walk_zip (SQ := fun H a xs => SqT X.K H a xs) (fun _ _ h => h) (fun _ _ _ _ h => h) (fun _ _ h => h)
          (sdAt_fix (fun H' C' e' => SqT.of (e'.keep _ _ k1 o1)) k2) (sdAt_fix (fun H' C' e' => SqT.of (e'.keep _ _ l1 o2)) l2)
  · cases rv with
    | cons r1 r2 =>
      cases r2 with
      | cons r2 r3 =>
        cases r3
        split at e3
        · rename_i a' b' m1 m2
          cases e3
          obtain ⟨a, xs, rfl, k1, k2⟩ := sdAt_of m1 so1 r1
          obtain ⟨b, ys, rfl, l1, l2⟩ := sdAt_of m2 so1 r2
          refine ⟨a, b, xs, ys, rfl, .inl ⟨k1, l1, h1.here so1 _ ?_⟩⟩
          exact walk_zip (SQ := fun H a xs => SqL X.K H a xs) (fun _ _ h => h) (fun _ _ _ _ h => h) (fun _ _ h => h) k2 l2
        · cases e3
  · cases e3
end

/-! ### x[::-1] -/
def rRev (K : PySem.W.Frag) : V → Hp → VK → Prop := fun x H Q => (∃ z, x = .str z ∧ z.length ≤ sizeLine ∧ Q (.str (sv z.cps.toList.reverse)) H) ∨ ∃ a xs, x = .ref a ∧ SqL K H a xs ∧ ∀ p, H p = none → Q (.ref p) (upd H p (.lst xs.reverse))
def tRev (K : PySem.W.Frag) (te : TE) : TE := fun σ H Q => te σ H fun x H1 => rRev K x H1 Q
theorem str_rev (z : Str) : (⟨((Builtin.Str.strSliceIndices none none (-1) z.length).filterMap (z.cps[·]?)).toArray⟩ : Str) = sv z.cps.toList.reverse := by
  have e : Builtin.Str.strSliceIndices none none (-1) z.length = (List.range z.cps.size).reverse := by
    show sliceRange _ _ (-1) = _
    have h : ∀ n : Nat, sliceRange ((n : Int) - 1) (-1) (-1) = (List.range n).reverse := fun n => by rw [PySem.W.krv_sliceRange, PySem.W.krv_range]
    exact h z.cps.size
  rw [e, List.filterMap_reverse, PySem.W.krv_all]
theorem pe_rev {X : Cx} {e : Expr} {te : TE} {k : Nat} {p1 p2 p3 pos : Pos} (he : PE X e te) : PE X (.Subscript e (.Slice none none (some (.UnaryOp .USub (.Constant (.int 1) k p1) p2)) p3) pos) (tRev X.K te) := by
  refine ⟨fun pins s σ H Q I h => ?_⟩
  refine Subscript_ (thn (he.run pins s σ H _ I h) fun v s1 ⟨x, H1, I1, r1, q1⟩ => ?_)
  have hst : PO X (some (.UnaryOp .USub (.Constant (.int 1) k p1) p2)) (tPart (tUn (rU fun i => .int (-i)) (tC (.int 1)))) := po_some (pe_un un_neg pe_int)
  refine wpAny_Slice (thn (po_none.run pins s1 σ H1 (fun o H2 => o = none ∧ H2 = H1) I1 ⟨rfl, rfl⟩) fun vl s2 ⟨l, H2, I2, pl, el, e2⟩ => ?_)
  subst el e2
  refine thn (po_none.run pins s2 σ H2 (fun o H3 => o = none ∧ H3 = H2) I2 ⟨rfl, rfl⟩) fun vu s3 ⟨u, H3, I3, pu, eu, e3⟩ => ?_
  subst eu e3
  refine thn (hst.run pins s3 σ H3 (fun o H4 => o = some (-1) ∧ H4 = H3) I3 ⟨1, rfl, -1, rfl, rfl, rfl⟩) fun vs s4 ⟨o, H4, I4, ps, eo, e4⟩ => ?_
  subst eo e4
  have I5 : Inv X pins σ H4 { s4 with heap := s4.heap.push { cls := .type "slice", data := .fields #[vl, vu, vs] } } := I4.kept (t' := s4.toks) fun b ob q => Heap.get?_push_of_some _ q
  rcases q1 with ⟨z, ex, hz, q⟩ | ⟨a, xs, ex, hx, q⟩
  · subst ex
    obtain ⟨t, rfl⟩ := r1
    show wpAny (model X.prog X.w) X.A (subscriptTail e (.Slice none none (some (.UnaryOp .USub (.Constant (.int 1) k p1) p2)) p3) (.str z t) (.ref s4.heap.objs.size)) (EP X pins σ Q) X.xe { s4 with heap := s4.heap.push { cls := .type "slice", data := .fields #[vl, vu, vs] } }
    obtain ⟨l, rfl, hl⟩ := IsPart.raw pl
    obtain ⟨u, rfl, hu⟩ := IsPart.raw pu
    obtain ⟨st, rfl, hs⟩ := IsPart.raw ps
    have h0 : ((st.map (·.1)).getD 1 == 0) = false := by rw [hs]; rfl
    refine tail_any (ops := [.str z t, .ref s4.heap.objs.size]) (typeIs_str _ _ _) (F.slot_str_getitem.lookup) ?_ (by with_unfolding_all rfl)
    refine wpAny_getItem_str_slice (l := l) (u := u) (st := st) ⟨_, Heap.get?_push_size _ rfl, rfl, rfl⟩ h0 ?_
    unfold sliceMade slicePicked
    rw [hl, hu, hs]
    show Made.post (if ((-1 : Int) == 1 && (Builtin.Str.strSliceIndices none none (-1) z.length).length == z.length) = true then Made.val (.str z t)
      else Made.str ⟨((Builtin.Str.strSliceIndices none none (-1) z.length).filterMap (z.cps[·]?)).toArray⟩) (EP X pins σ Q) _
    rw [str_rev, if_neg (by simp)]
    exact ⟨by rw [sv_len, List.length_reverse, Array.length_toList]; exact hz, .str _, H4, I5.tok _, ⟨_, rfl⟩, q⟩
  · subst ex
    cases r1
    obtain ⟨its, r, ht, hz⟩ := I5.list hx
    have hlen := r.length
    show wpAny (model X.prog X.w) X.A (subscriptTail e (.Slice none none (some (.UnaryOp .USub (.Constant (.int 1) k p1) p2)) p3) (.ref a) (.ref s4.heap.objs.size)) (EP X pins σ Q) X.xe { s4 with heap := s4.heap.push { cls := .type "slice", data := .fields #[vl, vu, vs] } }
    refine tail_any (ops := [.ref a, .ref s4.heap.objs.size]) ht.isList.typeIs (PySem.slot_list_getitem.lookup) ?_ (by with_unfolding_all rfl)
    refine wpAny_getItem_list_slice ht.isList (Heap.IsSliceOf.new _ vl vu vs) pl pu ps (by decide) ?_ (by rw [List.size_toArray]; omega)
    rw [PySem.W.krv_pick]
    refine ⟨.ref _, _, I5.laid (t' := s4.toks) (o := .lst xs.reverse) (fun b ob q => Heap.get?_push_of_some _ q) (Nat.le_refl _) ?_, rfl, q _ (I5.hok.fresh (Nat.le_refl _))⟩
    exact ⟨by rw [List.length_reverse]; exact hz, _, 0, r.reverse, Heap.get?_push_size _ rfl⟩
def gRev (x : D) (st : Sto) : R D := match x with
  | .str s => if s.length ≤ lim then .ok (.str s.reverse) st else .no
  | d => match itemsR st d with
    | some ds => .ok (.lst ds.reverse) st
    | none => .no
def fRev (f : FE) : FE := fun ρ st => (f ρ st).bind fun x st1 => gRev x st1
theorem Reps.rev {K : PySem.W.Frag} {H : Hp} {C : Ad} {ds : List D} {vs : List V} (h : Reps K H C vs ds) : Reps K H C vs.reverse ds.reverse := by
  induction ds generalizing vs with
  | nil => cases h; exact .nil
  | cons d ds ih =>
    cases h with
    | cons h1 h2 =>
      rw [List.reverse_cons, List.reverse_cons]
      exact (ih h2).app (.cons h1 .nil)
section
variable {X : Cx} {W : WX}
theorem se_rev {a : Expr} {f : FE} {k : Nat} {p1 p2 p3 pos : Pos} (ha : SE X W a f) : SE X W (.Subscript a (.Slice none none (some (.UnaryOp .USub (.Constant (.int 1) k p1) p2)) p3) pos) (fRev f) := by
  obtain ⟨t, p, s⟩ := ha
  refine ⟨_, pe_rev p, fun ρ σ st H C Q rs so q => s ρ σ st H C _ rs so (q.bind.imp fun d st1 C1 H1 so1 e1 h1 v rv => ?_)⟩
  unfold gRev at h1
  split at h1
  · cases rv
    split at h1
    · rename_i hl
      refine .inl ⟨_, rfl, by rw [sv_len]; exact lim_line hl, ?_⟩
      rw [sv_tl]
      exact h1.here so1 _ (.str _)
    · exact h1.elim
  · split at h1
    · rename_i xs e
      obtain ⟨b, ys, rfl, k1, k2, _⟩ := itemsR_rep e so1 rv
      exact .inr ⟨b, ys, rfl, k1, new_lst h1 so1 k2.rev⟩
    · exact h1.elim

/-! ### a, b, c = x, y, z -/
theorem ss_par3 {i j l : Nat} {x y z : Str} {a b c : Expr} {fa : FA} {px py pz pt pos : Pos} {kt k2 pt2} (hc : X.calm = true) (hN : X.N.Nodup) (ha : SA X W [a, b, c] fa) (hi : X.N[i]? = some x := by rfl) (hj : X.N[j]? = some y := by rfl) (hl : X.N[l]? = some z := by rfl)
    (hij : i ≠ j := by decide) (hil : i ≠ l := by decide) (hjl : j ≠ l := by decide)
    (hx : X.env.scope.names.lookup x = some .local := by rfl) (hy : X.env.scope.names.lookup y = some .local := by rfl) (hz : X.env.scope.names.lookup z = some .local := by rfl)
    (hw : swappedStores [.Tuple [.Name x px, .Name y py, .Name z pz] kt pt] (.Tuple [a, b, c] k2 pt2) X.env = pure (some [x, y, z]) := by rfl)
    (hs : swapsWithSole [.Tuple [.Name x px, .Name y py, .Name z pz] kt pt] (.Tuple [a, b, c] k2 pt2) pos.line X.env = pure false := by rfl) :
    SS X W (.Assign [.Tuple [.Name x px, .Name y py, .Name z pz] kt pt] (.Tuple [a, b, c] k2 pt2) pos) (fPar3 i j l fa) := by
  obtain ⟨t, p, s⟩ := ha
  refine ⟨_, ps_par3 hc hN hi hj hl hij hil hjl hx hy hz p hw hs, fun ρ σ st H C D rs so q => s ρ σ st H C _ rs so ((q.val rs).imp fun ds st1 C1 H1 so1 e1 h1 vs rv => ?_)⟩
  split at h1
  · cases rv with
    | cons r1 r2 =>
      cases r2 with
      | cons r2 r3 =>
        cases r3 with
        | cons r3 r4 =>
          cases r4
          exact ⟨_, _, _, rfl, h1.now so1 ((((rs.mono e1).set r1).set r2).set r3)⟩
  · exact h1.elim

/-! ### a < b < c -/
def fChain (f h : F2) (a b c : FE) : FE := fun ρ st => (a ρ st).bind fun x st1 => (b ρ st1).bind fun y st2 => (f x y st2).bind fun d st3 => match d with
  | .bl true => (c ρ st3).bind fun z st4 => h y z st4
  | .bl false => .ok (.bl false) st3
  | _ => .no
theorem sim_chain {r r' : R2} {f h : F2} {ta tb tc : TE} {a b c : FE} (hr : SimR2 (gx X) r f) (hn : NoX2 f) (hr' : SimR2 (gx X) r' h) (hn' : NoX2 h) (ha : SimE (gx X) W ta a) (hb : SimE (gx X) W tb b) (hc : SimE (gx X) W tc c) : SimE (gx X) W (tChain r r' ta tb tc) (fChain f h a b c) := fun ρ σ st H C Q rs so q => by
  refine ha ρ σ st H C _ rs so (q.bind.imp fun x st1 C1 H1 so1 e1 h1 v rv => ?_)
  refine hb ρ σ st1 H1 C1 _ (rs.mono e1) so1 (h1.bind.imp fun y st2 C2 H2 so2 e2 h2 u ru => ?_)
  have h2 := h2.bind.nox (W' := fun _ _ _ => False) (hn x y st2)
  refine hr x y st2 H2 C2 v u _ so2 (rv.mono e2) ru (h2.imp fun d st3 C3 H3 so3 e3 h3 w rw => ?_)
  cases d with
  | bl k =>
    cases rw
    cases k with
    | true =>
      refine ⟨true, rfl, iteT (hc ρ σ st3 H3 C3 _ (((rs.mono e1).mono e2).mono e3) so3 (h3.bind.imp fun z st4 C4 H4 so4 e4 h4 w' rw' => ?_))⟩
      exact hr' y z st4 H4 C4 u w' Q so4 ((ru.mono e3).mono e4) rw' (h4.nox (hn' y z st4))
    | false => exact ⟨false, rfl, iteF (h3.here so3 _ (.bl _))⟩
  | _ => exact h3.elim
theorem se_chain {op op' : CmpOp} {a b c : Expr} {fa fb fc : FE} {f h : F2} {pos : Pos} (ho : ∃ r, OpR X (compareOp op) r ∧ SimR2 (gx X) r f ∧ NoX2 f) (ho' : ∃ r, OpR X (compareOp op') r ∧ SimR2 (gx X) r h ∧ NoX2 h)
    (ha : SE X W a fa) (hb : SE X W b fb) (hc : SE X W c fc) (hm : lastMarks [op, op'] [b, c] = false := by with_unfolding_all rfl) : SE X W (.Compare a [op, op'] [b, c] pos) (fChain f h fa fb fc) := by
  obtain ⟨r, h1, h2, h3⟩ := ho
  obtain ⟨r', h1', h2', h3'⟩ := ho'
  obtain ⟨ta, pa, sa⟩ := ha
  obtain ⟨tb, pb, sb⟩ := hb
  obtain ⟨tc, pc, sc⟩ := hc
  exact ⟨_, pe_chain h1 h1' pa pb pc hm, sim_chain h2 h3 h2' h3' sa sb sc⟩
theorem st_chain {op op' : CmpOp} {a b c : Expr} {fa fb fc : FE} {f h : F2} {pos : Pos} (ho : ∃ r, OpR X (compareOp op) r ∧ SimR2 (gx X) r f ∧ NoX2 f) (ho' : ∃ r, OpR X (compareOp op') r ∧ SimR2 (gx X) r h ∧ NoX2 h)
    (ha : SE X W a fa) (hb : SE X W b fb) (hc : SE X W c fc) (hm : lastMarks [op, op'] [b, c] = false := by with_unfolding_all rfl) : ST X W (.Compare a [op, op'] [b, c] pos) (fTest (fChain f h fa fb fc)) := by
  obtain ⟨r, h1, h2, h3⟩ := ho
  obtain ⟨r', h1', h2', h3'⟩ := ho'
  obtain ⟨ta, pa, sa⟩ := ha
  obtain ⟨tb, pb, sb⟩ := hb
  obtain ⟨tc, pc, sc⟩ := hc
  exact ⟨_, pt_chain h1 h1' pa pb pc hm, sim_test (sim_chain h2 h3 h2' h3' sa sb sc)⟩
end
end FL

/-! FLn: minus, x op= e; a body's function as it is; defs by what the head tells of them -/
namespace FL
open PySem PySem.Spec PyProof.Rows L2

def fNeg (f : FE) : FE := fun ρ st => (f ρ st).bind fun d st1 => match d with
  | .int i => .ok (.int (-i)) st1
  | _ => .no
section
variable {X : Cx} {W : WX}
theorem se_neg {a : Expr} {f : FE} {pos : Pos} (ha : SE X W a f) : SE X W (.UnaryOp .USub a pos) (fNeg f) := by
  obtain ⟨t, p, s⟩ := ha
  refine ⟨_, pe_un un_neg p, fun ρ σ st H C Q rs so q => s ρ σ st H C _ rs so (q.bind.imp fun d st1 C1 H1 so1 e1 h1 v rv => ?_)⟩
  cases d with
  | int i => cases rv; exact ⟨i, rfl, h1.here so1 _ (.int _)⟩
  | _ => exact h1.elim
end
theorem pl_list : PlainAttrs (Ty.nm .list) := F.plainAttrs_list
theorem pl_str : PlainAttrs (Ty.nm .str) := F.plainAttrs_str
theorem sl_list_append : Slot (Ty.nm .list) "append" "list.append" := slot_list_append
theorem sl_list_pop : Slot (Ty.nm .list) "pop" "list.pop" := F.slot_list_pop
theorem sl_str_join : Slot (Ty.nm .str) "join" "str.join" := F.slot_str_join
/-- sorted(..) into a cell -/
theorem c_sortedC {X : Cx} : ∃ r, CallR X (.builtin "sorted") r ∧ SimCR (gx X) r (kCell kSorted) ∧ NoX1 (kCell kSorted) := by
  refine ⟨_, cr_sortedA.or cr_sortedI, simcr_cell fun ds st H C vs Q so rv xs0 st' h => ?_, fun ds st c z st' h => by unfold kCell at h; split at h <;> cases h⟩
  unfold kSorted at h
  split at h
  · cases rv with
    | cons r1 r2 =>
      cases r2
      split at h
      · rename_i xs e
        obtain ⟨a, ys, rfl, h1, h2, _⟩ := itemsR_rep e so r1
        split at h
        · rename_i ss e2
          cases h
          rw [strsOf_eq e2] at h2
          rw [Reps.strs h2] at h1
          refine ⟨rfl, fun k => .inl ⟨a, ss.map sv, rfl, h1, fun zs p hp hs hn => ?_⟩⟩
          have e3 : zs = (srt leS ss).map sv := by
            have q1 : zs.map (fun z => z.cps.toList) = srt leS ss := srt_of ordS (by
              have := hp.map (fun z : Str => z.cps.toList)
              rw [List.map_map] at this
              have e4 : (fun z : Str => z.cps.toList) ∘ sv = id := by funext z; simp
              rw [e4, List.map_id] at this
              exact this) (List.pairwise_map.mpr (sortedS_pw hs))
            rw [← q1, List.map_map]
            have e5 : sv ∘ (fun z : Str => z.cps.toList) = id := by funext z; simp [sv]
            rw [e5, List.map_id]
          rw [e3]
          exact k _ p (Reps.of_strs _) hn
        · split at h
          · rename_i is e2
            cases h
            rw [intsOf_eq e2] at h2
            rw [Reps.ints h2] at h1
            refine ⟨rfl, fun k => .inr ⟨a, is, rfl, h1, fun ns p hp hs hn => ?_⟩⟩
            have e3 : ns = srt leI is := srt_of ordI hp (hs.imp fun h => by unfold leI; simpa using h)
            rw [e3]
            exact k _ p (Reps.of_ints _) hn
          · cases h
      · cases h
  · cases h
theorem RoomG.u65 {base : Heap} {k : Nat} {A : Around} (r : RoomG base k A) : A.units + 65 < cLine := by have := r.room.un; omega
theorem RoomG.u1 {base : Heap} {k : Nat} {A : Around} (r : RoomG base k A) : A.units + 1 < cLine := by have := r.room.un; omega
theorem RoomG.units {base : Heap} {k : Nat} {A : Around} (r : RoomG base k A) : A.units + 64 < cLine := by have := r.room.un; omega

section
variable {X : Cx} {W : WX}
theorem st_cmp {op : CmpOp} {a b : Expr} {fa fb : FE} {f : F2} {pos : Pos} (ho : ∃ r, OpR X (compareOp op) r ∧ SimR2 (gx X) r f ∧ NoX2 f) (ha : SE X W a fa) (hb : SE X W b fb) (hm : behindInMarks op b = false := by first | exact nomark _ | rfl) :
    ST X W (.Compare a [op] [b] pos) (fTest (fBin f fa fb)) := by
  obtain ⟨r, h1, h2, h3⟩ := ho
  obtain ⟨ta, pa, sa⟩ := ha
  obtain ⟨tb, pb, sb⟩ := hb
  exact ⟨_, pt_cmpR h1 pa pb hm, sim_test (sim_op h2 h3 sa sb)⟩
end
/-- a block's scope, checked -/
def blkB (N : List Str) (sc scope : Scope) (own : List (Str × Nat)) : Bool :=
  (match scope.kind with | .function => true | _ => false) && scope.names.all (fun y => decide (scope.names.lookup y.1 = some y.2)) && own.all (fun p => decide (N[p.2]? = some p.1)) &&
  scope.names.all (fun y => !decide (y.2 = .free) || decide (sc.names.lookup y.1 = some .cell) || decide (sc.names.lookup y.1 = some .free)) &&
  scope.names.all fun y => !(decide (y.2 = .local) || decide (y.2 = .cell)) || decide (y.1 ∈ own.map (·.1)) || decide (y.1 ∉ N)
theorem blkOk {N : List Str} {sc scope : Scope} {own : List (Str × Nat)} (h : blkB N sc scope own = true) : BlkOk N sc scope own := by
  unfold blkB at h
  simp only [Bool.and_eq_true, List.all_eq_true, Bool.or_eq_true, Bool.not_eq_true', decide_eq_true_eq, decide_eq_false_iff_not, Bool.or_eq_false_iff] at h
  obtain ⟨⟨⟨⟨h1, h2⟩, h3⟩, h4⟩, h5⟩ := h
  refine ⟨?_, h2, h3, fun y hy hf => ?_, fun y hy hl => ?_⟩
  · revert h1
    cases scope.kind <;> first | (intro _; rfl) | (intro h; cases h)
  · rcases h4 y hy with (h | h) | h
    · exact absurd hf h
    · exact .inl h
    · exact .inr h
  · rcases h5 y hy with (h | h) | h
    · rcases hl with q | q
      · exact absurd q h.1
      · exact absurd q h.2
    · exact .inl h
    · exact .inr h
/-- a body's function, as it is -/
def genF (N : List Str) (np : Nat) (fb : FS) : F1 := fun ds st => if ds.length = np then
    match fb (startE N ds) st with
    | .rt d st2 => .ok d st2
    | .nx _ st2 => .ok .non st2
    | .exc c x _ st2 => .exc c x st2
    | _ => .no
  else .no
/-- .. one that lets no error out -/
def genF0 (N : List Str) (np : Nat) (fb : FS) : F1 := fun ds st => (genF N np fb ds st).quiet
def CleanR (N : List Str) (np : Nat) (fb : FS) (ds : List D) (st : Sto) (r : R D) : Prop := match r with
  | .no => True
  | .ok d st2 => ds.length = np ∧ ((∃ d' st', fb (startE N ds) st = .rt d' st' ∧ Fz st st' d' st2 d) ∨ ∃ ρ' st', fb (startE N ds) st = .nx ρ' st' ∧ Fz st st' .non st2 d)
  | .exc c x st2 => ds.length = np ∧ ∃ x' ρ' st', fb (startE N ds) st = .exc c x' ρ' st' ∧ Fz st st' x' st2 x
theorem Clean.of {N : List Str} {np : Nat} {fb : FS} {F : F1} (h : ∀ ds st, CleanR N np fb ds st (F ds st)) : Clean N np fb F := fun ds st => by
  have h := h ds st
  show CleanR N np fb ds st (F ds st)
  exact h
theorem Clean.at_ {N : List Str} {np : Nat} {fb : FS} {F : F1} (h : Clean N np fb F) (ds : List D) (st : Sto) : CleanR N np fb ds st (F ds st) := h ds st
theorem clean_gen {N : List Str} {np : Nat} {fb : FS} : Clean N np fb (genF N np fb) := Clean.of fun ds st => by
  unfold genF
  split
  · rename_i h
    cases e : fb (startE N ds) st with
    | no => exact trivial
    | bk ρ s => exact trivial
    | ct ρ s => exact trivial
    | rt d s => exact ⟨h, .inl ⟨d, s, e, .same⟩⟩
    | nx ρ s => exact ⟨h, .inr ⟨ρ, s, e, .same⟩⟩
    | exc c x ρ s => exact ⟨h, x, ρ, s, e, .same⟩
  · exact trivial
theorem Clean.quiet {N : List Str} {np : Nat} {fb : FS} {F : F1} (c : Clean N np fb F) : Clean N np fb (fun ds st => (F ds st).quiet) := Clean.of fun ds st => by
  have h := c.at_ ds st
  revert h
  show CleanR N np fb ds st (F ds st) → CleanR N np fb ds st (F ds st).quiet
  cases F ds st with
  | no => exact fun _ => trivial
  | exc c x s => exact fun _ => trivial
  | ok d s => exact fun h => h
theorem nox_quiet {F : F1} : NoX1 (fun ds st => (F ds st).quiet) := fun ds st c z st' h => by
  revert h
  show (F ds st).quiet = _ → _
  cases F ds st with
  | no => exact fun h => nomatch h
  | exc c x s => exact fun h => nomatch h
  | ok d s => exact fun h => nomatch h
theorem clean_gen0 {N : List Str} {np : Nat} {fb : FS} : Clean N np fb (genF0 N np fb) := clean_gen.quiet
theorem nox_gen0 {N : List Str} {np : Nat} {fb : FS} : NoX1 (genF0 N np fb) := nox_quiet

/-- what the head tells of a def -/
structure HasD (K : PySem.W.Frag) (mg : Str → Option Value) (x : Str) (s : Stmt) : Prop where
  ex : ∃ f fd, mg x = some (.ref f) ∧ FunD K x x (defArgs s) (defBody s) (defScope s) [] [] f fd
abbrev BindsR (x : Str) (s : Stmt) (ps : List Str) : Prop := ∀ (kV doc pm : Value) (an : Option Addr) (cdv ct : Value) (us : List Value), us.length = ps.length → bindArgs (PySem.W.fnOf x x (defArgs s) (defBody s) (defScope s) .none kV doc pm an cdv ct) ⟨us, []⟩ = pure (ps.zip us)
def fNo : F1 := fun _ _ => .no
section
variable {P : Program} {w : World} {K : PySem.W.Frag} {mg : Str → Option Value} {base : Heap} {CX : CXT} {k : Nat} {s : Stmt} {x : Str} {ps N : List Str} {F : F1} {fb : FS}
theorem DefC.of0 (hd : HasD K mg x s) (S : FnScope N ps (defScope s)) (b : BindsR x s ps) (cl : Clean N ps.length fb F) (nx : NoX1 F)
    (hb : ∀ (cdv : Value) (A : Around) (outer : List Env) (sh : Shared) (H : Hp) (E : XK) (f : Addr), RoomG base k (A.deeper (envOfC x (defScope s) sh.heap.objs.size f cdv)) →
      SSs (cxOf CX0 P w K mg base N x (defScope s) f cdv A outer sh H E).nox W0 (defBody s) fb) : DefC P w K mg base CX0 (k + 1) s x ps F := by
  obtain ⟨f, fd, hm, FD⟩ := hd.ex
  exact DefC.mk0 FD hm S (FD.bindsN b) cl nx fun cdv A outer sh H E hr => hb cdv A outer sh H E f hr
/-- .. nothing said -/
theorem DefC.nil (hd : HasD K mg x s) (b : BindsR x s ps) : DefC P w K mg base CX k s x ps fNo := by
  obtain ⟨f, fd, hm, FD⟩ := hd.ex
  have z : ∀ vs H Q E, ¬ spF ⟨K, mg⟩ ps.length fNo vs H Q E := fun vs H Q E ⟨ds, st, C, r, l, so, q⟩ => q
  exact ⟨f, fd, hm, FD, FD.bindsN b, ⟨fun vs H Q E h => absurd h (z _ _ _ _), fun A outer s H args us vs Q E hr e hb hv h => absurd h (z _ _ _ _)⟩⟩
end
end FL

/-! FGb: the law's call, where no repr is under way -/
namespace FL
open PySem PySem.Spec PyProof.Rows L2

section
variable {P : Program} {w : World} {K : PySem.W.Frag} {mg mb : Str → Option Value} {k : Nat} {fa a : Addr} {fd : FuncData} {x : Str} {sp : Sp} {sh : Shared} {vs : List Value} {ns : List Int} {H : Hp}
/-- what is left of a heap without the script -/
theorem hid_ns (at_ : sh.heap.get? a = some { cls := .type "list", data := .seq vs.toArray }) (only : ∀ b, H b ≠ none → b = a) {b : Addr} {m : Str → Option Value} (h : sh.heap.Ns b m) : (hidT sh.heap H).Ns b m := by
  obtain ⟨o, es, ep, e, d, r⟩ := h
  refine ⟨o, es, ep, hidT_get e ?_, d, r⟩
  cases z : H b with
  | none => rfl
  | some u =>
    exfalso
    have : b = a := only b fun q => by rw [z] at q; cases q
    rw [this, at_] at e
    have e := (Option.some.inj e).symm
    subst e
    exact nomatch (show Data.seq vs.toArray _ = Data.dict es ep from d)
theorem hid_in (KX : K.In sh.heap) (only : ∀ b, H b ≠ none → b = a) (out : H a ≠ none → K.lookup a = none) : K.In (hidT sh.heap H) := by
  intro b o e
  refine hidT_get (KX b o e) ?_
  cases z : H b with
  | none => rfl
  | some u =>
    have q : b = a := only b fun q => by rw [z] at q; cases q
    have := out fun y => by rw [← q, z] at y; cases y
    rw [← q, e] at this
    cases this
theorem law_atH (KX : K.In sh.heap) (g : sh.heap.Ns mainGlobals mg) (b : sh.heap.Ns builtinsNs mb) (bb : ∀ y : Str, y ≠ "__name__" → mb y = bootBuiltins y) (nl : sh.heap.NoLimit) (gens : sh.gens = #[])
    (at_ : sh.heap.get? a = some { cls := .type "list", data := .seq vs.toArray }) (room : Room k callerA) (sys : ∃ m, sh.heap.Ns sysModules m) (F : ∀ base : Heap, FnG P w K mg base CX0 k fa fd [x] sp) (bind : ∀ (s : Shared) (u : Value), BindsTo s fd ⟨[u], []⟩ [(x, u)])
    (only : ∀ b, H b ≠ none → b = a) (out : H a ≠ none → K.lookup a = none) (O : Only H) (ok : HOk P w H sh.heap) (prom : sp [.ref a] H (fun v _ => v = .bl true) fun _ _ _ => False) :
    codeAny (model P w) callerA (.call (.ref fa) ⟨[.ref a], []⟩) (fun r s' => r = .ok (.ret (.bool true)) ∧ OldK sh.heap s'.heap ∧ s'.os = sh.os ∧ AllBare s'.gens) sh := by
  obtain ⟨ml, l1, l2⟩ := nl
  have E0 : Env0 P w K mg (hidT sh.heap H) callerA [] sh H := by
    refine ⟨rfl, ⟨hid_in KX only out, hid_ns at_ only g, ⟨mb, hid_ns at_ only b, bb⟩, ml, hid_ns at_ only l1, l2⟩, ?_, ?_, trivial, ?_, ok, .of_eq gens⟩
    · exact fun b o e => of_hidT e
    · exact Nat.le_of_eq (hidT_size _ _)
    · intro b hb; exact nomatch (show b ∈ ([] : List Addr) from hb)
  have base1 : ∃ o, (hidT sh.heap H).get? sysModules = some o := by
    obtain ⟨m, o, es, ep, e, d, r⟩ := sys
    refine ⟨o, hidT_get e ?_⟩
    cases z : H sysModules with
    | none => rfl
    | some u =>
      exfalso
      have q : sysModules = a := only _ fun y => by rw [z] at y; cases y
      rw [q, at_] at e
      have e := (Option.some.inj e).symm
      subst e
      exact nomatch (show Data.seq vs.toArray _ = Data.dict es ep from d)
  apply codeAny_mono ((F _).run callerA [] sh H ⟨[.ref a], []⟩ [.ref a] [.ref a] _ _ ⟨room, rfl, base1⟩ E0 (bind sh (.ref a)) (.cons rfl .nil) prom)
  intro r s' z
  match r, z with
  | .error e, z => exact z.elim
  | .ok (.ret u), ⟨v, H', os, bare, un, ok', rel, val⟩ =>
    have val : v = .bl true := val
    subst val
    have rel : u = Value.bool true := rel
    subst rel
    refine ⟨rfl, OldK.of_keep ?_, os, bare⟩
    intro b o e
    rcases O b with z | ⟨ob, ys, z⟩
    · exact un.keep b o e z (fun m => nomatch (show b ∈ ([] : List Addr) from m)) (by simp)
    · have e1 := (ok b _ z).1
      have e2 := (ok' b _ (un.frzs b ob _ z)).1
      rw [e] at e1
      rw [Option.some.inj e1]
      exact e2
theorem law_callG (KX : K.In sh.heap) (g : sh.heap.Ns mainGlobals mg) (b : sh.heap.Ns builtinsNs mb) (bb : ∀ y : Str, y ≠ "__name__" → mb y = bootBuiltins y) (nl : sh.heap.NoLimit) (gens : sh.gens = #[])
    (at_ : sh.heap.get? a = some { cls := .type "list", data := .seq vs.toArray }) (nums : IntsAre vs ns) (len : ns.length ≤ sizeLine) (room : Room k callerA) (sys : ∃ m, sh.heap.Ns sysModules m) (F : ∀ base : Heap, FnG P w K mg base CX0 k fa fd [x] sp) (bind : ∀ (s : Shared) (u : Value), BindsTo s fd ⟨[u], []⟩ [(x, u)])
    (prom : ∀ H : Hp, Only H → SqL K H a (ns.map V.int) → sp [.ref a] H (fun v _ => v = .bl true) fun _ _ _ => False) :
    codeAny (model P w) callerA (.call (.ref fa) ⟨[.ref a], []⟩) (fun r s' => r = .ok (.ret (.bool true)) ∧ OldK sh.heap s'.heap ∧ s'.os = sh.os ∧ AllBare s'.gens) sh := by
  have rel := vals_ints nums
  by_cases hk : K.lookup a = none
  · let H1 : Hp := fun b => if b = a then some (.frz { cls := .type "list", data := .seq vs.toArray } (.lst (ns.map V.int))) else none
    have h1 : H1 a = some (.frz { cls := .type "list", data := .seq vs.toArray } (.lst (ns.map V.int))) := if_pos rfl
    have h2 : ∀ b, b ≠ a → H1 b = none := fun b q => if_neg q
    have O : Only H1 := fun b => by
      by_cases q : b = a
      · rw [q]; exact .inr ⟨_, _, h1⟩
      · exact .inl (h2 b q)
    refine law_atH (H := H1) KX g b bb nl gens at_ room sys F bind (fun b q => ?_) (fun _ => hk) O (fun b u z => ?_) (prom H1 O (.inl (.inr ⟨_, h1⟩)))
    · by_cases e : b = a
      · exact e
      · exact absurd (h2 b e) q
    · by_cases e : b = a
      · subst e
        rw [h1] at z
        cases z
        exact ⟨at_, by rw [List.length_map]; exact len, vs, _, rel, at_⟩
      · rw [h2 b e] at z; cases z
  · obtain ⟨o, ho⟩ := Option.ne_none_iff_exists'.mp hk
    have e := KX a o ho
    rw [at_] at e
    cases e
    have O : Only (fun _ => none) := fun b => .inl rfl
    exact law_atH (H := fun _ => none) KX g b bb nl gens at_ room sys F bind (fun b q => absurd rfl q) (fun q => absurd rfl q) O (fun b u z => nomatch (show (none : Option HO) = some u from z))
      (prom _ O (.inr ⟨_, vs.toArray, _, ho, rfl, rfl, rfl, by rw [List.size_toArray, nums.length]; exact len, by simpa using rel⟩))
/-- the row's promise out of the law's -/
theorem walk_ofG {l : PySem.W.OpenLaw} {n k : Nat} {q : Program} {loose : List Str} {XP : (Str → Option Value) → Heap → Prop} {YP : World → Heap → Prop} {d : DefRec} {x : Str} (hn : l.most = some n) (hs : n ≤ sizeLine) (hd : d.params.defaults = []) (room : Room k callerA) (hi : importsNone q = true)
    (F : ∀ (w : World) (mg : Str → Option Value) (fa : Addr) (h : Heap), YP w h → h.Ns mainGlobals mg → mg d.name = some (.ref fa) →
      ∃ (K : PySem.W.Frag) (fd : FuncData) (sp : Sp), K.In h ∧ (∀ (s : Shared) (u : Value), BindsTo s fd ⟨[u], []⟩ [(x, u)]) ∧
        (∀ (H : Hp) (a : Addr) (ns : List Int), ns.length ≤ n → Only H → SqL K H a (ns.map V.int) → sp [.ref a] H (fun v _ => v = .bl true) fun _ _ _ => False) ∧ ∀ base : Heap, FnG l.prog w K mg base CX0 k fa fd [x] sp) :
    PySem.W.WalkO q loose XP YP l.row.toRowW d [] (fun f vs => PySem.call f vs) := by
  apply Att.attach_call hn hd
  intro w s₀ s₁ mg mb fa o pm cd doc a vs ns G Y ho hd2 hcd hm hobj nums few gens
  obtain ⟨K, fd, sp, inK, bind, prom, fn⟩ := F w mg fa _ Y G.T.g hm
  exact law_callG inK G.T.g G.T.b G.T.builtins G.T.nolimit gens hobj nums (Nat.le_trans few hs) room ⟨_, (G.T.seer hi).mods.choose_spec.1⟩ fn bind fun H O S => prom H a ns few O S
end
end FL

/-! FLo: how the functions evaluate: rewriting rules, loops without and with a changing store -/
namespace FL
open PySem PySem.Spec PyProof.Rows L2

section
variable {α β : Type} {ρ : En} {st : Sto} {f h a b c : FE} {t u : FT} {fa ga : FA} {d : D}
@[simp] theorem R.quiet_ok' {a : α} {st : Sto} : R.quiet (.ok a st) = .ok a st := (rfl)
@[simp] theorem R.quiet_no : R.quiet (.no : R α) = .no := (rfl)
@[simp] theorem R.quiet_exc {c : Nat} {x : D} {st : Sto} : R.quiet (.exc c x st : R α) = .no := (rfl)
@[simp] theorem ev_C : fC d ρ st = .ok d st := (rfl)
@[simp] theorem ev_Var {i : Nat} : fVar i ρ st = (match ρ[i]? with | some (some d) => .ok d st | _ => .no) := (rfl)
@[simp] theorem ev_Nil : faNil ρ st = .ok [] st := (rfl)
@[simp] theorem ev_Cons : faCons f fa ρ st = (f ρ st).bind fun d st1 => (fa ρ st1).bind fun ds st2 => .ok (d :: ds) st2 := (rfl)
@[simp] theorem ev_Bin {g : F2} : fBin g a b ρ st = (a ρ st).bind fun x st1 => (b ρ st1).bind fun y st2 => g x y st2 := (rfl)
@[simp] theorem ev_Test : fTest f ρ st = (f ρ st).bind fun d st1 => (match d with | .bl b => .ok b st1 | _ => .no) := (rfl)
@[simp] theorem ev_NotT : fNotT t ρ st = (t ρ st).bind fun b st1 => .ok (!b) st1 := (rfl)
@[simp] theorem ev_AndT : fAndT t u ρ st = (t ρ st).bind fun b st1 => if b = true then u ρ st1 else .ok false st1 := (rfl)
@[simp] theorem ev_OrT : fOrT t u ρ st = (t ρ st).bind fun b st1 => if b = true then .ok true st1 else u ρ st1 := (rfl)
@[simp] theorem ev_AndE : fAndE f h ρ st = (f ρ st).bind fun d st1 => (match d with | .bl b => if b = true then h ρ st1 else .ok (.bl false) st1 | _ => .no) := (rfl)
@[simp] theorem ev_OrE : fOrE f h ρ st = (f ρ st).bind fun d st1 => (match d with | .bl b => if b = true then .ok (.bl true) st1 else h ρ st1 | _ => .no) := (rfl)
@[simp] theorem ev_NotE : fNotE f ρ st = (f ρ st).bind fun d st1 => (match d with | .bl b => .ok (.bl (!b)) st1 | _ => .no) := (rfl)
@[simp] theorem ev_IfE : fIfE t f h ρ st = (t ρ st).bind fun b st1 => if b = true then f ρ st1 else h ρ st1 := (rfl)
@[simp] theorem ev_Lst : fLst fa ρ st = (fa ρ st).bind fun ds st1 => if ds.length ≤ lim then .ok (.lst ds) st1 else .no := (rfl)
@[simp] theorem ev_LstC : fLstC fa ρ st = (fa ρ st).bind fun ds st1 => if ds.length ≤ lim then .ok (.cel st1.length) (st1 ++ [.lst ds]) else .no := (rfl)
@[simp] theorem ev_Tup : fTup fa ρ st = (fa ρ st).bind fun ds st1 => if ds.length ≤ lim then .ok (.tup ds) st1 else .no := (rfl)
@[simp] theorem ev_CB {g : F1} : fCB g fa ρ st = (fa ρ st).bind fun ds st1 => g ds st1 := (rfl)
@[simp] theorem ev_Call {n : Nat} {F : F1} : fCall n F fa ρ st = (fa ρ st).bind fun ds st1 => if ds.length = n then F ds st1 else .no := (rfl)
@[simp] theorem ev_CallK {ix : List Nat} {n : Nat} {F : F1} : fCallK ix n F fa ρ st = (fa ρ st).bind fun ds st1 => if ds.length = n then (F (pick ix ds) st1).quiet else .no := (rfl)
@[simp] theorem ev_Neg : fNeg f ρ st = (f ρ st).bind fun d st1 => (match d with | .int i => .ok (.int (-i)) st1 | _ => .no) := (rfl)
@[simp] theorem ev_Rev : fRev f ρ st = (f ρ st).bind fun x st1 => gRev x st1 := (rfl)
@[simp] theorem ev_oNone : foNone ρ st = .ok none st := (rfl)
@[simp] theorem ev_oSome : foSome f ρ st = (f ρ st).bind fun d st1 => (match d with | .int i => .ok (some i) st1 | _ => .no) := (rfl)
@[simp] theorem ev_Cut {l u : FO} : fCut f l u ρ st = (f ρ st).bind fun x st1 => (l ρ st1).bind fun lo st2 => (u ρ st2).bind fun hi st3 => gCut x lo hi st3 := (rfl)
@[simp] theorem ev_Chain {g k : F2} : fChain g k a b c ρ st = (a ρ st).bind fun x st1 => (b ρ st1).bind fun y st2 => (g x y st2).bind fun d st3 => (match d with
  | .bl true => (c ρ st3).bind fun z st4 => k y z st4
  | .bl false => .ok (.bl false) st3
  | _ => .no) := (rfl)
@[simp] theorem ev_Lc {cell : Bool} {src : FI} {g : FG} {vs : List Nat} : fLc cell src g t f vs ρ st = (src ρ st).bind fun s st1 => (runL s (turnL g t f vs ρ) st1).bind fun ys st2 => endL cell ys st2 := (rfl)
@[simp] theorem ev_Bits : fBits f ρ st = (f ρ st).bind fun d st1 => (match d with | .int i => .ok (.int (Builtin.Int.intBits i)) st1 | _ => .no) := (rfl)
@[simp] theorem ev_Bm {T : Ty} {m : FM} : fBm T m f fa ρ st = (f ρ st).bind fun x st1 => if tyIs T st1 x = true then (fa ρ st1).bind fun ds st2 => m x ds st2 else .no := (rfl)
@[simp] theorem ev_List : iList f ρ st = (f ρ st).bind fun d st1 => (match d with
  | .cel n => (match st1[n]? with
    | some (.lst _) => .ok (.cel n) st1
    | _ => .no)
  | .str s => .ok (.fix (s.map fun c => .str [c])) st1
  | .tup ds => .ok (.fix ds) st1
  | d => (match itemsR st1 d with
    | some ds => .ok (.fix ds) st1
    | none => .no)) := (rfl)
@[simp] theorem ev_Range1 : iRange1 f ρ st = (f ρ st).bind fun d st1 => (match d with
  | .int j => if okR j = true then .ok (.fix ((rng 0 j).map D.int)) st1 else .no
  | _ => .no) := (rfl)
@[simp] theorem ev_Range2 : iRange2 f h ρ st = (f ρ st).bind fun d st1 => (h ρ st1).bind fun d2 st2 => (match d, d2 with
  | .int i, .int j => if okR i = true ∧ okR j = true then .ok (.fix ((rng i j).map D.int)) st2 else .no
  | _, _ => .no) := (rfl)
@[simp] theorem ev_Zip : iZip fa ρ st = (fa ρ st).bind fun ds st1 => R.opt (zipS st1 ds) st1 := (rfl)
variable {s r : FS} {g : FG} {src : FI}
@[simp] theorem ev_Next : fNext ρ st = .nx ρ st := (rfl)
@[simp] theorem ev_Never : fNever ρ st = .no := (rfl)
@[simp] theorem ev_Brk : fBrk ρ st = .bk ρ st := (rfl)
@[simp] theorem ev_Cnt : fCnt ρ st = .ct ρ st := (rfl)
@[simp] theorem ev_Drop : fDrop f ρ st = (f ρ st).toO ρ fun _ st1 => .nx ρ st1 := (rfl)
@[simp] theorem ev_Ret : fRet f ρ st = (f ρ st).toO ρ fun d st1 => .rt d st1 := (rfl)
@[simp] theorem ev_RetN : fRetN ρ st = .rt .non st := (rfl)
@[simp] theorem ev_Seq : fSeq s r ρ st = (match s ρ st with | .nx ρ1 st1 => r ρ1 st1 | o => o) := (rfl)
@[simp] theorem ev_If : fIf t s r ρ st = (t ρ st).toO ρ fun b st1 => if b = true then s ρ st1 else r ρ st1 := (rfl)
@[simp] theorem ev_Name {i : Nat} : hName i d ρ st = .ok (ρ.set i (some d)) st := (rfl)
@[simp] theorem ev_hNil : hNil [] ρ st = .ok ρ st := (rfl)
@[simp] theorem ev_hCons {k : FGs} {ds : List D} : hCons g k (d :: ds) ρ st = (g d ρ st).quiet.bind fun ρ1 st1 => k ds ρ1 st1 := (rfl)
@[simp] theorem ev_hTup {n : Nat} {k : FGs} {ds : List D} : hTup n k (.tup ds) ρ st = if ds.length = n then (k ds ρ st).quiet else .no := (rfl)
@[simp] theorem ev_hSub {o i : FE} : hSub o i d ρ st = (o ρ st).bind fun x st1 => (i ρ st1).bind fun y st2 => (gSet x y d st2).bind fun _ st3 => .ok ρ st3 := (rfl)
@[simp] theorem ev_Asg : fAsg f g ρ st = (f ρ st).toO ρ fun d st1 => (g d ρ st1).toO ρ fun ρ1 st2 => .nx ρ1 st2 := (rfl)
@[simp] theorem ev_Par {i j : Nat} : fPar i j fa ρ st = (fa ρ st).toO ρ fun ds st1 => (match ds with
  | [a, b] => .nx ((ρ.set i (some a)).set j (some b)) st1
  | _ => .no) := (rfl)
@[simp] theorem ev_Par3 {i j l : Nat} : fPar3 i j l fa ρ st = (fa ρ st).toO ρ fun ds st1 => (match ds with
  | [a, b, c] => .nx (((ρ.set i (some a)).set j (some b)).set l (some c)) st1
  | _ => .no) := (rfl)
@[simp] theorem ev_For : fFor src g s ρ st = (src ρ st).toO ρ fun z st1 => (match z with
  | .fix ds => loopF g s ds ρ st1
  | z => loopN z g s (srcLen z st1 + 1) 0 ρ st1) := (rfl)
@[simp] theorem ev_step_nx {k : En → Sto → O} : stepO (.nx ρ st) k = k ρ st := (rfl)
@[simp] theorem ev_step_ct {k : En → Sto → O} : stepO (.ct ρ st) k = k ρ st := (rfl)
@[simp] theorem ev_step_bk {k : En → Sto → O} : stepO (.bk ρ st) k = .nx ρ st := (rfl)
@[simp] theorem ev_step_rt {k : En → Sto → O} : stepO (.rt d st) k = .rt d st := (rfl)
@[simp] theorem ev_gen0 {N : List Str} {np : Nat} {fb : FS} {ds : List D} : genF0 N np fb ds st = (genF N np fb ds st).quiet := (rfl)
@[simp] theorem ev_gen {N : List Str} {np : Nat} {fb : FS} {ds : List D} : genF N np fb ds st = if ds.length = np then
    (match fb (startE N ds) st with
    | .rt d st2 => .ok d st2
    | .nx _ st2 => .ok .non st2
    | .exc c x _ st2 => .exc c x st2
    | _ => .no)
  else .no := (rfl)
@[simp] theorem ev_start {N : List Str} {ds : List D} : startE N ds = ds.map some ++ List.replicate (N.length - ds.length) none := (rfl)
theorem ev_turn {g : FG} {vs : List Nat} : turnL g t f vs ρ d st = (g d (wipeE ρ vs) st).quiet.bind fun ρ2 st2 => (t ρ2 st2).quiet.bind fun b st3 => if b = true then (f ρ2 st3).quiet.bind fun y st4 => .ok (some y) st4 else .ok none st3 := (rfl)
@[simp] theorem ev_wipe0 : wipeE ρ [] = ρ := (rfl)
@[simp] theorem ev_wipe1 {i : Nat} {vs : List Nat} : wipeE ρ (i :: vs) = (wipeE ρ vs).set i none := (rfl)
@[simp] theorem ev_runL_fix {ds : List D} {T : D → Sto → R (Option D)} : runL (.fix ds) T st = lcL T ds st := (rfl)
@[simp] theorem ev_Yes : fYes ρ st = .ok true st := (rfl)
end
/-! ### loops that leave the store -/
theorem lcL_pure {T : D → Sto → R (Option D)} {g : D → Option D} {st : Sto} : ∀ {ds : List D}, (∀ d ∈ ds, T d st = .ok (g d) st) → lcL T ds st = .ok (ds.filterMap g) st
  | [], _ => rfl
  | d :: ds, h => by
    rw [lcL, h d List.mem_cons_self, R.bind_ok, lcL_pure (ds := ds) fun x hx => h x (List.mem_cons_of_mem _ hx), R.bind_ok]
    cases e : g d with
    | none => rw [List.filterMap_cons_none e]; rfl
    | some y => rw [List.filterMap_cons_some e]; rfl
theorem lcL_map {γ : Type} {T : D → Sto → R (Option D)} {p : γ → D} {g : γ → Option D} {st : Sto} {xs : List γ} (h : ∀ x ∈ xs, T (p x) st = .ok (g x) st) : lcL T (xs.map p) st = .ok (xs.filterMap g) st := by
  induction xs with
  | nil => rfl
  | cons x xs ih =>
    rw [List.map_cons, lcL, h x List.mem_cons_self, R.bind_ok, ih fun y hy => h y (List.mem_cons_of_mem _ hy), R.bind_ok]
    cases e : g x with
    | none => rw [List.filterMap_cons_none e]; rfl
    | some y => rw [List.filterMap_cons_some e]; rfl
/-- a turn in the words of the target's value -/
theorem filterMap_if {γ : Type} (c : γ → Bool) (p : γ → D) (xs : List γ) : xs.filterMap (fun x => if c x = true then some (p x) else none) = (xs.filter c).map p := by
  induction xs with
  | nil => rfl
  | cons x xs ih =>
    by_cases h : c x = true
    · rw [List.filterMap_cons_some (by rw [if_pos h]), List.filter_cons_of_pos h, List.map_cons, ih]
    · rw [List.filterMap_cons_none (by rw [if_neg h]), List.filter_cons_of_neg h, ih]
theorem filterMap_some' {γ : Type} (p : γ → D) (xs : List γ) : xs.filterMap (fun x => some (p x)) = xs.map p := by
  have h := filterMap_if (fun _ => true) p xs
  simpa using h
/-- .. that change the store, under a promise I i st of the turn i -/
theorem lcL_inv {γ : Type} {T : D → Sto → R (Option D)} {p : γ → D} (I : Nat → Sto → Prop) (Y : D → Prop) : ∀ (xs : List γ) (i : Nat) (st : Sto), I i st →
    (∀ x ∈ xs, ∀ j st, j < i + xs.length → I j st → ∃ y st', T (p x) st = .ok (some y) st' ∧ Y y ∧ I (j + 1) st') → ∃ ys st', lcL T (xs.map p) st = .ok ys st' ∧ (∀ y ∈ ys, Y y) ∧ ys.length = xs.length ∧ I (i + xs.length) st'
  | [], i, st, h, _ => ⟨[], st, rfl, by simp, rfl, h⟩
  | x :: xs, i, st, h, q => by
    obtain ⟨y, st1, h1, h2, h3⟩ := q x List.mem_cons_self i st (by simp) h
    obtain ⟨ys, st2, k1, k2, k3, k4⟩ := lcL_inv I Y xs (i + 1) st1 h3 fun x hx j st hj => q x (List.mem_cons_of_mem _ hx) j st (by simp; omega)
    refine ⟨y :: ys, st2, by rw [List.map_cons, lcL, h1, R.bind_ok, k1, R.bind_ok]; rfl, fun z hz => ?_, by simp [k3], by rw [List.length_cons, show i + (xs.length + 1) = i + 1 + xs.length from by omega]; exact k4⟩
    rcases List.mem_cons.mp hz with rfl | hz
    · exact h2
    · exact k2 z hz
/-- a for loop under a promise -/
theorem loopF_inv {γ : Type} {g : FG} {b : FS} {p : γ → D} (I : Nat → En → Sto → Prop) : ∀ (xs : List γ) (i : Nat) (ρ : En) (st : Sto), I i ρ st →
    (∀ k (hk : k < xs.length), ∀ ρ st, I (i + k) ρ st → ∃ ρ' st', ((g (p xs[k]) ρ st).toO ρ fun ρ1 st1 => b ρ1 st1) = .nx ρ' st' ∧ I (i + k + 1) ρ' st') → ∃ ρ' st', loopF g b (xs.map p) ρ st = .nx ρ' st' ∧ I (i + xs.length) ρ' st'
  | [], i, ρ, st, h, _ => ⟨ρ, st, rfl, h⟩
  | x :: xs, i, ρ, st, h, q => by
    obtain ⟨ρ1, st1, h1, h2⟩ := q 0 (by simp) ρ st h
    obtain ⟨ρ2, st2, k1, k2⟩ := loopF_inv I xs (i + 1) ρ1 st1 h2 fun k hk ρ st hI => by
      have := q (k + 1) (by simpa using hk) ρ st (by rw [show i + (k + 1) = i + 1 + k from by omega]; exact hI)
      obtain ⟨ρ', st', e1, e2⟩ := this
      exact ⟨ρ', st', by simpa using e1, by rw [show i + 1 + k + 1 = i + (k + 1) + 1 from by omega]; exact e2⟩
    refine ⟨ρ2, st2, ?_, by rw [List.length_cons, show i + (xs.length + 1) = i + 1 + xs.length from by omega]; exact k2⟩
    rw [List.map_cons, loopF]
    simp only [List.getElem_cons_zero] at h1
    cases e : g (p x) ρ st with
    | no => rw [e] at h1; cases h1
    | exc c y s => rw [e] at h1; cases h1
    | ok ρ3 st3 =>
      rw [e] at h1
      simp only [R.toO_ok] at h1 ⊢
      rw [h1]
      exact k1
end FL

/-! FLp: equality of plain data, places, pieces, evaluated -/
namespace FL
open PySem PySem.Spec PyProof.Rows L2

def okT (s : List Nat) : Prop := s.all okCp = true
section
variable {st : Sto} {n k : Nat} {s t : List Nat} {i j : Int}
@[simp] theorem toPy_non : toPy st n .non = some .none := by cases n <;> rfl
@[simp] theorem toPy_bl {b : Bool} : toPy st n (.bl b) = some (.bool b) := by cases n <;> rfl
@[simp] theorem toPy_int : toPy st n (.int i) = some (.int i) := by cases n <;> rfl
theorem toPy_str (h : okT s) : toPy st n (.str s) = some (.str (sv s)) := by
  have h : s.all okCp = true := h
  cases n with
  | zero => show (if s.all okCp = true then _ else _) = _; rw [if_pos h]
  | succ n => show (if s.all okCp = true then _ else _) = _; rw [if_pos h]
theorem toPy_lst {ds : List D} : toPy st (n + 1) (.lst ds) = (ds.mapM (toPy st n)).map .list := rfl
theorem toPy_tup {ds : List D} : toPy st (n + 1) (.tup ds) = (ds.mapM (toPy st n)).map .tuple := rfl
theorem toPy_ro {ds : List D} : toPy st (n + 1) (.ro ds) = (ds.mapM (toPy st n)).map .list := rfl
theorem toPy_cel {ds : List D} (h : st[k]? = some (.lst ds)) : toPy st (n + 1) (.cel k) = (ds.mapM (toPy st n)).map .list := by
  show (items st (.cel k)).bind _ = _
  have e : items st (.cel k) = some ds := by
    show (match st[k]? with
      | some (.lst ds) => some ds
      | _ => none) = _
    rw [h]
  rw [e]
  rfl
theorem mapM_of {f : D → Option PyData} {γ : Type} {p : γ → D} {g : γ → PyData} : ∀ {xs : List γ}, (∀ x ∈ xs, f (p x) = some (g x)) → (xs.map p).mapM f = some (xs.map g)
  | [], _ => by simp
  | x :: xs, h => by
    rw [List.map_cons, List.mapM_cons, h x List.mem_cons_self, mapM_of (xs := xs) fun y hy => h y (List.mem_cons_of_mem _ hy)]
    rfl
theorem toPy_strs {ss : List (List Nat)} (h : ∀ s ∈ ss, okT s) : (ss.map D.str).mapM (toPy st n) = some (ss.map fun s => .str (sv s)) := mapM_of fun s hs => toPy_str (h s hs)
theorem toPy_ints {is : List Int} : (is.map D.int).mapM (toPy st n) = some (is.map .int) := mapM_of fun _ _ => toPy_int
theorem toPy_bls {bs : List Bool} : (bs.map D.bl).mapM (toPy st n) = some (bs.map .bool) := mapM_of fun _ _ => toPy_bl
theorem sv_inj (h : sv s = sv t) : s = t := by
  have := congrArg (fun z : Str => z.cps.toList) h
  simpa using this
theorem eqv_str : PyData.eqv (.str (sv s)) (.str (sv t)) = decide (s = t) := by
  show (sv s == sv t) = _
  by_cases e : s = t
  · subst e; simp
  · rw [decide_eq_false e, beq_eq_false_iff_ne]
    exact fun h => e (sv_inj h)
theorem eqvAll_strs : ∀ (ss ts : List (List Nat)), PyData.eqvAll (ss.map fun s => .str (sv s)) (ts.map fun s => .str (sv s)) = decide (ss = ts)
  | [], [] => rfl
  | [], _ :: _ => rfl
  | _ :: _, [] => rfl
  | s :: ss, t :: ts => by
    show (PyData.eqv (.str (sv s)) (.str (sv t)) && PyData.eqvAll _ _) = _
    rw [eqv_str, eqvAll_strs ss ts]
    by_cases h1 : s = t <;> by_cases h2 : ss = ts <;> simp [h1, h2]
@[simp] theorem gEq_int : gEq (.int i) (.int j) st = .ok (.bl (decide (i = j))) st := by
  unfold gEq gEqN
  rw [toPy_int, toPy_int]
  show R.ok (D.bl (false != (i == j))) st = _
  by_cases h : i = j <;> simp [h]
@[simp] theorem gNe_int : gNe (.int i) (.int j) st = .ok (.bl (decide (i ≠ j))) st := by
  unfold gNe gEqN
  rw [toPy_int, toPy_int]
  show R.ok (D.bl (true != (i == j))) st = _
  by_cases h : i = j <;> simp [h]
@[simp] theorem gEq_bl {a b : Bool} : gEq (.bl a) (.bl b) st = .ok (.bl (a == b)) st := by
  unfold gEq gEqN
  rw [toPy_bl, toPy_bl]
  show R.ok (D.bl (false != (a == b))) st = _
  simp
@[simp] theorem gNe_bl {a b : Bool} : gNe (.bl a) (.bl b) st = .ok (.bl (a != b)) st := by
  unfold gNe gEqN
  rw [toPy_bl, toPy_bl]
  show R.ok (D.bl (true != (a == b))) st = _
  cases a <;> cases b <;> rfl
theorem gEq_str (h1 : okT s) (h2 : okT t) : gEq (.str s) (.str t) st = .ok (.bl (decide (s = t))) st := by
  unfold gEq gEqN
  rw [toPy_str h1, toPy_str h2]
  show R.ok (D.bl (false != PyData.eqv _ _)) st = _
  rw [eqv_str]
  simp
theorem gNe_str (h1 : okT s) (h2 : okT t) : gNe (.str s) (.str t) st = .ok (.bl (decide (s ≠ t))) st := by
  unfold gNe gEqN
  rw [toPy_str h1, toPy_str h2]
  show R.ok (D.bl (true != PyData.eqv _ _)) st = _
  rw [eqv_str]
  by_cases h : s = t <;> simp [h]
theorem okT_nil : okT [] := rfl
/-- a plain list and [] -/
theorem gNe_nil {d : D} {ds : List D} {ps : List PyData} (h : toPy st 40 d = some (.list ps)) (hl : ps.length = ds.length) : gNe d (.lst []) st = .ok (.bl (decide (ds ≠ []))) st := by
  unfold gNe gEqN
  rw [h, show toPy st 40 (.lst []) = some (.list []) from rfl]
  cases ds with
  | nil =>
    have : ps = [] := List.length_eq_zero_iff.mp hl
    subst this
    rfl
  | cons x xs =>
    cases ps with
    | nil => simp at hl
    | cons p ps => simp [PyData.eqv, PyData.eqvAll]
theorem gEq_nil {d : D} {ds : List D} {ps : List PyData} (h : toPy st 40 d = some (.list ps)) (hl : ps.length = ds.length) : gEq d (.lst []) st = .ok (.bl (decide (ds = []))) st := by
  unfold gEq gEqN
  rw [h, show toPy st 40 (.lst []) = some (.list []) from rfl]
  cases ds with
  | nil =>
    have : ps = [] := List.length_eq_zero_iff.mp hl
    subst this
    rfl
  | cons x xs =>
    cases ps with
    | nil => simp at hl
    | cons p ps => simp [PyData.eqv, PyData.eqvAll]
/-! ### arithmetic -/
@[simp] theorem gAdd_int : gAdd (.int i) (.int j) st = .ok (.int (i + j)) st := (rfl)
@[simp] theorem gSub_int : gSub (.int i) (.int j) st = .ok (.int (i - j)) st := (rfl)
theorem gMul_int (h : cMul i j = true) : gMul (.int i) (.int j) st = .ok (.int (i * j)) st := by
  show (if cMul i j = true then _ else _) = _
  rw [if_pos h]
theorem cMul_l (h : i.natAbs < 18446744073709551616) : cMul i j = true := by unfold cMul; simp [h]
theorem cMul_r (h : j.natAbs < 18446744073709551616) : cMul i j = true := by unfold cMul; simp [h]
theorem gMod_int (h : 0 < j) : gMod (.int i) (.int j) st = .ok (.int (i % j)) st := by
  show (if cMod i j = true then _ else _) = _
  rw [if_pos (by unfold cMod; simpa using h)]
theorem gDiv_int (h : 0 < j) (h2 : j < 18446744073709551616) : gDiv (.int i) (.int j) st = .ok (.int (i / j)) st := by
  show (if cDiv i j = true then _ else _) = _
  rw [if_pos (by unfold cDiv; have h3 : j.natAbs < 18446744073709551616 := by omega
                 simp only [h, h3, decide_true, Bool.and_self])]
theorem gPow_int (h : cPow i j = true) : gPow (.int i) (.int j) st = .ok (.int (i ^ j.toNat)) st := by
  show (if cPow i j = true then _ else _) = _
  rw [if_pos h]
theorem gAdd_str (h : s.length + t.length ≤ lim) : gAdd (.str s) (.str t) st = .ok (.str (s ++ t)) st := by
  show (if s.length + t.length ≤ lim then _ else _) = _
  rw [if_pos h]
theorem gAdd_lst {a b : List D} (h : a.length + b.length ≤ lim) : gAdd (.lst a) (.lst b) st = .ok (.lst (a ++ b)) st := by
  show (if a.length + b.length ≤ lim then _ else _) = _
  rw [if_pos h]
theorem gMul_str (h1 : j.natAbs < 1000000) (h : s.length * j.toNat ≤ lim) : gMul (.str s) (.int j) st = .ok (.str (repL j s)) st := by
  show (if j.natAbs < 1000000 ∧ s.length * j.toNat ≤ lim then _ else _) = _
  rw [if_pos ⟨h1, h⟩]
@[simp] theorem gLt_int : gLt (.int i) (.int j) st = .ok (.bl (decide (i < j))) st := (rfl)
@[simp] theorem gLe_int : gLe (.int i) (.int j) st = .ok (.bl (decide (i ≤ j))) st := (rfl)
@[simp] theorem gGt_int : gGt (.int i) (.int j) st = .ok (.bl (decide (j < i))) st := (rfl)
@[simp] theorem gGe_int : gGe (.int i) (.int j) st = .ok (.bl (decide (j ≤ i))) st := (rfl)
/-! ### places, pieces -/
theorem atI_nat {α : Type} {xs : List α} {m : Nat} : atI xs (m : Int) = xs[m]? := by
  unfold atI ixN
  rw [if_pos (by omega)]
  by_cases h : (m : Int) < xs.length
  · rw [if_pos h]; simp
  · rw [if_neg h, List.getElem?_eq_none (by omega)]; rfl
theorem atI_zero {α : Type} {xs : List α} : atI xs 0 = xs[0]? := atI_nat (m := 0)
theorem atI_last {α : Type} {xs : List α} : atI xs (-1) = xs.getLast? := by
  unfold atI ixN
  rw [if_neg (by omega)]
  cases xs with
  | nil => rfl
  | cons x xs =>
    rw [if_pos (by simp; omega), List.getLast?_eq_getElem?]
    have : ((-1 : Int) + ((x :: xs).length : Int)).toNat = (x :: xs).length - 1 := by simp only [List.length_cons]; omega
    rw [Option.bind_some, this]
theorem gIx_lst {ds : List D} {d : D} (h : atI ds i = some d) : gIx (.lst ds) (.int i) st = .ok d st := by
  show (match atI ds i with
    | some d => R.ok d st
    | none => .no) = _
  rw [h]
theorem gIx_tup {ds : List D} {d : D} (h : atI ds i = some d) : gIx (.tup ds) (.int i) st = .ok d st := by
  show (match atI ds i with
    | some d => R.ok d st
    | none => .no) = _
  rw [h]
theorem gIx_ro {ds : List D} {d : D} (h : atI ds i = some d) : gIx (.ro ds) (.int i) st = .ok d st := by
  show (match atI ds i with
    | some d => R.ok d st
    | none => .no) = _
  rw [h]
theorem itemsS_cel {ds : List D} (h : st[k]? = some (.lst ds)) : itemsS st (.cel k) = some ds := by
  show (match st[k]? with
    | some (.lst ds) => some ds
    | _ => none) = _
  rw [h]
theorem itemsR_cel {ds : List D} (h : st[k]? = some (.lst ds)) : itemsR st (.cel k) = some ds := itemsS_cel h
theorem items_cel {ds : List D} (h : st[k]? = some (.lst ds)) : items st (.cel k) = some ds := itemsS_cel h
theorem gIx_cel {ds : List D} {d : D} (hc : st[k]? = some (.lst ds)) (h : atI ds i = some d) : gIx (.cel k) (.int i) st = .ok d st := by
  show (match itemsS st (.cel k) with
    | some xs => (match atI xs i with
      | some d => R.ok d st
      | none => .no)
    | none => _) = _
  rw [itemsS_cel hc]
  show (match atI ds i with
    | some d => R.ok d st
    | none => .no) = _
  rw [h]
theorem gIx_str {c : Nat} (hl : s.length ≤ lim) (h : atI s i = some c) : gIx (.str s) (.int i) st = .ok (.str [c]) st := by
  show (if s.length ≤ lim then _ else _) = _
  rw [if_pos hl, h]
theorem gCut_str {lo hi : Option Int} (h : s.length ≤ lim) : gCut (.str s) lo hi st = .ok (.str (cut s lo hi)) st := by
  show (if s.length ≤ lim then _ else _) = _
  rw [if_pos h]
@[simp] theorem gCut_lst {lo hi : Option Int} {ds : List D} : gCut (.lst ds) lo hi st = .ok (.lst (cut ds lo hi)) st := (rfl)
@[simp] theorem gCut_ro {lo hi : Option Int} {ds : List D} : gCut (.ro ds) lo hi st = .ok (.lst (cut ds lo hi)) st := (rfl)
theorem cut_drop {α : Type} {xs : List α} {m : Nat} : cut xs (some (m : Int)) none = xs.drop m := by
  unfold cut
  rw [HT.sIx_none, HT.sIx_nat, List.take_of_length_le (by rw [List.length_drop]; omega)]
  by_cases h : m ≤ xs.length
  · rw [Nat.min_eq_left h]
  · rw [Nat.min_eq_right (by omega), List.drop_length, List.drop_eq_nil_of_le (by omega)]
theorem cut_take {α : Type} {xs : List α} {m : Nat} : cut xs none (some (m : Int)) = xs.take m := by
  unfold cut
  rw [HT.sIx_none, HT.sIx_nat, List.drop_zero, Nat.sub_zero]
  by_cases h : m ≤ xs.length
  · rw [Nat.min_eq_left h]
  · rw [Nat.min_eq_right (by omega), List.take_length, List.take_of_length_le (by omega)]
theorem cut_mid {α : Type} {xs : List α} {m k : Nat} : cut xs (some (m : Int)) (some (k : Int)) = (xs.drop m).take (k - m) := by
  unfold cut
  rw [HT.sIx_nat, HT.sIx_nat]
  by_cases h : m ≤ xs.length
  · rw [Nat.min_eq_left h]
    by_cases h2 : k ≤ xs.length
    · rw [Nat.min_eq_left h2]
    · rw [Nat.min_eq_right (by omega), List.take_of_length_le (by rw [List.length_drop]; omega), List.take_of_length_le (by rw [List.length_drop]; omega)]
  · rw [Nat.min_eq_right (by omega : xs.length ≤ m), List.drop_length, List.drop_eq_nil_of_le (by omega : xs.length ≤ m)]
    simp
/-! ### calls -/
theorem kLen_str (h : s.length ≤ lim) : kLen [.str s] st = .ok (.int s.length) st := by
  show (if s.length ≤ lim then _ else _) = _
  rw [if_pos h]
@[simp] theorem kLen_lst {ds : List D} : kLen [.lst ds] st = .ok (.int ds.length) st := (rfl)
@[simp] theorem kLen_tup {ds : List D} : kLen [.tup ds] st = .ok (.int ds.length) st := (rfl)
@[simp] theorem kLen_ro {ds : List D} : kLen [.ro ds] st = .ok (.int ds.length) st := (rfl)
theorem kLen_cel {ds : List D} (h : st[k]? = some (.lst ds)) : kLen [.cel k] st = .ok (.int ds.length) st := by
  show (match itemsS st (.cel k) with
    | some xs => R.ok (D.int xs.length) st
    | none => _) = _
  rw [itemsS_cel h]
@[simp] theorem kInt_int : kInt [.int i] st = .ok (.int i) st := (rfl)
theorem kMax_int : kMax [.int i, .int j] st = .ok (.int (max i j)) st := rfl
theorem kMin_int : kMin [.int i, .int j] st = .ok (.int (min i j)) st := rfl
end
end FL

/-! FSa: printed by tool/flp.py: what the bodies of the rings' defs and of the laws' common helpers do -/
namespace FL
open PySem PySem.Spec PyProof.Rows L2
abbrev N_is_whole : List Str := ["value"]
def fb_is_whole : FS := (fRet (fAndE (fCB kIsi (faCons (fVar 0) (faCons (fC (.ty .int)) faNil))) (fNotE (fCB kIsi (faCons (fVar 0) (faCons (fC (.ty .bool)) faNil))))))
def F_is_whole : F1 := genF0 N_is_whole 1 fb_is_whole

abbrev N_is_count : List Str := ["value"]
def fb_is_count : FS := (fRet (fAndE (fCall 1 F_is_whole (faCons (fVar 0) faNil)) (fBin gGe (fVar 0) (fC (.int 0)))))
def F_is_count : F1 := genF0 N_is_count 1 fb_is_count

abbrev N_is_signs : List Str := ["value", "signs", "sign"]
def fb_is_signs : FS := (fRet (fAndE (fCB kIsi (faCons (fVar 0) (faCons (fC (.ty .str)) faNil))) (fBin gEq (fLc false (iList (fVar 0)) (hName 2) (fTest (fBin gNotIn (fVar 2) (fVar 1))) (fVar 2) [2]) (fLst faNil))))
def F_is_signs : F1 := genF0 N_is_signs 2 fb_is_signs

abbrev N_check_number : List Str := ["value"]
def fb_check_number : FS := (fIf (fNotT (fTest (fCall 1 F_is_count (faCons (fVar 0) faNil)))) fNever fNext)
def F_check_number : F1 := genF0 N_check_number 1 fb_check_number

abbrev N_is_story : List Str := ["value"]
def fb_is_story : FS := (fRet (fCall 2 F_is_signs (faCons (fVar 0) (faCons (fC (.str [97, 98, 99, 100, 101, 102, 103, 104, 105, 106, 107, 108, 109, 110, 111, 112, 113, 114, 115, 116, 117, 118, 119, 120, 121, 122])) faNil))))
def F_is_story : F1 := genF0 N_is_story 1 fb_is_story

abbrev N_is_scrap : List Str := ["value"]
def fb_is_scrap : FS := (fRet (fAndE (fCall 1 F_is_story (faCons (fVar 0) faNil)) (fBin gNe (fVar 0) (fC (.str [])))))
def F_is_scrap : F1 := genF0 N_is_scrap 1 fb_is_scrap

abbrev N_check_scrap : List Str := ["scrap"]
def fb_check_scrap : FS := (fIf (fNotT (fTest (fCall 1 F_is_scrap (faCons (fVar 0) faNil)))) fNever fNext)
def F_check_scrap : F1 := genF0 N_check_scrap 1 fb_check_scrap

abbrev N_turned_by : List Str := ["scrap", "many", "at"]
def fb_turned_by : FS := (fSeq (fAsg (fBin gMod (fVar 1) (fCB kLen (faCons (fVar 0) faNil))) (hName 2))
  (fRet (fBin gAdd (fCut (fVar 0) (foSome (fVar 2)) foNone) (fCut (fVar 0) foNone (foSome (fVar 2))))))
def F_turned_by : F1 := genF0 N_turned_by 2 fb_turned_by

abbrev N_ring_turned : List Str := ["scrap", "many"]
def fb_ring_turned : FS := (fSeq (fDrop (fCall 1 F_check_scrap (faCons (fVar 0) faNil)))
  (fSeq (fDrop (fCall 1 F_check_number (faCons (fVar 1) faNil)))
  (fRet (fCall 2 F_turned_by (faCons (fVar 0) (faCons (fVar 1) faNil))))))
def F_ring_turned : F1 := genF0 N_ring_turned 2 fb_ring_turned

abbrev N_root_size : List Str := ["scrap", "size"]
def fb_root_size : FS := (fRet (fBin gIx (fLc false (iRange2 (fC (.int 1)) (fBin gAdd (fCB kLen (faCons (fVar 0) faNil)) (fC (.int 1)))) (hName 1) (fTest (fBin gEq (fCall 2 F_turned_by (faCons (fVar 0) (faCons (fVar 1) faNil))) (fVar 0))) (fVar 1) [1]) (fC (.int 0))))
def F_root_size : F1 := genF0 N_root_size 1 fb_root_size

abbrev N_all_turnings : List Str := ["scrap", "many"]
def fb_all_turnings : FS := (fRet (fCB (kCell kSorted) (faCons (fLc false (iRange1 (fCall 1 F_root_size (faCons (fVar 0) faNil))) (hName 1) fYes (fCall 2 F_turned_by (faCons (fVar 0) (faCons (fVar 1) faNil))) [1]) faNil)))
def F_all_turnings : F1 := genF0 N_all_turnings 1 fb_all_turnings

abbrev N_ring_turnings : List Str := ["scrap"]
def fb_ring_turnings : FS := (fSeq (fDrop (fCall 1 F_check_scrap (faCons (fVar 0) faNil)))
  (fRet (fCall 1 F_all_turnings (faCons (fVar 0) faNil))))
def F_ring_turnings : F1 := genF0 N_ring_turnings 1 fb_ring_turnings

abbrev N_least_turning : List Str := ["scrap"]
def fb_least_turning : FS := (fSeq (fDrop (fCall 1 F_check_scrap (faCons (fVar 0) faNil)))
  (fRet (fBin gIx (fCall 1 F_all_turnings (faCons (fVar 0) faNil)) (fC (.int 0)))))
def F_least_turning : F1 := genF0 N_least_turning 1 fb_least_turning

abbrev N_turns_to : List Str := ["one", "other", "found", "many"]
def fb_turns_to : FS := (fSeq (fDrop (fCall 1 F_check_scrap (faCons (fVar 0) faNil)))
  (fSeq (fDrop (fCall 1 F_check_scrap (faCons (fVar 1) faNil)))
  (fSeq (fAsg (fLc false (iRange1 (fCB kLen (faCons (fVar 0) faNil))) (hName 3) (fTest (fBin gEq (fCall 2 F_turned_by (faCons (fVar 0) (faCons (fVar 3) faNil))) (fVar 1))) (fVar 3) [3]) (hName 2))
  (fRet (fIfE (fTest (fBin gNe (fVar 2) (fLst faNil))) (fBin gIx (fVar 2) (fC (.int 0))) (fC .non))))))
def F_turns_to : F1 := genF0 N_turns_to 2 fb_turns_to

abbrev N_root_of : List Str := ["scrap"]
def fb_root_of : FS := (fSeq (fDrop (fCall 1 F_check_scrap (faCons (fVar 0) faNil)))
  (fRet (fCut (fVar 0) foNone (foSome (fCall 1 F_root_size (faCons (fVar 0) faNil))))))
def F_root_of : F1 := genF0 N_root_of 1 fb_root_of

abbrev N__law_hash : List Str := ["seed", "index", "mixed"]
def fb__law_hash : FS := (fSeq (fAsg (fBin gMod (fCB kInt (faCons (fBin gAdd (fBin gAdd (fBin gAdd (fBin gMul (fVar 0) (fC (.int 1140671))) (fBin gMul (fBin gMul (fC (.int 27644437)) (fVar 1)) (fVar 1))) (fBin gMul (fC (.int 131)) (fVar 1))) (fC (.int 19))) faNil)) (fC (.int 2147483629))) (hName 2))
  (fSeq (fAsg (fBin gMod (fCB kInt (faCons (fBin gAdd (fBin gAdd (fBin gMul (fVar 2) (fVar 2)) (fBin gMul (fC (.int 62089)) (fVar 1))) (fC (.int 32416187))) faNil)) (fC (.int 2147483587))) (hName 2))
  (fRet (fBin gMod (fCB kInt (faCons (fBin gMul (fVar 2) (fC (.int 48271))) faNil)) (fC (.int 2147483647))))))
def F__law_hash : F1 := genF0 N__law_hash 2 fb__law_hash

abbrev N__law_cell : List Str := ["script", "index"]
def fb__law_cell : FS := (fSeq (fIf (fTest (fBin gLt (fVar 1) (fCB kLen (faCons (fVar 0) faNil)))) (fRet (fBin gIx (fVar 0) (fVar 1))) fNext)
  (fRet (fBin gMod (fCB kSum (faCons (fCut (fVar 0) foNone (foSome (fC (.int 1)))) faNil)) (fC (.int 1000003)))))
def F__law_cell : F1 := genF0 N__law_cell 2 fb__law_cell

abbrev N__law_generator : List Str := ["script", "index", "seed"]
def fb__law_generator : FS := (fSeq (fAsg (fCall 2 F__law_cell (faCons (fVar 0) (faCons (fVar 1) faNil))) (hName 2))
  (fRet (fLstC (faCons (fBin gMod (fCB kInt (faCons (fCB kMax (faCons (fBin gSub (fVar 2) (fBin gPow (fC (.int 10)) (fC (.int 18)))) (faCons (fC (.int 0)) faNil))) faNil)) (fBin gPow (fBin gPow (fC (.int 10)) (fC (.int 60))) (fC (.int 10)))) (faCons (fBin gMod (fCB kInt (faCons (fVar 2) faNil)) (fC (.int 2147483647))) (faCons (fBin gMul (fC (.int 1000)) (fVar 1)) faNil))))))
def F__law_generator : F1 := genF0 N__law_generator 2 fb__law_generator

abbrev N__law_random : List Str := ["generator", "bound", "drawn", "turn"]
def fb__law_random : FS := (fSeq (fIf (fTest (fBin gGt (fBin gIx (fVar 0) (fC (.int 0))) (fC (.int 0)))) (fSeq (fAsg (fBin gMod (fCB kInt (faCons (fBin gIx (fVar 0) (fC (.int 0))) faNil)) (fVar 1)) (hName 2))
  (fSeq (fAsg (fBin gDiv (fBin gIx (fVar 0) (fC (.int 0))) (fVar 1)) (hSub (fVar 0) (fC (.int 0))))
  (fRet (fVar 2)))) fNext)
  (fSeq (fAsg (fC (.int 0)) (hName 2))
  (fSeq (fFor (iRange1 (fBin gAdd (fC (.int 1)) (fBin gDiv (fBits (fVar 1)) (fC (.int 30))))) (hName 3) (fSeq (fAsg (fBin gAdd (fBin gIx (fVar 0) (fC (.int 2))) (fC (.int 1))) (hSub (fVar 0) (fC (.int 2))))
  (fAsg (fBin gAdd (fBin gMul (fVar 2) (fC (.int 2147483587))) (fCall 2 F__law_hash (faCons (fBin gIx (fVar 0) (fC (.int 1))) (faCons (fBin gIx (fVar 0) (fC (.int 2))) faNil)))) (hName 2))))
  (fRet (fBin gMod (fCB kInt (faCons (fVar 2) faNil)) (fVar 1))))))
def F__law_random : F1 := genF0 N__law_random 2 fb__law_random

abbrev N__law_pick : List Str := ["generator", "things"]
def fb__law_pick : FS := (fRet (fBin gIx (fVar 1) (fCall 2 F__law_random (faCons (fVar 0) (faCons (fCB kLen (faCons (fVar 1) faNil)) faNil)))))
def F__law_pick : F1 := genF0 N__law_pick 2 fb__law_pick

abbrev N__law_marked : List Str := ["told", "kept", "item"]
def fb__law_marked (F : F1) : FS := (fSeq (fIf (fTest (fCB kIsi (faCons (fVar 0) (faCons (fC (.ty .list)) faNil)))) (fSeq (fIf (fAndT (fTest (fBin gNe (fVar 0) (fLst faNil))) (fTest (fBin gEq (fBin gIx (fVar 0) (fNeg (fC (.int 1)))) (fC (.str [109, 97, 114, 107, 101, 100]))))) (fRet (fC (.bl false))) fNext)
  (fSeq (fAsg (fLc false (iList (fVar 0)) (hName 2) fYes (fCall 1 F (faCons (fVar 2) faNil)) [2]) (hName 1))
  (fSeq (fDrop (fBm .list mAppend (fVar 0) (faCons (fC (.str [109, 97, 114, 107, 101, 100])) faNil)))
  (fRet (fBin gNotIn (fC (.bl false)) (fVar 1)))))) fNext)
  (fSeq (fIf (fTest (fCB kIsi (faCons (fVar 0) (faCons (fC (.ty .tuple)) faNil)))) (fRet (fBin gNotIn (fC (.bl false)) (fLc false (iList (fVar 0)) (hName 2) fYes (fCall 1 F (faCons (fVar 2) faNil)) [2]))) fNext)
  (fRet (fOrE (fBin gIs (fVar 0) (fC .non)) (fCB kIsi (faCons (fVar 0) (faCons (fTup (faCons (fC (.ty .int)) (faCons (fC (.ty .str)) faNil))) faNil)))))))
def F__law_marked : Nat → F1
  | 0 => fNo
  | n + 1 => genF0 N__law_marked 1 (fb__law_marked (F__law_marked n))

abbrev N__law_exact : List Str := ["told", "due", "one", "other"]
def fb__law_exact (F : F1) : FS := (fSeq (fIf (fTest (fCB kIsi (faCons (fVar 1) (faCons (fC (.ty .list)) faNil)))) (fRet (fAndE (fCB kIsi (faCons (fVar 0) (faCons (fC (.ty .list)) faNil))) (fAndE (fBin gEq (fCB kLen (faCons (fVar 0) faNil)) (fCB kLen (faCons (fVar 1) faNil))) (fBin gNotIn (fC (.bl false)) (fLc false (iZip (faCons (fVar 0) (faCons (fVar 1) faNil))) (hTup 2 (hCons (hName 2) (hCons (hName 3) hNil))) fYes (fCall 2 F (faCons (fVar 2) (faCons (fVar 3) faNil))) [2, 3]))))) fNext)
  (fSeq (fIf (fTest (fCB kIsi (faCons (fVar 1) (faCons (fC (.ty .tuple)) faNil)))) (fRet (fAndE (fCB kIsi (faCons (fVar 0) (faCons (fC (.ty .tuple)) faNil))) (fAndE (fBin gEq (fCB kLen (faCons (fVar 0) faNil)) (fCB kLen (faCons (fVar 1) faNil))) (fBin gNotIn (fC (.bl false)) (fLc false (iZip (faCons (fVar 0) (faCons (fVar 1) faNil))) (hTup 2 (hCons (hName 2) (hCons (hName 3) hNil))) fYes (fCall 2 F (faCons (fVar 2) (faCons (fVar 3) faNil))) [2, 3]))))) fNext)
  (fSeq (fIf (fTest (fBin gIs (fVar 1) (fC .non))) (fRet (fBin gIs (fVar 0) (fC .non))) fNext)
  (fSeq (fIf (fTest (fBin gIs (fVar 1) (fC (.bl true)))) (fRet (fBin gIs (fVar 0) (fC (.bl true)))) fNext)
  (fSeq (fIf (fTest (fBin gIs (fVar 1) (fC (.bl false)))) (fRet (fBin gIs (fVar 0) (fC (.bl false)))) fNext)
  (fSeq (fIf (fTest (fCB kIsi (faCons (fVar 1) (faCons (fC (.ty .int)) faNil)))) (fRet (fAndE (fCB kIsi (faCons (fVar 0) (faCons (fC (.ty .int)) faNil))) (fAndE (fNotE (fCB kIsi (faCons (fVar 0) (faCons (fC (.ty .bool)) faNil)))) (fBin gEq (fVar 0) (fVar 1))))) fNext)
  (fRet (fAndE (fCB kIsi (faCons (fVar 0) (faCons (fC (.ty .str)) faNil))) (fBin gEq (fVar 0) (fVar 1))))))))))
def F__law_exact : Nat → F1
  | 0 => fNo
  | n + 1 => genF0 N__law_exact 2 (fb__law_exact (F__law_exact n))

abbrev N__law_unlike : List Str := ["items", "found", "item"]
def fb__law_unlike : FS := (fSeq (fAsg (fLstC faNil) (hName 1))
  (fSeq (fFor (iList (fCB kSorted (faCons (fVar 0) faNil))) (hName 2) (fIf (fTest (fBin gNotIn (fVar 2) (fVar 1))) (fDrop (fBm .list mAppend (fVar 1) (faCons (fVar 2) faNil))) fNext))
  (fRet (fVar 1))))
def F__law_unlike : F1 := genF0 N__law_unlike 1 fb__law_unlike

abbrev N__law_scrap : List Str := ["generator", "signs", "most", "at"]
def fb__law_scrap : FS := (fRet (fBm .str mJoin (fC (.str [])) (faCons (fLc false (iRange1 (fBin gAdd (fC (.int 1)) (fCall 2 F__law_random (faCons (fVar 0) (faCons (fVar 2) faNil))))) (hName 3) fYes (fCall 2 F__law_pick (faCons (fVar 0) (faCons (fCB kList (faCons (fVar 1) faNil)) faNil))) [3]) faNil)))
def F__law_scrap : F1 := genF0 N__law_scrap 3 fb__law_scrap

abbrev N__law_turning : List Str := ["scrap", "many", "found", "turn"]
def fb__law_turning : FS := (fSeq (fAsg (fCB kList (faCons (fVar 0) faNil)) (hName 2))
  (fSeq (fFor (iRange1 (fVar 1)) (hName 3) (fAsg (fBin gAdd (fCut (fVar 2) (foSome (fC (.int 1))) foNone) (fCut (fVar 2) foNone (foSome (fC (.int 1))))) (hName 2)))
  (fRet (fBm .str mJoin (fC (.str [])) (faCons (fVar 2) faNil)))))
def F__law_turning : F1 := genF0 N__law_turning 2 fb__law_turning

abbrev N__law_turnings : List Str := ["scrap", "many"]
def fb__law_turnings : FS := (fRet (fCall 1 F__law_unlike (faCons (fLc false (iRange1 (fCB kLen (faCons (fVar 0) faNil))) (hName 1) fYes (fCall 2 F__law_turning (faCons (fVar 0) (faCons (fVar 1) faNil))) [1]) faNil)))
def F__law_turnings : F1 := genF0 N__law_turnings 1 fb__law_turnings

end FL

/-! FLr: what is never reached; {}; dicts walked, locked meanwhile -/
namespace FL
open PySem PySem.Spec PyProof.Rows L2

def fNeverE : FE := fun _ _ => .no
def fDctC : FE := fun _ st => .ok (.cel st.length) (st ++ [.dct []])
def fDctT : FE := fun _ st => .ok (.dct []) st
def iKeysD (f : FE) : FI := fun ρ st => (f ρ st).bind fun d st1 => match d with
  | .cel n => match st1[n]? with
    | some (.lck es) => .ok (.fix (es.map (·.1))) st1
    | _ => .no
  | _ => .no
def fLock (i : Nat) (f : FE) : FE := fun ρ st => match ρ[i]? with
  | some (some (.cel n)) => match st[n]? with
    | some (.dct es) => (f ρ (st.set n (.lck es))).quiet.bind fun d st1 => match st1[n]? with
      | some (.lck es1) => .ok d (st1.set n (.dct es1))
      | _ => .no
    | _ => .no
  | _ => .no
theorem RepKs.at_ {K : PySem.W.Frag} {H : Hp} {C : Ad} : ∀ {es : List (D × D)} {kvs : List (Key × V)} {i : Nat}, RepKs K H C kvs es →
    (∀ d, (es.map (·.1))[i]? = some d → ∃ k v, kvs[i]? = some (k, v) ∧ RepKey k d)
  | [], _, _, _, d, e => by simp at e
  | (q, d') :: es, _, 0, h, d, e => by
    cases h with
    | cons h0 h1 h2 =>
      simp at e
      subst e
      exact ⟨_, _, rfl, h0⟩
  | (q, d') :: es, _, i + 1, h, d, e => by
    cases h with
    | cons h0 h1 h2 =>
      obtain ⟨k, v, a, b⟩ := RepKs.at_ (i := i) h2 d (by simpa using e)
      exact ⟨k, v, by simpa using a, b⟩
theorem repKey_kV {K : PySem.W.Frag} {H : Hp} {C : Ad} {k : Key} {d : D} (h : RepKey k d) : Rep K H C (kV k) d := by
  cases h with
  | int i => exact .int i
  | str s => exact .str s
section
variable {X : Cx} {W : WX} {e tg : Expr} {f : FE} {pos : Pos}
theorem se_never : SE X W e fNeverE := ⟨fun _ _ _ => False, ⟨fun pins s σ H Q I h => h.elim⟩, fun ρ σ st H C Q rs so h => h.elim⟩
theorem se_dnewC : SE X W (.Dict [] [] pos) fDctC := ⟨_, pe_dnewK, fun ρ σ st H C Q rs so h p hp =>
  h.now (so.cell hp ⟨[], upd_same, .nil⟩) (Ext.cell hp) _ (.cel (by show (C.c ++ [p])[st.length]? = some p; rw [← so.len]; simp))⟩
theorem se_dnewT : SE X W (.Dict [] [] pos) fDctT := ⟨_, pe_dnewK, fun ρ σ st H C Q rs so h p hp =>
  h.now (so.tree hp) (Ext.tree hp) _ (.dct upd_same (.inl rfl) (so.fresh hp) .nil)⟩
theorem si_keys (he : SE X W e f) : SI X W tg e (iKeysD f) := by
  obtain ⟨t, p, s⟩ := he
  refine ⟨_, pi_keys p, fun ρ σ st H C P rs so q => s ρ σ st H C _ rs so (q.bind.imp fun d st1 C1 H1 so1 e1 q1 v rv => ?_)⟩
  cases d with
  | cel n =>
    have q1 : After (gx X) _ C1 H1 (match st1[n]? with
      | some (.lck es) => R.ok (Src.fix (es.map (·.1))) st1
      | _ => .no) _ := q1
    cases rv with
    | @cel a _ hc =>
      split at q1
      · rename_i es hn
        obtain ⟨ob, kvs, h1, h2⟩ := so1.ok _ _ _ hc hn
        refine ⟨a, ob, rfl, .inl ⟨kvs, h1, q1.here so1 _ ?_⟩⟩
        intro st2 C2 H2 so2 e2 fz i o hn2
        have hn2 : (es.map (·.1))[i]? = o := Option.some.inj hn2
        have h3 : H2 a = some (.frz ob (.dK kvs)) := fz _ _ h1 rfl
        have hl := h2.length
        cases o with
        | some d =>
          obtain ⟨k, v, k1, k2⟩ := h2.at_ d hn2
          refine ⟨⟨h3, (List.getElem?_eq_some_iff.mp k1).1⟩, fun x H' hy => ?_⟩
          obtain ⟨rfl, k', v', y1, rfl⟩ := hy
          rw [k1] at y1
          cases y1
          exact ⟨so2, .refl, repKey_kV k2⟩
        | none =>
          have := List.getElem?_eq_none_iff.mp hn2
          rw [List.length_map] at this
          exact ⟨h3, by rw [hl]; exact this⟩
      · exact q1.elim
  | _ => exact q1.elim
end
section
variable {X : Cx} {W : WX} {e : Expr} {f : FE}
theorem se_lock (i : Nat) (he : SE X W e f) : SE X W e (fLock i f) := by
  obtain ⟨t, p, s⟩ := he
  refine ⟨_, pe_lock p, fun ρ σ st H C Q rs so q => ?_⟩
  unfold fLock at q
  split at q
  case h_2 => exact q.elim
  rename_i n hρ
  split at q
  case h_2 => exact q.elim
  rename_i es hn
  obtain ⟨v, hv1, hv2⟩ := rs.2 i _ hρ
  cases hv2 with
  | @cel a _ hc =>
    obtain ⟨kvs, h1, h2⟩ := so.ok _ _ _ hc hn
    have ha : a ∈ C.c := List.mem_of_getElem? hc
    refine ⟨a, .dK kvs, h1, trivial, fun od => ?_⟩
    have S1 : Stay C H C (upd H a (.frz od (.dK kvs))) := ⟨List.prefix_rfl, fun b hb _ => hb, fun b o hb ho => by
      have : b ≠ a := fun z => ho.1 (z ▸ ha)
      rw [upd_ne this]; exact hb⟩
    have hln : n < st.length := (List.getElem?_eq_some_iff.mp hn).1
    have so1 : StoOk X.K (upd H a (.frz od (.dK kvs))) C (st.set n (.lck es)) := by
      refine ⟨by rw [List.length_set]; exact so.len, so.nd, fun m b o hb ho => ?_, fun b hb => ?_, so.ap⟩
      · by_cases hm : m = n
        · subst hm
          rw [hc] at hb
          cases hb
          rw [List.getElem?_set_self hln] at ho
          cases ho
          exact ⟨od, kvs, upd_same, h2.monoS S1⟩
        · rw [List.getElem?_set_ne (Ne.symm hm)] at ho
          have hba : b ≠ a := fun z => hm (nodup_at so.nd (z ▸ hb) hc)
          exact (so.ok m b o hb ho).monoS S1 fun u hu => by rw [upd_ne hba]; exact hu
      · by_cases hba : b = a
        · subst hba; rw [upd_same]; exact fun z => nomatch z
        · rw [upd_ne hba]; exact so.pt b hb
    refine s ρ σ (st.set n (.lck es)) (upd H a (.frz od (.dK kvs))) C _ (rs.monoS S1) so1 ?_
    cases ef : f ρ (st.set n (.lck es)) with
    | no => rw [ef] at q; exact q.elim
    | exc c x st1 => rw [ef] at q; exact q.elim
    | ok d st1 =>
      rw [ef] at q
      have q : After (gx X) _ C H (match st1[n]? with
        | some (.lck es1) => R.ok d (st1.set n (.dct es1))
        | _ => .no) _ := q
      intro C' H' so' ex v rv
      have hfz : H' a = some (.frz od (.dK kvs)) := ex.frz _ _ upd_same rfl
      refine ⟨hfz, ?_⟩
      split at q
      · rename_i es1 hn1
        have hc' := ex.get hc
        have ha' : a ∈ C'.c := List.mem_of_getElem? hc'
        obtain ⟨ob, kvs', k1, k2⟩ := so'.ok _ _ _ hc' hn1
        rw [hfz] at k1
        cases k1
        have S2 : Stay C' H' C' (upd H' a (.dK kvs)) := ⟨List.prefix_rfl, fun b hb _ => hb, fun b o hb ho => by
          have : b ≠ a := fun z => ho.1 (z ▸ ha')
          rw [upd_ne this]; exact hb⟩
        have hl1 : n < st1.length := (List.getElem?_eq_some_iff.mp hn1).1
        refine q C' (upd H' a (.dK kvs)) ?_ ?_ v (rv.monoS S2)
        · refine ⟨by rw [List.length_set]; exact so'.len, so'.nd, fun m b o hb ho => ?_, fun b hb => ?_, so'.ap⟩
          · by_cases hm : m = n
            · subst hm
              rw [hc'] at hb
              cases hb
              rw [List.getElem?_set_self hl1] at ho
              cases ho
              exact ⟨kvs, upd_same, k2.monoS S2⟩
            · rw [List.getElem?_set_ne (Ne.symm hm)] at ho
              have hba : b ≠ a := fun z => hm (nodup_at so'.nd (z ▸ hb) hc')
              exact (so'.ok m b o hb ho).monoS S2 fun u hu => by rw [upd_ne hba]; exact hu
          · by_cases hba : b = a
            · subst hba; rw [upd_same]; exact fun z => nomatch z
            · rw [upd_ne hba]; exact so'.pt b hb
        · refine ⟨ex.pre, ex.priv, fun b hb => ?_, fun b o hb hbc => ?_, fun b o hb hf => ?_, fun b o hb => ?_⟩
          · rcases ex.new b hb with z | z
            · exact .inl z
            · by_cases hba : b = a
              · subst hba; exact .inl ha
              · rw [upd_ne hba] at z; exact .inr z
          · have hba : b ≠ a := fun z => hbc (z ▸ ha)
            rw [upd_ne hba]
            exact ex.keep b o (by rw [upd_ne hba]; exact hb) hbc
          · have hba : b ≠ a := fun z => by
              subst z
              rw [h1] at hb
              cases hb
              cases hf
            rw [upd_ne hba]
            exact ex.frz b o (by rw [upd_ne hba]; exact hb) hf
          · by_cases hba : b = a
            · subst hba; rw [upd_same]; exact fun z => nomatch z
            · rw [upd_ne hba]
              exact ex.trk b o (by rw [upd_ne hba]; exact hb)
      · exact q.elim
end
end FL

/-! FLs: min of a list of texts or of numbers -/
namespace FL
open PySem PySem.Spec PyProof.Rows L2

def minL (s : List Nat) (ss : List (List Nat)) : List Nat := ss.foldl (fun a y => if y < a then y else a) s
theorem minD_strs : ∀ (ss : List (List Nat)) (s : List Nat), PySem.W.minD (.str (sv s)) (ss.map fun t => .str (sv t)) = .str (sv (minL s ss))
  | [], s => rfl
  | t :: ts, s => by
    have e : PySem.W.minD (.str (sv s)) ((t :: ts).map fun t => .str (sv t)) = PySem.W.minD (if PySem.W.dataLt (.str (sv t)) (.str (sv s)) then .str (sv t) else .str (sv s)) (ts.map fun t => .str (sv t)) := rfl
    rw [e, PySem.W.dataLt_str, sv_tl, sv_tl]
    show _ = PyData.str (sv (minL (if t < s then t else s) ts))
    by_cases h : t < s
    · rw [if_pos h, decide_eq_true h, if_pos rfl, minD_strs ts t]
    · rw [if_neg h, decide_eq_false h, if_neg Bool.false_ne_true, minD_strs ts s]
theorem dpAll_strs {K : PySem.W.Frag} {H : Hp} : ∀ ss : List (List Nat), DpAll K H ((ss.map sv).map V.str) (ss.map fun s => .str (sv s))
  | [] => .nil
  | s :: ss => .cons (.str _) (dpAll_strs ss)
theorem depthAll_strs : ∀ ss : List (List Nat), PyData.depthAll (ss.map fun s => .str (sv s)) = 0
  | [] => rfl
  | s :: ss => by
    show max _ (PyData.depthAll (ss.map fun s => .str (sv s))) = 0
    rw [depthAll_strs ss]
    rfl
section
variable {X : Cx}
def rMinS (K : PySem.W.Frag) : List V → Hp → VK → Prop := fun vs H Q => ∃ (a : Addr) (s : List Nat) (ss : List (List Nat)), vs = [V.ref a] ∧ SqL K H a (((s :: ss).map sv).map V.str) ∧ Q (.str (sv (minL s ss))) H
theorem cr_minS (hc : X.calm = true) (hu : X.A.units + 64 < cLine) : CallR X (.builtin "min") (rMinS X.K) := by
  intro pins s σ H vs us Q I r h
  obtain ⟨a, t, ts, rfl, hs, q⟩ := h
  obtain ⟨its, rv, hl, _⟩ := I.list hs
  rw [Vals.ref1 r]
  obtain ⟨as, ra⟩ := Dp.readsAll I _ _ its (dpAll_strs (t :: ts)) rv
  have al : PySem.W.AlikeAll ((t :: ts).map fun s => PyData.str (sv s)) := ⟨fun x hx y hy => by
    obtain ⟨p, _, rfl⟩ := List.mem_map.mp hx
    obtain ⟨q, _, rfl⟩ := List.mem_map.mp hy
    simp only [PySem.W.alike], fun x hx e => by
    obtain ⟨p, _, rfl⟩ := List.mem_map.mp hx
    cases e⟩
  refine PySem.W.min_list_data (I.ok.hd hc) hl.isList (by simpa using ra) al (by
    have := depthAll_strs (t :: ts)
    rw [List.map_cons] at this
    rw [this]; omega) fun i v h' tk bs hv rd hk => ?_
  rw [minD_strs] at rd
  cases rd
  exact ⟨.str _, H, I.kept hk, ⟨_, rfl⟩, q⟩
def ltSt (a b : Str) : Bool := decide (a.cps.toList < b.cps.toList)
theorem cmpOf_lt_str {prog : Program} {w : World} {A : Around} {P : Nat → Value → Prop} (val : Nat → Str) (hval : ∀ i v, P i v → ∃ t, v = .str (val i) t) :
    CmpOf prog w A .Lt P (fun i j => ltSt (val i) (val j)) := fun i j vi vj s Q E hi hj h => by
  obtain ⟨t, rfl⟩ := hval i vi hi
  obtain ⟨u, rfl⟩ := hval j vj hj
  exact PySem.P.lt_str h
/-- min(a, b) of two texts -/
theorem min_two_strs {prog : Program} {w : World} {A : Around} {E : Value → Shared → Prop} {s : Shared} {Q : Value → Shared → Prop} {a b : Str} {t u : Tok} (hh : A.handled = none)
    (h : ∀ h' tk, (∀ c o, s.heap.get? c = some o → h'.get? c = some o) → Q (if b.cps.toList < a.cps.toList then .str b u else .str a t) { s with heap := h', toks := tk }) :
    wpAny (model prog w) A (call (.builtin "min") [.str a t, .str b u]) Q E s := by
  have hT : (s.heap.push { cls := .type "tuple", data := .seq #[.str a t, .str b u] }).IsTuple s.heap.objs.size #[.str a t, .str b u] := ⟨_, Heap.get?_push_size _ rfl, rfl, 0, rfl⟩
  refine call_min_two (wpAny_pyIter_tuple hT ?_)
  have hsz : (s.heap.push { cls := .type "tuple", data := .seq #[.str a t, .str b u] }).objs.size = s.heap.objs.size + 1 := Heap.size_push ..
  refine ⟨_, [_, s.heap.objs.size], [_], _, _, _, _, rfl, Walks.tuple (A := A.in1) hh _ s.heap.objs.size (by rw [hsz]; exact Nat.ne_of_lt (Nat.lt_succ_self _)) #[.str a t, .str b u],
    ⟨⟨_, Heap.get?_push_size _ rfl, rfl, rfl⟩, hT.push _⟩, fun c hc => ?_, by simp, cmpOf_lt_str (fun i => if i = 0 then a else b) (fun i v hv => ?_), fun v h' tk hP hk => ?_⟩
  · show c < ((s.heap.push _).push _).objs.size
    rw [Heap.size_push, hsz]
    rcases List.mem_cons.mp hc with rfl | hc
    · rw [hsz]; exact Nat.lt_succ_self _
    · rcases List.mem_cons.mp hc with rfl | hc
      · exact Nat.lt_succ_of_lt (Nat.lt_succ_self _)
      · cases hc
  · match i with
    | 0 => exact ⟨t, by simpa using hv.symm⟩
    | 1 => exact ⟨u, by simpa using hv.symm⟩
    | i + 2 => simp at hv
  · have hold : ∀ c o, s.heap.get? c = some o → h'.get? c = some o := fun c o e => by
      refine hk c o (fun hm => ?_) (Heap.get?_push_of_some _ (Heap.get?_push_of_some _ e))
      rcases List.mem_cons.mp hm with e1 | hm
      · have := Heap.lt_size e; rw [e1, hsz] at this; exact Nat.lt_irrefl _ (Nat.lt_of_succ_lt this)
      · cases hm
    have := h h' tk hold
    have hv : v = if b.cps.toList < a.cps.toList then .str b u else .str a t := by
      cases hc : ltSt b a with
      | true =>
        simp [argBest, hc] at hP
        rw [if_pos (of_decide_eq_true hc), hP]
      | false =>
        simp [argBest, hc] at hP
        rw [if_neg (of_decide_eq_false hc), hP]
    rw [hv]; exact this
theorem call_min2S (hc : X.calm = true) : CallR X (.builtin "min") (fun xs H Q => ∃ i j, xs = [.str i, .str j] ∧ Q (.str (if j.cps.toList < i.cps.toList then j else i)) H) := by
  intro pins s σ H xs us Q I r h
  obtain ⟨i, j, rfl, q⟩ := h
  obtain ⟨u, w', rfl, ⟨t, rfl⟩, ⟨t', rfl⟩⟩ := vals2 r
  refine min_two_strs (I.ok.hd hc) fun h' tk k => ⟨_, H, I.kept k, ?_, q⟩
  by_cases hj : j.cps.toList < i.cps.toList
  · rw [if_pos hj, if_pos hj]; exact ⟨_, rfl⟩
  · rw [if_neg hj, if_neg hj]; exact ⟨_, rfl⟩
def kMinA : F1 := fun ds st => match ds with
  | [.int i, .int j] => .ok (.int (min i j)) st
  | [.str a, .str b] => .ok (.str (if b < a then b else a)) st
  | [d] => match itemsR st d with
    | some xs => match strsOf xs with
      | some (s :: ss) => .ok (.str (minL s ss)) st
      | _ => .no
    | none => .no
  | _ => .no
theorem nox_minA : NoX1 kMinA := fun ds st c z st' h => by
  unfold kMinA at h
  split at h
  · cases h
  · cases h
  · split at h
    · split at h <;> cases h
    · cases h
  · cases h
theorem c_minA (hc : X.calm = true) (hu : X.A.units + 64 < cLine) : ∃ r, CallR X (.builtin "min") r ∧ SimCR (gx X) r kMinA ∧ NoX1 kMinA := by
  refine ⟨_, (call_min2 hc).or ((call_min2S hc).or (cr_minS hc hu)), fun ds st H C vs Q so rv h => ?_, nox_minA⟩
  unfold kMinA at h
  split at h
  · cases rv with
    | cons r1 r2 =>
      cases r2 with
      | cons r2 r3 =>
        cases r1; cases r2; cases r3
        rename_i i j
        refine .inl ⟨i, j, rfl, ?_⟩
        have e : (if j < i then j else i) = min i j := by omega
        rw [e]
        exact h.here so _ (.int _)
  · cases rv with
    | cons r1 r2 =>
      cases r2 with
      | cons r2 r3 =>
        cases r1; cases r2; cases r3
        rename_i a b
        refine .inr (.inl ⟨sv a, sv b, rfl, ?_⟩)
        have h := h.here so
        rw [sv_tl, sv_tl]
        by_cases hb : b < a
        · rw [if_pos hb] at h ⊢; exact h _ (.str b)
        · rw [if_neg hb] at h ⊢; exact h _ (.str a)
  · cases rv with
    | cons r1 r2 =>
      cases r2
      split at h
      · rename_i xs e
        obtain ⟨a, ys, rfl, h1, h2, _⟩ := itemsR_rep e so r1
        split at h
        · rename_i s ss e2
          rw [strsOf_eq e2] at h2
          rw [Reps.strs h2] at h1
          exact .inr (.inr ⟨a, s, ss, rfl, h1, h.here so _ (.str _)⟩)
        · exact h.elim
      · exact h.elim
  · exact h.elim
end
end FL

/-! FLt: sum of a list of lists -/
namespace FL
open PySem PySem.Spec PyProof.Rows L2

section
variable {prog : Program} {w : World} {A : Around} {I S : Addr} {fp wr : List Addr} {G : Array GenState → Array GenState → Prop} {n : Nat} {P : Nat → Value → Prop} {St : Nat → Shared → Prop} {R : Result → Shared → Prop} {h₀ : Heap}
theorem sum_loopL (W : WalksS prog w A.in1 I fp wr G n P St) (its : Nat → Array Value) (hval : ∀ i v, i < n → P i v → ∃ a m, v = .ref a ∧ h₀.get? a = some { cls := .type "list", data := .seq (its i) m })
    (hSf : S ∉ fp) (hS0 : h₀.get? S = none) (hw0 : ∀ b ∈ wr, h₀.get? b = none) (hfp : ∀ i s, St i s → ∀ b ∈ fp, b < s.heap.objs.size) {J : Addr} (hJ : J ∈ fp) (hJ0 : h₀.objs.size ≤ J) (tot : Nat → Array Value) (htot : ∀ i, i < n → tot (i + 1) = tot i ++ its i) (hsz : ∀ i, i ≤ n → (tot i).size ≤ sizeLine) :
    ∀ (k i : Nat) (s : Shared) (T : Addr) (c m : Nat), n - i = k → i ≤ n → St i s → s.heap.get? S = some { cls := .type "list", data := .seq #[.ref T] c } → s.heap.get? T = some { cls := .type "list", data := .seq (tot i) m } → T ∉ wr → T ≠ S →
      (∀ b o, h₀.get? b = some o → s.heap.get? b = some o) →
      (∀ s' T' m', Moved (S :: wr) G s s' → s'.heap.get? T' = some { cls := .type "list", data := .seq (tot n) m' } → ((T' = T ∧ n ≤ i) ∨ (h₀.objs.size ≤ T' ∧ i < n)) → R (.ok (.ret (.ref T'))) s') →
      codeAny (model prog w) A (.builtin "sum.loop" ⟨[.ref I, .ref S, rawInt 2, rawInt 0], []⟩) R s := by
  have hSw : S ∉ wr := fun h => hSf (W.sub _ h)
  have hsub : ∀ b ∈ wr, b ∈ S :: wr := fun b hb => List.mem_cons_of_mem _ hb
  intro k
  induction k with
  | zero =>
    intro i s T c m hk hi hst hS hT hTw hTS h0 hR
    have hin : i = n := by omega
    subst hin
    refine codeAny_builtin F.entry_sum_loop ?_
    rw [Around.under_plainId F.plain_sum_loop _]
    show wpAny _ A.in1 (seqItems? (.ref S) >>= _) _ _ s
    refine wpAny_bind (wpAny_seqItems hS rfl ?_)
    show wpAny _ A.in1 (tryCatch (pyNext (.ref I)) _ >>= _) _ _ s
    refine wpAny_bind (wpAny_tryCatch (W.done s _ _ hst fun s' hm => ?_))
    exact wpAny_pure (hR s' T m (hm.mono hsub) (hm.heap T _ hTw hT) (.inl ⟨rfl, Nat.le_refl _⟩))
  | succ k ih =>
    intro i s T c m hk hi hst hS hT hTw hTS h0 hR
    have hlt : i < n := by omega
    refine codeAny_builtin F.entry_sum_loop ?_
    rw [Around.under_plainId F.plain_sum_loop _]
    show wpAny _ A.in1 (seqItems? (.ref S) >>= _) _ _ s
    refine wpAny_bind (wpAny_seqItems hS rfl ?_)
    show wpAny _ A.in1 (tryCatch (pyNext (.ref I)) _ >>= _) _ _ s
    refine wpAny_bind (wpAny_tryCatch (W.item i s _ _ hlt hst fun v s1 hP hst1 hm => ?_))
    obtain ⟨a, ma, rfl, ha0⟩ := hval i v hlt hP
    have hS1 := hm.heap S _ hSw hS
    have hT1 := hm.heap T _ hTw hT
    have h01 : ∀ b o, h₀.get? b = some o → s1.heap.get? b = some o := fun b o e => hm.heap b o (fun hb => by rw [hw0 b hb] at e; cases e) (h0 b o e)
    have ha1 := h01 a _ ha0
    show wpAny _ A.in1 ((holding [.ref a] (binaryOp .Add (.ref T) (.ref a))).attempt >>= _) _ _ s1
    refine wpAny_bind (wpAny_attempt (wpAny_holding (PySem.P.add_list (items := tot i) (items2 := its i) (n := m) (n2 := ma) hT1 ha1 ?_ (by
      have := hsz (i + 1) hlt
      rw [htot i hlt, Array.size_append] at this
      exact this))))
    rw [← htot i hlt]
    have oldS : ∀ b o, s1.heap.get? b = some o → (s1.heap.push { cls := .type "list", data := .seq (tot (i + 1)) : Obj }).get? b = some o := fun b o e => Heap.get?_push_of_some _ e
    have hS2 := oldS _ _ hS1
    have hSlt : S < s1.heap.objs.size := Heap.lt_size hS1
    show wpAny _ A.in1 (updateSeq S (fun _ => #[.ref s1.heap.objs.size]) >>= _) _ _ _
    refine wpAny_bind (wpAny_updateSeq hS2 rfl (wpAny_bind (wpAny_letGo ?_)))
    have hS3 := Heap.get?_update_self (Obj.mapSeq fun _ => #[Value.ref s1.heap.objs.size]) hS2 rfl
    show wpAny _ A.in1 (updateSeq S (fun _ => #[.ref s1.heap.objs.size]) >>= _) _ _ _
    refine wpAny_bind (wpAny_updateSeq hS3 rfl (wpAny_pure ⟨plainId_quiet F.plain_sum_loop _, ?_⟩))
    have hS4 := Heap.get?_update_self (Obj.mapSeq fun _ => #[Value.ref s1.heap.objs.size]) hS3 rfl
    have oth : ∀ b o, b ≠ S → (s1.heap.push { cls := .type "list", data := .seq (tot (i + 1)) : Obj }).get? b = some o → (((s1.heap.push { cls := .type "list", data := .seq (tot (i + 1)) : Obj }).update S (Obj.mapSeq fun _ => #[Value.ref s1.heap.objs.size])).update S (Obj.mapSeq fun _ => #[Value.ref s1.heap.objs.size])).get? b = some o := fun b o hb e => by
      rw [Heap.get?_update_other _ _ (Ne.symm hb), Heap.get?_update_other _ _ (Ne.symm hb)]
      exact e
    have hnew : h₀.objs.size ≤ s1.heap.objs.size := Nat.le_trans hJ0 (Nat.le_of_lt (hfp _ _ hst1 _ hJ))
    refine ih (i + 1) _ s1.heap.objs.size _ 0 (by omega) hlt (W.frame _ s1 _ _ hst1 (Nat.le_refl _) fun b hb o e => oth b o (fun z => hSf (z ▸ hb)) (oldS b o e)) hS4 (oth _ _ (Nat.ne_of_gt hSlt) (Heap.get?_push_size _ rfl)) (fun hb => Nat.lt_irrefl _ (hfp _ _ hst1 _ (W.sub _ hb))) (Nat.ne_of_gt hSlt) (fun b o e => oth b o (fun z => by rw [z, hS0] at e; cases e) (oldS b o (h01 b o e))) fun s' T' m' hmv hT' hor => ?_
    refine hR s' T' m' (Moved.trans W.gtrans (hm.mono hsub) (Moved.trans W.gtrans (s' := { s1 with heap := _ }) ⟨fun b ob hb e => oth b ob (fun z => hb (z ▸ List.mem_cons_self)) (oldS b ob e), W.grefl _, rfl, rfl, Nat.le_refl _⟩ hmv)) hT' (.inr ⟨?_, hlt⟩)
    rcases hor with ⟨rfl, _⟩ | z
    · exact hnew
    · exact z.1
theorem args_sum2 (a b : Value) : argsOk "sum" ⟨[a, b], []⟩ := by unfold argsOk; kernel_rfl
theorem call_sumL {E : Value → Shared → Prop} {s : Shared} {l T : Addr} {vs : Array Value} {t0 : Array Value} {m0 : Nat} {Q : Value → Shared → Prop} (hh : A.handled = none) (hl : s.heap.IsList l vs) (hT : s.heap.get? T = some { cls := .type "list", data := .seq t0 m0 })
    (its : Nat → Array Value) (hval : ∀ i v, vs[i]? = some v → ∃ a m, v = .ref a ∧ s.heap.get? a = some { cls := .type "list", data := .seq (its i) m })
    (tot : Nat → Array Value) (ht0 : tot 0 = t0) (htot : ∀ i, i < vs.size → tot (i + 1) = tot i ++ its i) (hsz : ∀ i, i ≤ vs.size → (tot i).size ≤ sizeLine)
    (h : ∀ T' m' h' tk, (∀ b o, s.heap.get? b = some o → h'.get? b = some o) → h'.get? T' = some { cls := .type "list", data := .seq (tot vs.size) m' } → ((T' = T ∧ vs.size ≤ 0) ∨ (s.heap.objs.size ≤ T' ∧ 0 < vs.size)) → Q (.ref T') { s with heap := h', toks := tk }) :
    wpAny (model prog w) A (call (.builtin "sum") [.ref l, .ref T]) Q E s := by
  refine call_function_tree F.kind_sum F.plain_sum F.entry_sum (args_sum2 _ _) ?_
  unfold Builtin.«sum»
  simp only [List.length_cons, List.length_nil]
  rw [if_neg (by decide)]
  refine wpAny_bind (wpAny_of_eq (show Builtin.Builtins.bindParams "sum" ["start"] 0 ⟨[.ref T], []⟩ = pure [some (.ref T)] from rfl) ?_)
  refine wpAny_bind (PySem.W.iter_listW (A := A.in1) hh hl fun s₂ e W st hfp hw hk => ?_)
  refine wpAny_bind (wpAny_pure ?_)
  have hT2 : s₂.heap.get? T = some { cls := .type "list", data := .seq t0 m0 } := hk T _ hT
  have ty : s₂.TypeIs (.ref T) "list" := ⟨_, hT2, rfl⟩
  have subB : isSubtype (.type "list") (.type "bytearray") = pure false := by rw [isSubtype_type]; kernel_rfl
  simp only [List.forIn_cons, List.forIn_nil]
  refine wpAny_bind (wpAny_bind (wpAny_bind (wpAny_isInstance (T := "list") (b := false) ty F.sub_list_str ?_)))
  simp only [Bool.false_eq_true, if_false]
  refine wpAny_pure (wpAny_bind (wpAny_bind (wpAny_isInstance (T := "list") (b := false) ty F.sub_list_bytes ?_)))
  simp only [Bool.false_eq_true, if_false]
  refine wpAny_pure (wpAny_bind (wpAny_bind (wpAny_isInstance (T := "list") (b := false) ty subB ?_)))
  simp only [Bool.false_eq_true, if_false]
  refine wpAny_pure (wpAny_pure ?_)
  refine wpAny_bind (wpAny_newObj_type ?_)
  have hSf : s₂.heap.objs.size ∉ [s.heap.objs.size, l] := fun hm => Nat.lt_irrefl _ (hfp _ hm)
  have hlt : l < s.heap.objs.size := by obtain ⟨_, q, _⟩ := hl; exact Heap.lt_size q
  have hTlt : T < s.heap.objs.size := Heap.lt_size hT
  have no1 : s.heap.get? s.heap.objs.size = none := by
    cases q : s.heap.get? s.heap.objs.size with
    | none => rfl
    | some o => exact absurd (Heap.lt_size q) (Nat.lt_irrefl _)
  have hs2 : s₂.heap.objs.size = s.heap.objs.size + 1 := by rw [e]; exact Heap.size_push _ _
  have no2 : s.heap.get? s₂.heap.objs.size = none := by
    cases q : s.heap.get? s₂.heap.objs.size with
    | none => rfl
    | some o =>
      have h' := Heap.lt_size q
      rw [hs2] at h'
      exact absurd h' (Nat.not_lt.mpr (Nat.le_succ _))
  refine wpAny_pure ⟨plainId_quiet F.plain_sum_loop _, ?_⟩
  refine sum_loopL (h₀ := s.heap) (G := fun a b => b = a) W its (fun i v _ hv => hval i v hv) hSf no2 (fun b hb => by rw [List.mem_singleton.mp hb]; exact no1) (fun i s' hs b hb => ?_) List.mem_cons_self (Nat.le_refl _) tot htot hsz vs.size 0 _ T 0 m0 rfl (Nat.zero_le _)
    (W.frame 0 s₂ _ _ st (Nat.le_refl _) fun b _ o q => Heap.get?_push_of_some _ q) (Heap.get?_push_size _ rfl) ?_ ?_ ?_ (fun b o q => Heap.get?_push_of_some _ (hk b o q)) fun s' T' m' hm hT' hor => ?_
  · obtain ⟨⟨o1, q1, _⟩, ⟨o2, q2, _⟩⟩ := hs
    rcases List.mem_cons.mp hb with rfl | hb
    · exact Heap.lt_size q1
    · rw [List.mem_singleton.mp hb]; exact Heap.lt_size q2
  · rw [ht0]; exact Heap.get?_push_of_some _ hT2
  · intro hb
    have z := List.mem_singleton.mp hb
    rw [z] at hTlt
    exact Nat.lt_irrefl _ hTlt
  · intro z
    rw [z, hs2] at hTlt
    exact absurd hTlt (Nat.not_lt.mpr (Nat.le_succ _))
  · obtain ⟨h', tk, rfl, hk'⟩ := PySem.W.moved_old e rfl (hm.drop_new (Nat.le_refl _))
    exact h T' m' h' tk hk' hT' hor
end

/-- lists of tracked lists -/
inductive LstAll (H : Hp) : List V → List (List V) → Prop
  | nil : LstAll H [] []
  | cons {c : Addr} {z : List V} {xs : List V} {zs : List (List V)} : H c = some (.lst z) → LstAll H xs zs → LstAll H (.ref c :: xs) (z :: zs)
theorem LstAll.length {H : Hp} : ∀ {xs : List V} {zs : List (List V)}, LstAll H xs zs → xs.length = zs.length
  | _, _, .nil => rfl
  | _, _, .cons _ h => by rw [List.length_cons, List.length_cons, h.length]
section
variable {X : Cx}
theorem LstAll.vals {pins : List (Addr × Obj)} {σ : L2.St} {H : Hp} {s : Shared} (I : Inv X pins σ H s) : ∀ {xs : List V} {zs : List (List V)} {its : List Value}, LstAll H xs zs → Vals xs its → ∃ zz : List (List Value), zz.length = its.length ∧ Vals zs.flatten zz.flatten ∧
    ∀ (i : Nat) (v : Value), its[i]? = some v → ∃ a m, v = .ref a ∧ s.heap.get? a = some { cls := .type "list", data := .seq (zz.getD i []).toArray m }
  | _, _, _, .nil, r => by
    cases r
    exact ⟨[], rfl, .nil, fun i v h => by simp at h⟩
  | _, _, _, .cons h1 h2, r => by
    cases r with
    | cons r1 r2 =>
      obtain ⟨zz, l, vv, at_⟩ := LstAll.vals I h2 r2
      obtain ⟨sz, its, n, r3, _, e⟩ := I.lstM h1
      cases r1
      refine ⟨its :: zz, by simp [l], by simpa using r3.append vv, fun i v h => ?_⟩
      cases i with
      | zero =>
        simp at h
        subst h
        exact ⟨_, n, rfl, by simpa using e⟩
      | succ i =>
        obtain ⟨a, m, e1, e2⟩ := at_ i v (by simpa using h)
        exact ⟨a, m, e1, by simpa using e2⟩
def rSumL (K : PySem.W.Frag) : List V → Hp → VK → Prop := fun vs H Q => ∃ (a b : Addr) (xs ys : List V) (zs : List (List V)), vs = [V.ref a, V.ref b] ∧ SqL K H a xs ∧ H b = some (.lst ys) ∧ LstAll H xs zs ∧ (ys ++ zs.flatten).length ≤ sizeLine ∧
  (zs = [] → Q (.ref b) H) ∧ (zs ≠ [] → ∀ p, H p = none → Q (.ref p) (upd H p (.lst (ys ++ zs.flatten))))
theorem cr_sumL (hc : X.calm = true) : CallR X (.builtin "sum") (rSumL X.K) := by
  intro pins s σ H vs us Q I r h
  obtain ⟨a, b, xs, ys, zs, rfl, hs, hb, la, hz, q0, q1⟩ := h
  obtain ⟨its, rv, hl, _⟩ := I.list hs
  obtain ⟨_, t0, m0, rt, _, e0⟩ := I.lstM hb
  obtain ⟨zz, l, vv, at_⟩ := la.vals I rv
  have hus : us = [.ref a, .ref b] := by
    cases r with
    | cons r1 r2 =>
      cases r2 with
      | cons r2 r3 =>
        cases r3
        cases r1
        cases r2
        rfl
  subst hus
  have hlen : (ys ++ zs.flatten).length = (t0 ++ zz.flatten).length := (rt.append vv).length
  let tot : Nat → Array Value := fun i => (t0 ++ (zz.take i).flatten).toArray
  refine call_sumL (I.ok.hd hc) hl.isList e0 (fun i => (zz.getD i []).toArray) (fun i v hv => at_ i v (by simpa using hv)) tot (by simp [tot]) (fun i hi => ?_) (fun i hi => ?_) fun T' m' h' tk hk hT' hor => ?_
  · have hi2 : i < zz.length := by rw [l]; simpa using hi
    simp only [tot]
    have e3 : (zz.take (i + 1)).flatten = (zz.take i).flatten ++ zz[i] := by
      rw [List.take_add_one, List.flatten_append, List.getElem?_eq_getElem hi2]
      simp
    rw [e3]
    simp [List.getD_eq_getElem?_getD, List.getElem?_eq_getElem hi2]
  · simp only [tot, List.size_toArray]
    have h1 : (t0 ++ (zz.take i).flatten).length ≤ (t0 ++ zz.flatten).length := by
      rw [List.length_append, List.length_append]
      have : zz.flatten.length = (zz.take i).flatten.length + (zz.drop i).flatten.length := by
        rw [← List.length_append, ← List.flatten_append, List.take_append_drop]
      omega
    omega
  · have hfull : tot its.toArray.size = (t0 ++ zz.flatten).toArray := by
      simp only [tot, List.size_toArray]
      rw [← l, List.take_length]
    have hzl : zs.length = its.length := by rw [← la.length, rv.length]
    rcases hor with ⟨rfl, hn⟩ | ⟨hge, hn⟩
    · have : zs = [] := List.length_eq_zero_iff.mp (by rw [hzl]; simpa using hn)
      exact ⟨.ref _, H, I.kept hk, rfl, q0 this⟩
    · have hne : zs ≠ [] := fun z => by
        rw [z] at hzl
        simp at hn
        simp at hzl
        omega
      refine ⟨.ref _, upd H T' (.lst (ys ++ zs.flatten)), I.laid (t' := tk) hk hge ⟨hz, _, m', rt.append vv, by rw [hT', hfull]⟩, rfl, q1 hne _ (I.hok.fresh hge)⟩
end

def kSumA : F1 := fun ds st => match ds with
  | [d] => match (itemsR st d).bind intsOf with
    | some is => .ok (.int is.sum) st
    | none => .no
  | [d, e] => match (itemsR st d).bind (List.mapM (items st)), items st e with
    | some zss, some ys => if (ys ++ zss.flatten).length ≤ lim then (if zss.isEmpty then .ok e st else .ok (.lst (ys ++ zss.flatten)) st) else .no
    | _, _ => .no
  | _ => .no
theorem nox_sumA : NoX1 kSumA := fun ds st c z st' h => by
  unfold kSumA at h
  split at h
  · split at h <;> cases h
  · split at h
    · split at h
      · split at h <;> cases h
      · cases h
    · cases h
  · cases h
theorem lstAll_of {K : PySem.W.Frag} {H : Hp} {C : Ad} {st : Sto} (so : StoOk K H C st) : ∀ {ds : List D} {xs : List V} {zss : List (List D)}, Reps K H C xs ds → ds.mapM (items st) = some zss → ∃ zs, LstAll H xs zs ∧ zs.length = zss.length ∧ Reps K H C zs.flatten zss.flatten
  | [], _, zss, r, h => by
    cases r
    have : zss = [] := by simpa using h.symm
    subst this
    exact ⟨[], .nil, rfl, .nil⟩
  | d :: ds, _, zss, r, h => by
    cases r with
    | cons r1 r2 =>
      rw [List.mapM_cons] at h
      cases e1 : items st d with
      | none => rw [e1] at h; cases h
      | some z =>
        cases e2 : ds.mapM (items st) with
        | none => rw [e1, e2] at h; cases h
        | some zs' =>
          rw [e1, e2] at h
          cases h
          obtain ⟨a, ys, rfl, h1, h2⟩ := items_rep e1 so r1
          obtain ⟨zs, k1, k2, k3⟩ := lstAll_of so r2 e2
          exact ⟨ys :: zs, .cons h1 k1, by simp [k2], by simpa using h2.app k3⟩
theorem c_sumA {X : Cx} (hc : X.calm = true) : ∃ r, CallR X (.builtin "sum") r ∧ SimCR (gx X) r kSumA ∧ NoX1 kSumA := by
  refine ⟨_, (cr_sum hc).or (cr_sumL hc), fun ds st H C vs Q so rv h => ?_, nox_sumA⟩
  unfold kSumA at h
  split at h
  · split at h
    · rename_i is e
      cases rv with
      | cons r1 r2 =>
        cases r2
        obtain ⟨xs, e1, e2⟩ := Option.bind_eq_some_iff.mp e
        obtain ⟨a, ys, rfl, h1, h2, _⟩ := itemsR_rep e1 so r1
        rw [intsOf_eq e2] at h2
        rw [Reps.ints h2] at h1
        exact .inl ⟨a, is, rfl, h1, h.here so _ (.int _)⟩
    · exact h.elim
  · split at h
    · rename_i zss ys e1 e2
      split at h
      · rename_i hl
        cases rv with
        | cons r1 r2 =>
          cases r2 with
          | cons r2 r3 =>
            cases r3
            obtain ⟨xs, e3, e4⟩ := Option.bind_eq_some_iff.mp e1
            obtain ⟨a, us, rfl, h1, h2, _⟩ := itemsR_rep e3 so r1
            obtain ⟨b, ws, rfl, h3, h4⟩ := items_rep e2 so r2
            obtain ⟨zs, k1, k2, k3⟩ := lstAll_of so h2 e4
            have hw := h4.app k3
            refine .inr ⟨a, b, us, ws, zs, rfl, h1, h3, k1, by rw [hw.length]; exact lim_line hl, fun z => ?_, fun z => ?_⟩
            · have : zss = [] := List.length_eq_zero_iff.mp (by rw [← k2, z]; rfl)
              subst this
              exact h.here so _ r2
            · have hz : zss.isEmpty = false := by
                cases zss with
                | nil => exact absurd (List.length_eq_zero_iff.mp k2) z
                | cons _ _ => rfl
              rw [hz] at h
              exact new_lst h so hw
      · exact h.elim
    · exact h.elim
  · exact h.elim
end FL

/-! FLu: repr -/
namespace FL
open PySem PySem.Spec PyProof.Rows L2

def keyPy : D → Option PyData
  | .int i => some (.int i)
  | .str s => some (.str (sv s))
  | _ => none
def entPy (f : D → Option PyData) (e : D × D) : Option (PyData × PyData) := match keyPy e.1, f e.2 with
  | some a, some b => some (a, b)
  | _, _ => none
/-- data as plain data, dicts too -/
def toPyR (st : Sto) : Nat → D → Option PyData
  | _, .non => some .none
  | _, .bl b => some (.bool b)
  | _, .int i => some (.int i)
  | _, .str s => some (.str (sv s))
  | n + 1, .tup ds => (ds.mapM (toPyR st n)).map .tuple
  | n + 1, .lst ds => (ds.mapM (toPyR st n)).map .list
  | n + 1, .dct es => (es.mapM (entPy (toPyR st n))).map .dict
  | n + 1, .cel k => match st[k]? with
    | some (.lst ds) => (ds.mapM (toPyR st n)).map .list
    | some (.dct es) => (es.mapM (entPy (toPyR st n))).map .dict
    | _ => none
  | _, _ => none

section
variable {X : Cx} {pins : List (Addr × Obj)} {σ : L2.St} {H : Hp} {s : Shared} {C : Ad} {st : Sto}
def RdS (s : Shared) (r : Value) (p : PyData) : Prop := ∃ as, Reads s.heap r p as ∧ sysModules ∉ as
theorem notSys (I : Inv X pins σ H s) (sys : ∃ o, X.base.get? sysModules = some o) {a : Addr} {o : HO} (h : H a = some o) : a ≠ sysModules := fun e => by
  obtain ⟨q, hq⟩ := sys
  have := (I.bs _ _ hq).2
  rw [← e, h] at this
  cases this
theorem mapM_rd {f : D → Option PyData} {K : PySem.W.Frag} (ih : ∀ d p v r, f d = some p → Rep K H C v d → RelV v r → RdS s r p) : ∀ (ds : List D) (ps : List PyData) (vs : List V) (rs : List Value), ds.mapM f = some ps → Reps K H C vs ds → Vals vs rs →
    ∃ as, ReadsAll s.heap rs ps as ∧ sysModules ∉ as
  | [], ps, vs, rs, h, r, q => by
    cases r; cases q
    have : ps = [] := by simpa using h.symm
    subst this
    exact ⟨[], .nil, fun h => nomatch h⟩
  | d :: ds, ps, vs, rs, h, r, q => by
    cases r with
    | cons r1 r2 =>
      cases q with
      | cons q1 q2 =>
        rw [List.mapM_cons] at h
        cases e : f d with
        | none => rw [e] at h; cases h
        | some p =>
          cases e2 : ds.mapM f with
          | none => rw [e, e2] at h; cases h
          | some qs =>
            rw [e, e2] at h
            have : p :: qs = ps := by simpa using h
            subst this
            obtain ⟨as, h1, h2⟩ := ih _ _ _ _ e r1 q1
            obtain ⟨bs, h3, h4⟩ := mapM_rd ih ds qs _ _ e2 r2 q2
            exact ⟨as ++ bs, .cons h1 h3, fun hm => by
              rcases List.mem_append.mp hm with z | z
              · exact h2 z
              · exact h4 z⟩
theorem key_rd {k : Key} {q : D} {p : PyData} {u : Value} {P : Program} {w : World} (h : RepKey k q) (e : keyPy q = some p) (hk : (mixKind P w).is k u = true) : RdS s u p := by
  rw [mixKind_is] at hk
  rcases keyIs_shape hk with ⟨i, t, rfl, rfl⟩ | ⟨x, t, rfl, rfl⟩
  · cases h
    cases e
    exact ⟨[], .int i t, fun h => nomatch h⟩
  · cases h
    cases e
    exact ⟨[], .str _ t, fun h => nomatch h⟩
theorem ents_rd {f : D → Option PyData} {K : PySem.W.Frag} {P : Program} {w : World} (ih : ∀ d p v r, f d = some p → Rep K H C v d → RelV v r → RdS s r p) : ∀ (es : List (D × D)) (ps : List (PyData × PyData)) (kvs : List (Key × V)) (vs : List (Key × Value)) (ds : List DictEntry),
    es.mapM (entPy f) = some ps → RepKs K H C kvs es → KV kvs vs → Pairs (mixKind P w) ds vs →
    ∃ as bs, ReadsAll s.heap (ds.map (·.key)) (ps.map (·.1)) as ∧ sysModules ∉ as ∧ ReadsAll s.heap (ds.map (·.val)) (ps.map (·.2)) bs ∧ sysModules ∉ bs
  | [], ps, kvs, vs, ds, h, r, q, z => by
    cases r; cases q; cases z
    have : ps = [] := by simpa using h.symm
    subst this
    exact ⟨[], [], .nil, fun h => (nomatch h), .nil, fun h => nomatch h⟩
  | (k, d) :: es, ps, kvs, vs, ds, h, r, q, z => by
    cases r with
    | cons r0 r1 r2 =>
      cases q with
      | cons q1 q2 =>
        cases z with
        | cons z1 z2 z3 =>
          obtain ⟨q1, q3⟩ := q1
          rw [List.mapM_cons] at h
          cases e : entPy f (k, d) with
          | none => rw [e] at h; cases h
          | some p =>
            cases e2 : es.mapM (entPy f) with
            | none => rw [e, e2] at h; cases h
            | some qs =>
              rw [e, e2] at h
              have : p :: qs = ps := by simpa using h
              subst this
              unfold entPy at e
              split at e
              · rename_i a b ea eb
                cases e
                dsimp only at q1 q3
                rw [← q1] at z1
                obtain ⟨as, h1, h2⟩ := key_rd (s := s) r0 ea z1
                obtain ⟨bs, h3, h4⟩ := ih _ _ _ _ eb r1 (by rw [← z2] at q3; exact q3)
                obtain ⟨as', bs', k1, k2, k3, k4⟩ := ents_rd ih es qs _ _ _ e2 r2 q2 z3
                exact ⟨as ++ as', bs ++ bs', .cons h1 k1, fun hm => (List.mem_append.mp hm).elim h2 k2, .cons h3 k3, fun hm => (List.mem_append.mp hm).elim h4 k4⟩
              · cases e
theorem toPyR_rd (I : Inv X pins σ H s) (so : StoOk X.K H C st) (sys : ∃ o, X.base.get? sysModules = some o) : ∀ (n : Nat) (d : D) (p : PyData) (v : V) (r : Value), toPyR st n d = some p → Rep X.K H C v d → RelV v r → RdS s r p := by
  intro n
  induction n with
  | zero =>
    intro d p v r h rp rv
    cases d with
    | non => cases h; cases rp; cases rv; exact ⟨[], .none, fun h => nomatch h⟩
    | bl b => cases h; cases rp; cases rv; exact ⟨[], .bool b, fun h => nomatch h⟩
    | int i => cases h; cases rp; obtain ⟨t, rfl⟩ := rv; exact ⟨[], .int i t, fun h => nomatch h⟩
    | str b => cases h; cases rp; obtain ⟨t, rfl⟩ := rv; exact ⟨[], .str _ t, fun h => nomatch h⟩
    | _ => cases h
  | succ n ih =>
    have lst : ∀ (a : Addr) (xs : List V) (ds : List D) (p : PyData), H a = some (.lst xs) → Reps X.K H C xs ds → (ds.mapM (toPyR st n)).map PyData.list = some p → RdS s (.ref a) p := fun a xs ds p ha ra h => by
      cases e2 : ds.mapM (toPyR st n) with
      | none => rw [e2] at h; cases h
      | some ps =>
        rw [e2] at h; cases h
        obtain ⟨_, its, m, r1, ho⟩ := (show ObjOk X.prog X.w H s.heap a (.lst xs) from I.hok a _ ha)
        obtain ⟨as, h1, h2⟩ := mapM_rd ih ds ps xs its e2 ra r1
        exact ⟨a :: as, .list ho rfl rfl (by simpa using h1), fun hm => by
          rcases List.mem_cons.mp hm with z | z
          · exact notSys I sys ha z.symm
          · exact h2 z⟩
    have dct : ∀ (a : Addr) (kvs : List (Key × V)) (es : List (D × D)) (p : PyData), H a = some (.dK kvs) ∨ (∃ ob, H a = some (.frz ob (.dK kvs))) → RepKs X.K H C kvs es → (es.mapM (entPy (toPyR st n))).map PyData.dict = some p → RdS s (.ref a) p := fun a kvs es p ha ra h => by
      cases e2 : es.mapM (entPy (toPyR st n)) with
      | none => rw [e2] at h; cases h
      | some ps =>
        rw [e2] at h; cases h
        have hrd : Rd H a (.dK kvs) := ha
        obtain ⟨_, hns, vs, rel, o, des, ep, ho, hx, hd, _, hp, _⟩ := dk_rd I.hok hrd
        obtain ⟨as, bs, h1, h2, h3, h4⟩ := ents_rd ih es ps kvs vs des.toList e2 ra rel hp
        refine ⟨a :: as ++ bs, .dict ho hx.1 hd h1 h3, fun hm => ?_⟩
        rcases List.mem_append.mp hm with z | z
        · rcases List.mem_cons.mp z with z | z
          · rw [← z] at hns
            exact absurd hns (by simp)
          · exact h2 z
        · exact h4 z
    intro d p v r h rp rv
    cases d with
    | non => cases h; cases rp; cases rv; exact ⟨[], .none, fun h => nomatch h⟩
    | bl b => cases h; cases rp; cases rv; exact ⟨[], .bool b, fun h => nomatch h⟩
    | int i => cases h; cases rp; obtain ⟨t, rfl⟩ := rv; exact ⟨[], .int i t, fun h => nomatch h⟩
    | str b => cases h; cases rp; obtain ⟨t, rfl⟩ := rv; exact ⟨[], .str _ t, fun h => nomatch h⟩
    | tup ds =>
      obtain ⟨a, xs, rfl, h1, _, r1⟩ := tup_rep rp
      cases (show r = Value.ref a from rv)
      rw [toPyR] at h
      cases e2 : ds.mapM (toPyR st n) with
      | none => rw [e2] at h; cases h
      | some ps =>
        rw [e2] at h; cases h
        obtain ⟨_, its, r2, o, ho, hc, m, hd⟩ := (show ObjOk X.prog X.w H s.heap a (.tup xs) from I.hok a _ h1)
        obtain ⟨as, k1, k2⟩ := mapM_rd ih ds ps xs its e2 r1 r2
        exact ⟨as, .tuple ho hc hd (by simpa using k1), k2⟩
    | lst ds =>
      cases rp with
      | lst h1 h2 h3 =>
        rename_i a xs
        cases (show r = Value.ref a from rv)
        exact lst a _ ds p h1 h3 h
    | dct es =>
      cases rp with
      | dct h1 h2 h3 h4 =>
        rename_i a o kvs
        cases (show r = Value.ref a from rv)
        refine dct a kvs es p ?_ h4 h
        rcases h2 with rfl | ⟨ob, rfl⟩
        · exact .inl h1
        · exact .inr ⟨ob, h1⟩
    | cel k =>
      cases rp with
      | cel hc =>
        rename_i a
        cases (show r = Value.ref a from rv)
        rw [toPyR] at h
        split at h
        · rename_i ds e
          obtain ⟨xs, h1, h2⟩ := so.ok _ _ _ hc e
          exact lst a xs ds p h1 h2 h
        · rename_i es e
          obtain ⟨kvs, h1, h2⟩ := so.ok _ _ _ hc e
          exact dct a kvs es p (.inl h1) h2 h
        · cases h
    | ro ds => cases h
    | val u => cases h
    | ty u => cases h

/-! ### how deep -/
theorem depthKv_le {n : Nat} : ∀ (ps : List (PyData × PyData)), (∀ p ∈ ps, p.1.depth ≤ n ∧ p.2.depth ≤ n) → PyData.depthKv ps ≤ n
  | [], _ => by simp [PyData.depthKv]
  | (a, b) :: ps, h => by
    have h1 := h _ (List.mem_cons_self)
    have h2 := depthKv_le ps fun q hq => h q (List.mem_cons_of_mem _ hq)
    simp only [PyData.depthKv] at h1 ⊢
    omega
theorem mapM_mem {α β : Type} {f : α → Option β} {P : β → Prop} (ih : ∀ d p, f d = some p → P p) : ∀ (ds : List α) (ps : List β), ds.mapM f = some ps → ∀ p ∈ ps, P p
  | [], ps, h, p, hp => by
    have : ps = [] := by simpa using h.symm
    subst this
    cases hp
  | d :: ds, ps, h, p, hp => by
    rw [List.mapM_cons] at h
    cases e : f d with
    | none => rw [e] at h; cases h
    | some q =>
      cases e2 : ds.mapM f with
      | none => rw [e, e2] at h; cases h
      | some qs =>
        rw [e, e2] at h
        have : q :: qs = ps := by simpa using h
        subst this
        rcases List.mem_cons.mp hp with rfl | hp
        · exact ih _ _ e
        · exact mapM_mem ih ds qs e2 p hp
theorem toPyR_depth : ∀ (n : Nat) (d : D) (p : PyData), toPyR st n d = some p → p.depth ≤ n := by
  intro n
  induction n with
  | zero =>
    intro d p h
    cases d with
    | non => cases h; simp [PyData.depth]
    | bl b => cases h; simp [PyData.depth]
    | int i => cases h; simp [PyData.depth]
    | str b => cases h; simp [PyData.depth]
    | _ => cases h
  | succ n ih =>
    have lst : ∀ (ds : List D) (ps : List PyData), ds.mapM (toPyR st n) = some ps → PyData.depthAll ps ≤ n := fun ds ps e => depth_all ps (mapM_mem ih ds ps e)
    have dct : ∀ (es : List (D × D)) (ps : List (PyData × PyData)), es.mapM (entPy (toPyR st n)) = some ps → PyData.depthKv ps ≤ n := fun es ps e => depthKv_le ps (mapM_mem (P := fun p => p.1.depth ≤ n ∧ p.2.depth ≤ n) (fun d p h => by
      unfold entPy at h
      split at h
      · rename_i a b ea eb
        cases h
        refine ⟨?_, ih _ _ eb⟩
        unfold keyPy at ea
        split at ea <;> cases ea <;> simp [PyData.depth]
      · cases h) es ps e)
    have l1 : ∀ (ds : List D) (p : PyData), (ds.mapM (toPyR st n)).map PyData.list = some p → p.depth ≤ n + 1 := fun ds p h => by
      cases e2 : ds.mapM (toPyR st n) with
      | none => rw [e2] at h; cases h
      | some ps => rw [e2] at h; cases h; have := lst ds ps e2; simp [PyData.depth]; omega
    have d1 : ∀ (ds : List (D × D)) (p : PyData), (ds.mapM (entPy (toPyR st n))).map PyData.dict = some p → p.depth ≤ n + 1 := fun ds p h => by
      cases e2 : ds.mapM (entPy (toPyR st n)) with
      | none => rw [e2] at h; cases h
      | some ps => rw [e2] at h; cases h; have := dct ds ps e2; simp [PyData.depth]; omega
    intro d p h
    cases d with
    | non => cases h; simp [PyData.depth]
    | bl b => cases h; simp [PyData.depth]
    | int i => cases h; simp [PyData.depth]
    | str b => cases h; simp [PyData.depth]
    | tup ds =>
      rw [toPyR] at h
      cases e2 : ds.mapM (toPyR st n) with
      | none => rw [e2] at h; cases h
      | some ps => rw [e2] at h; cases h; have := lst ds ps e2; simp [PyData.depth]; omega
    | lst ds => exact l1 ds p h
    | dct es => exact d1 es p h
    | cel k =>
      rw [toPyR] at h
      split at h
      · exact l1 _ p h
      · exact d1 _ p h
      · cases h
    | ro ds => cases h
    | val u => cases h
    | ty u => cases h

/-! ### repr -/
def kRepr : F1 := fun ds st => match ds with
  | [d] => match toPyR st 40 d with
    | some p => if p.showable = true ∧ p.shown.length ≤ lim then .ok (.str p.shown.cps.toList) st else .no
    | none => .no
  | _ => .no
theorem nox_repr : NoX1 kRepr := fun ds st c z st' h => by
  unfold kRepr at h
  split at h
  · split at h
    · split at h <;> cases h
    · cases h
  · cases h
def rRepr (X : Cx) : List V → Hp → VK → Prop := fun vs H Q => ∃ (v : V) (p : PyData), vs = [v] ∧ p.showable = true ∧ p.shown.length ≤ sizeLine ∧ p.depth ≤ 40 ∧
  (∀ (pins : List (Addr × Obj)) (s : Shared) (σ : L2.St) (r : Value), Inv X pins σ H s → RelV v r → RdS s r p) ∧ Q (.str p.shown) H
theorem cr_repr (hu : X.A.units + 64 < cLine) (hg : X.A.guards = some []) : CallR X (.builtin "repr") (rRepr X) := by
  intro pins s σ H vs us Q I r h
  obtain ⟨v, p, rfl, hs, hl, hd, hr, q⟩ := h
  obtain ⟨u, rfl, ru⟩ := vals1 r
  obtain ⟨as, r1, r2⟩ := hr pins s σ u I ru
  have go : ∀ a, u = Value.ref a → wpAny (model X.prog X.w) X.A (call (.builtin "repr") [u]) (EP X pins σ Q) X.xe s := fun a e => by
    subst e
    exact repr_of_reads' r1 hs (fun _ => r2) hg (by omega) (fun _ _ e => e) (fun h' u tk k => ⟨.str p.shown, H, I.kept k, ⟨u, rfl⟩, q⟩) hl
  have tok : ∀ (z : Str) (w : Str) (m : Tok), p.shown = z → z = w → EP X pins σ Q (.str w m) { s with toks := s.toks + 1 } := fun z w m e e2 => ⟨.str p.shown, H, I.tok _, ⟨m, by rw [e, e2]⟩, q⟩
  cases r1 with
  | none => exact PySem.P.repr_of_none (tok _ _ _ PyData.shown_none rfl)
  | bool b => exact PySem.P.repr_of_bool (tok _ _ _ (PyData.shown_bool b) rfl)
  | int i t => exact PySem.P.repr_of_int (by simpa [PyData.showable] using hs) (tok _ _ _ (PyData.shown_int i) rfl)
  | str x t => exact PySem.P.repr_of_str (tok _ _ _ (PyData.shown_str x) rfl) (by simpa [PyData.shown] using hl)
  | list => exact go _ rfl
  | tuple => exact go _ rfl
  | dict => exact go _ rfl
theorem c_repr (hu : X.A.units + 64 < cLine) (hg : X.A.guards = some []) (sys : ∃ o, X.base.get? sysModules = some o) : ∃ r, CallR X (.builtin "repr") r ∧ SimCR (gx X) r kRepr ∧ NoX1 kRepr := by
  refine ⟨_, cr_repr hu hg, fun ds st H C vs Q so rv h => ?_, nox_repr⟩
  unfold kRepr at h
  split at h
  · rename_i d
    cases rv with
    | cons r1 r2 =>
      cases r2
      split at h
      · rename_i p e
        split at h
        · rename_i hc
          refine ⟨_, p, rfl, hc.1, lim_line hc.2, toPyR_depth _ _ _ e, fun pins s σ r I rr => toPyR_rd I so sys _ _ _ _ _ e r1 rr, ?_⟩
          have := h.here so (.str (sv p.shown.cps.toList)) (.str _)
          simpa using this
        · exact h.elim
      · exact h.elim
  · exact h.elim
end

/-! ### what repr tells -/
def OkS (s : Str) : Prop := s.cps.toList.all okCp = true
instance {s : Str} : Decidable (OkS s) := inferInstanceAs (Decidable (_ = true))
theorem OkS.app {a b : Str} (h : OkS a) (k : OkS b) : OkS (a ++ b) := by
  unfold OkS at *
  show (a.cps ++ b.cps).toList.all okCp = true
  rw [Array.toList_append, List.all_append, h, k]
  rfl
theorem OkS.join {s : Str} (hs : OkS s) : ∀ ts : List Str, (∀ t ∈ ts, OkS t) → OkS (Str.join s ts)
  | [], _ => rfl
  | [x], h => h x List.mem_cons_self
  | x :: y :: r, h => by
    have ih := OkS.join hs (y :: r) fun t ht => h t (List.mem_cons_of_mem _ ht)
    exact ((h x List.mem_cons_self).app hs).app ih
theorem okS_int (i : Int) : OkS (PyData.int i).shown := by
  unfold OkS
  rw [List.all_eq_true]
  intro c hc
  by_cases h : c ≠ 45 ∧ (c < 48 ∨ 57 < c)
  · exact absurd hc (shown_int_free' h i)
  · unfold okCp
    exact decide_eq_true (by omega)
theorem okS_reprChar {q c : Nat} (hq : okCp q = true) (hc : okCp c = true) : (Builtin.Str.reprChar q c).all okCp = true := by
  have hex : ∀ w : Nat, (List.replicate (w - ((Nat.toDigits 16 c).map Char.toNat).length) 48 ++ (Nat.toDigits 16 c).map Char.toNat).all okCp = true := fun w => by
    rw [List.all_append, Bool.and_eq_true]
    constructor
    · rw [List.all_eq_true]
      intro x hx
      rw [(List.mem_replicate.mp hx).2]
      rfl
    · rw [List.all_eq_true]
      intro x hx
      obtain ⟨y, _, rfl⟩ := List.mem_map.mp hx
      unfold okCp
      refine decide_eq_true ?_
      have := y.valid
      show y.val.toNat < 1114112
      rcases this with h | ⟨_, h⟩ <;> exact Nat.lt_of_lt_of_le h (by decide)
  unfold Builtin.Str.reprChar
  dsimp only
  repeat' split
  all_goals simp only [List.cons_append, List.nil_append, List.all_cons, List.all_nil, Bool.and_true, hex, hc]
  all_goals decide
theorem okS_repr {x : Str} (h : OkS x) : OkS (reprText x) := by
  have hq : okCp (reprQuote x) = true := by
    unfold reprQuote
    split <;> rfl
  have key : ∀ (l : List Nat) (acc : Array Nat), l.all okCp = true → acc.toList.all okCp = true → (l.foldl (fun out c => out ++ (Builtin.Str.reprChar (reprQuote x) c).toArray) acc).toList.all okCp = true := by
    intro l
    induction l with
    | nil => intro acc _ h; exact h
    | cons c l ih =>
      intro acc h1 h2
      rw [List.all_cons, Bool.and_eq_true] at h1
      rw [List.foldl_cons]
      refine ih _ h1.2 ?_
      rw [Array.toList_append, List.all_append, h2, Bool.true_and]
      exact okS_reprChar hq h1.1
  unfold OkS reprText
  show ((x.cps.foldl (fun out c => out ++ (Builtin.Str.reprChar (reprQuote x) c).toArray) #[reprQuote x]).push (reprQuote x)).toList.all okCp = true
  rw [Array.toList_push, List.all_append, ← Array.foldl_toList, key _ _ h (by simp [hq])]
  simp [hq]
mutual
def strsOk : PyData → Bool
  | .none | .bool _ | .int _ => true
  | .str x => x.cps.toList.all okCp
  | .list xs | .tuple xs => strsOkA xs
  | .dict kvs => strsOkK kvs
def strsOkA : List PyData → Bool
  | [] => true
  | x :: xs => strsOk x && strsOkA xs
def strsOkK : List (PyData × PyData) → Bool
  | [] => true
  | (k, v) :: r => strsOk k && strsOk v && strsOkK r
end
mutual
theorem okS_shown : ∀ p : PyData, strsOk p = true → OkS p.shown
  | .none, _ => by rw [PyData.shown_none]; decide +kernel
  | .bool b, _ => by rw [PyData.shown_bool]; cases b <;> decide +kernel
  | .int i, _ => okS_int i
  | .str x, h => by rw [PyData.shown_str]; exact okS_repr h
  | .list xs, h => by
    rw [PyData.shown_list]
    exact (OkS.app (by decide +kernel) (OkS.join (by decide +kernel) _ (okS_all xs (by simpa [strsOk] using h)))).app (by decide +kernel)
  | .tuple xs, h => by
    rw [PyData.shown_tuple]
    exact (OkS.app (by decide +kernel) (OkS.join (by decide +kernel) _ (okS_all xs (by simpa [strsOk] using h)))).app (by split <;> decide +kernel)
  | .dict kvs, h => by
    rw [PyData.shown_dict]
    exact (OkS.app (by decide +kernel) (OkS.join (by decide +kernel) _ (okS_kv kvs (by simpa [strsOk] using h)))).app (by decide +kernel)
theorem okS_all : ∀ xs : List PyData, strsOkA xs = true → ∀ t ∈ PyData.shownAll xs, OkS t
  | [], _, t, ht => by rw [PyData.shownAll_nil] at ht; cases ht
  | x :: xs, h, t, ht => by
    have h : strsOk x = true ∧ strsOkA xs = true := by simpa [strsOkA] using h
    rw [PyData.shownAll_cons] at ht
    rcases List.mem_cons.mp ht with e | ht
    · rw [e]; exact okS_shown x h.1
    · exact okS_all xs h.2 t ht
theorem okS_kv : ∀ xs : List (PyData × PyData), strsOkK xs = true → ∀ t ∈ PyData.shownKv xs, OkS t
  | [], _, t, ht => by rw [PyData.shownKv_nil] at ht; cases ht
  | (k, v) :: xs, h, t, ht => by
    have h : (strsOk k = true ∧ strsOk v = true) ∧ strsOkK xs = true := by simpa [strsOkK] using h
    rw [PyData.shownKv_cons] at ht
    rcases List.mem_cons.mp ht with e | ht
    · rw [e]; exact ((okS_shown k h.1.1).app (by decide +kernel)).app (okS_shown v h.1.2)
    · exact okS_kv xs h.2 t ht
end
end FL

/-! FLv: enumerate and reversed, of lists and of texts -/
namespace FL
open PySem PySem.Spec PyProof.Rows L2

/-! ### enumerate(text) -/
def IteS (x : Str) : It := ⟨fun i _ => i < x.cps.size, fun i H v H' => ∃ T c, v = .ref T ∧ H T = none ∧ x.cps[i]? = some c ∧ H' = upd H T (.tup [.int (i : Nat), .str ⟨#[c]⟩]), fun i _ => x.cps.size ≤ i⟩
theorem draws_str {prog : Program} {w : World} {A : Around} (hh : A.handled = none) (it : Addr) (x : Str) (t : Tok) :
    Draws prog w A it [it] x.cps.size (fun i v => ∃ c u, x.cps[i]? = some c ∧ v = .str ⟨#[c]⟩ u) (fun i h => h.IsStrIter it (strIterType x) x t i) := by
  unfold strIterType
  cases x.cps.all (· < 128)
  · exact Draws.strWide hh it x t
  · exact Draws.strAscii hh it x t
theorem turn_enumS {P : Program} {w : World} {K : PySem.W.Frag} {elts : List Expr} {kk : Nat} {tpos : Pos} (x : Str) (t : Tok) (e it : Addr) :
    Turn P w K (.Tuple elts kk tpos) (IteS x) [e, it] e (fun i h => (∃ old, IsEnum h e it ((i : Nat) : Int) old) ∧ h.IsStrIter it (strIterType x) x t i ∧ e ≠ it) where
  mem := by simp
  obj := fun i h st b hb => by
    obtain ⟨⟨old, he⟩, ⟨o, ho, hc, hd⟩, _⟩ := st
    have e' : b = e ∨ b = it := by simpa using hb
    rcases e' with z | z
    · rw [z]; exact ⟨_, he, fun v q => nomatch q⟩
    · rw [z]; exact ⟨o, ho, fun v q => by rw [hd] at q; cases q⟩
  keep := fun i h h' st k => let ⟨⟨old, he⟩, ⟨o, ho, r⟩, hne⟩ := st; ⟨⟨old, k e (by simp) _ he⟩, ⟨o, k it (by simp) o ho, r⟩, hne⟩
  item := by
    intro X hP hw hK hc i pins s σ H E I hf st hg
    subst hP hw hK
    obtain ⟨⟨old, he⟩, hit, hne⟩ := st
    have hel : e < s.heap.objs.size := Heap.lt_size he
    have hil : it < s.heap.objs.size := by obtain ⟨_, q, _⟩ := hit; exact Heap.lt_size q
    refine wpAny_pyNext_enum_itemD (i := i) (St := fun i h => h.IsStrIter it (strIterType x) x t i) (fp := [it]) (draws_str (A := X.A.in1) (show X.A.in1.handled = none from I.ok.hd hc) it x t) he hit hg hne (by simpa using hne) fun v h' tk hP ho hit' hT hsz hk => ?_
    obtain ⟨c, u, hcx, rfl⟩ := hP
    refine ⟨_, rfl, wpAny_letOwnedTupleGo_enum (s := { s with heap := h', toks := tk + 1 }) ho fun h'' he' sb => ?_⟩
    have hT2 : h''.get? s.heap.objs.size = some { cls := .type "tuple", data := .seq #[.int i tk, .str ⟨#[c]⟩ u] } := (sb.2 _ (Nat.ne_of_gt hel)).trans hT
    have new : ObjOk X.prog X.w (upd H s.heap.objs.size (.tup [.int (i : Nat), .str ⟨#[c]⟩])) h'' s.heap.objs.size (.tup [.int (i : Nat), .str ⟨#[c]⟩]) :=
      ⟨by show 2 ≤ sizeLine; decide, [.int i tk, .str ⟨#[c]⟩ u], .cons ⟨_, rfl⟩ (.cons ⟨_, rfl⟩ .nil), ⟨_, hT2, rfl, _, rfl⟩⟩
    have I1 : Inv X pins σ (upd H s.heap.objs.size (.tup [.int (i : Nat), .str ⟨#[c]⟩])) { s with heap := h'', toks := tk + 1 } :=
      I.turnedNew (ch := [e, it]) (fun b ob hb q => (sb.2 b (fun z => hb (by simp [z]))).trans (hk b ob (fun z => hb (by simp [z])) (fun z => hb (by simp [z])) q)) hf (Nat.le_refl _) new
    refine ⟨.ref s.heap.objs.size, _, I1, rfl, ⟨_, c, rfl, I.hok.fresh (Nat.le_refl _), hcx, rfl⟩, ⟨⟨.str ⟨#[c]⟩ u, ?_⟩, ?_, hne⟩, fun b hb => ?_⟩
    · have e1 : ((i + 1 : Nat) : Int) = (i : Int) + 1 := by omega
      rw [e1]; exact he'
    · obtain ⟨o, ho', r⟩ := hit'
      exact ⟨o, (sb.2 it (Ne.symm hne)).trans ho', r⟩
    · have hb' : b < s.heap.objs.size := by
        have e' : b = e ∨ b = it := by simpa using hb
        rcases e' with z | z
        · rw [z]; exact hel
        · rw [z]; exact hil
      rw [upd_ne (Nat.ne_of_lt hb')]
      exact (hf b hb).1
  done := by
    intro X hP hw hK hc i pins s σ H E I hf st hg
    subst hP hw hK
    obtain ⟨⟨old, he⟩, hit, hne⟩ := st
    obtain ⟨f0, f1, f2, f3, f4, f5⟩ := hf it (by simp)
    have hT : s.TypeIs (.ref e) "enumerate" := ⟨_, he, rfl⟩
    have hh := I.ok.hd hc
    have hn : x.cps[i]? = none := Array.getElem?_eq_none hg
    have dn : ∀ (Q : Value → Shared → Prop) (E : Value → Shared → Prop), (∀ h' e, Heap.ExtBut it s.heap h' → (∃ o, h'.get? e = some o ∧ o.cls = .type "StopIteration") → E (.ref e) { s with heap := h' }) → wpAny (model X.prog X.w) X.A.in1 (Builtin.SmallTypes.nextOf (.ref it)) Q E s := fun Q E hE => by
      unfold strIterType at hit
      cases ha : x.cps.all (· < 128) with
      | false => rw [ha] at hit; exact wpAny_nextOf_wide_end hh hit hn hE
      | true => rw [ha] at hit; exact wpAny_nextOf_ascii_end hh hit hn hE
    unfold pyNext
    refine wpAny_bind (wpAny_attempt (wpAny_callSpecial?_slot (name := Str.ofString "__next__") hT F.slot_enumerate_next
      (wpAny_call_entry F.slot_enumerate_next hT F.entry_enumerate_next ?_ (F.args_enumerate_next_1 _))))
    show wpAny _ _ (field (.ref e) 2 >>= _) _ _ _
    refine wpAny_bind (wpAny_field he rfl (x := .ref it) rfl ?_)
    refine wpAny_bind (dn _ _ fun h' y he' hx' => ?_)
    obtain ⟨o, ho, hcs⟩ := hx'
    refine wpAny_bind (wpAny_isInstance (T := "StopIteration") (b := true) ⟨o, ho, hcs⟩ isSubtype_stop ?_)
    exact wpAny_pure ⟨rfl, I.turned (t' := s.toks) (fun b o hb q => he' b o hb q) f0 f1 f3 f4 f5⟩
  self := fun A i s Q E st h => let ⟨⟨_, he⟩, _⟩ := st; wpAny_pyIter_enum he h
def iEnumS (ta : TA) : TI := fun σ H R => ta σ H fun vs H1 => ∃ x, vs = [.str x] ∧ R (IteS x) H1
theorem pi_enumS {X : Cx} {e : Expr} {ta : TA} {p pos tpos : Pos} {elts : List Expr} {kk : Nat} (hg : Gl X "enumerate") (hm : X.mg "enumerate" = none) (ha : PA X [e] ta) (hs : starEach [e] X.env = [(false, eval e X.env)] := by rfl) :
    PI X (.Tuple elts kk tpos) (.Call (.Name "enumerate" p) [e] [] pos) (iEnumS ta) := by
  refine ⟨fun pins s σ H R I h => ?_⟩
  refine Call_ (ld_blt I hg hm boot_enumerate (PyProof.Rows.callWith_type1 (thn (ha.run pos pins s σ H _ I h) fun us s1 ⟨vs, H1, I1, r1, q1⟩ => ?_) hs rfl))
  obtain ⟨x, ex, q⟩ := q1
  subst ex
  cases r1 with
  | cons r rr =>
    cases rr
    obtain ⟨t, rfl⟩ := r
    refine call_enumerate_str fun h' he hit hsz hk => wpAny_pyIter_enum he ?_
    have I2 : Inv X pins σ H1 { s1 with heap := h' } := I1.kept (t' := s1.toks) hk
    refine ⟨s1.heap.objs.size + 1, [s1.heap.objs.size + 1, s1.heap.objs.size], _, _, H1, rfl, I2, turn_enumS x t (s1.heap.objs.size + 1) s1.heap.objs.size, ⟨⟨.none, he⟩, hit, Nat.succ_ne_self _⟩, fun b hb => ?_, q⟩
    have e' : b = s1.heap.objs.size + 1 ∨ b = s1.heap.objs.size := by simpa using hb
    have hle : s1.heap.objs.size ≤ b := by
      rcases e' with z | z
      · rw [z]; exact Nat.le_add_right _ _
      · rw [z]; exact Nat.le_refl _
    exact I1.fpOk hle (I1.hok.fresh hle)

/-! ### reversed(text) -/
theorem norev_str : typeLookup (.type "str") "__reversed__" = pure none := by rw [typeLookup_type, builtinLookup_eq_fast]; kernel_rfl
theorem get_str : typeLookup (.type "str") "__getitem__" = pure (some (.builtin "str.__getitem__")) := by rw [typeLookup_type, builtinLookup_eq_fast]; kernel_rfl
def rsObj (x : Str) (t : Tok) (i : Int) : Obj := { cls := .type "reversed", data := .fields #[.str x t, rawInt i] }
def IsRs (h : Heap) (a : Addr) (x : Str) (t : Tok) (i : Int) : Prop := ∃ o, h.get? a = some o ∧ o.cls = .type "reversed" ∧ o.data = .fields #[.str x t, rawInt i]
theorem IsRs.at {h h' : Heap} {a : Addr} {x : Str} {t : Tok} {i : Int} (z : IsRs h a x t i) (e : ∀ o, h.get? a = some o → h'.get? a = some o) : IsRs h' a x t i := let ⟨o, ho, r⟩ := z; ⟨o, e _ ho, r⟩
section
variable {prog : Program} {w : World} {A : Around} {E : Value → Shared → Prop} {s : Shared}
theorem IsRs.typeIs {a : Addr} {x : Str} {t : Tok} {i : Int} (z : IsRs s.heap a x t i) : s.TypeIs (.ref a) "reversed" := let ⟨o, ho, hc, _⟩ := z; ⟨o, ho, hc⟩
theorem code_reversed_str {x : Str} {t : Tok} {Q₁ : Value → Shared → Prop} (hx : x.length ≤ sizeLine)
    (h : Q₁ (.ref s.heap.objs.size) { s with heap := s.heap.push (rsObj x t ((x.length : Int) - 1)), toks := s.toks + 1 + 1 }) :
    codeAny (model prog w) A (.call (.builtin "reversed.__new__") ⟨[.type "reversed", .str x t], []⟩) (wants Q₁ E) s := by
  have hT : s.TypeIs (.str x t) "str" := typeIs_str s x t
  rw [sizeLine_eq] at hx
  refine codeAny_of_tree ?_
  show wpAny _ A.in1 (do checkBuiltinCall "reversed.__new__" ⟨[.type "reversed", .str x t], []⟩; again (.builtin "reversed.__new__" ⟨[.type "reversed", .str x t], []⟩)) _ _ s
  refine wpAny_bind (wpAny_of_eq (F.newCall_reversed_1 _) (wpAny_pure ⟨plainId_quiet F.plain_reversed_new _, codeAny_builtin F.entry_reversed_new ?_⟩))
  rw [Around.under_plainId F.plain_reversed_new _]
  unfold Builtin.«reversed.__new__»
  refine wpAny_bind (wpAny_of_eq (newClass_reversed _) ?_)
  try dsimp only
  refine wpAny_bind (wpAny_of_eq (a := ()) (by first | rfl | kernel_rfl) ?_)
  try dsimp only
  refine wpAny_bind (wpAny_of_eq (a := ()) (by first | rfl | kernel_rfl) ?_)
  try dsimp only
  refine wpAny_bind (wpAny_specialOf hT norev_str ?_)
  try dsimp only
  refine wpAny_bind ?_
  wp_delta
  refine wpAny_bind (wpAny_isInstance (T := "str") (U := "dict") (b := false) hT (by rw [isSubtype_type]; kernel_rfl) ?_)
  try dsimp only
  try rw [if_neg Bool.false_ne_true]
  try dsimp only
  refine wpAny_bind (wpAny_specialOf hT get_str ?_)
  try dsimp only
  try rw [if_pos (by decide +kernel)]
  refine wpAny_pure ?_
  try dsimp only
  try rw [if_neg (by decide)]
  try dsimp only
  refine wpAny_bind (PySem.P.len_str (by omega) ?_)
  refine wpAny_bind (wpAny_of_eq (a := some ((x.length : Nat) : Int)) rfl ?_)
  try dsimp only
  refine wpAny_bind ?_
  show wpAny _ _ (newObj (.type "reversed") (.fields #[.str x t, rawInt ((x.length : Int) - 1)])) _ _ _
  refine wpAny_newObj_type ?_
  exact wpAny_pure h
theorem call_reversed_str {x : Str} {t : Tok} {Q : Value → Shared → Prop} (hx : x.length ≤ sizeLine)
    (h : Q (.ref s.heap.objs.size) { s with heap := s.heap.push (rsObj x t ((x.length : Int) - 1)), toks := s.toks + 1 + 1 }) : wpAny (model prog w) A (call (.type "reversed") [.str x t]) Q E s := by
  refine callType_codes (Q₁ := fun obj s₁ => s₁.TypeIs obj "reversed" ∧ Q obj s₁) RT.called_rt (F.typeCall_reversed_1 _) F.entry_object_init
    (code_reversed_str (A := A.in1) hx ⟨⟨_, Heap.get?_push_size _ rfl, rfl⟩, h⟩) fun obj s₁ h₁ => ?_
  exact ⟨h₁.1, F.args_object_init_2 obj _, object_init_meets RT.called_rt.init.lookup RT.called_rt.made (by decide) prog w A.in1 _ s₁ ⟨h₁.1, rfl, h₁.2⟩⟩
theorem next_rs_item {it : Addr} {x : Str} {t : Tok} {i c : Nat} {Q : Option Value → Shared → Prop} (hit : IsRs s.heap it x t (i : Int)) (hx : x.cps[i]? = some c) (hsz : x.length ≤ sizeLine)
    (hQ : ∀ h' u tk, IsRs h' it x t ((i : Int) - 1) → Heap.SameBut it s.heap h' → Q (some (.str ⟨#[c]⟩ u)) { s with heap := h', toks := tk }) : wpAny (model prog w) A (pyNext (.ref it)) Q E s := by
  obtain ⟨o, ho, hc, hd⟩ := id hit
  have hi : i < x.length := (Array.getElem?_eq_some_iff.mp hx).1
  have hT : s.TypeIs (.str x t) "str" := typeIs_str s x t
  rw [sizeLine_eq] at hsz
  unfold pyNext
  refine wpAny_bind (wpAny_attempt (wpAny_callSpecial?_slot (name := Str.ofString "__next__") hit.typeIs RT.slot_rt_next
    (wpAny_call_entry RT.slot_rt_next hit.typeIs RT.entry_rt_next ?_ (RT.args_rt_next _))))
  unfold Builtin.«reversed.__next__»
  refine wpAny_bind (wpAny_of_eq (a := (Value.ref it, [])) rfl ?_)
  try dsimp only
  refine wpAny_bind (wpAny_field ho hd (x := .str x t) rfl ?_)
  try dsimp only
  refine wpAny_bind (wpAny_field ho hd (x := rawInt (i : Int)) rfl ?_)
  show wpAny _ _ (if (i : Int) < 0 then _ else _) _ _ s
  rw [if_neg (by omega)]
  try dsimp only
  refine wpAny_bind (wpAny_specialOf hT get_str ?_)
  try dsimp only
  try rw [if_neg (by decide)]
  try dsimp only
  refine wpAny_bind (wpAny_mkInt ?_)
  refine wpAny_bind (wpAny_attempt ?_)
  have fin : seqIndex? (i : Int) x.length = some i := seqIndex_of (by omega) (by omega)
  refine PySem.P.getItem_str (s := { s with toks := s.toks + 1 }) (c := c) (by
    rw [Bool.or_eq_false_iff]
    exact ⟨decide_eq_false (by omega), decide_eq_false (by omega)⟩) (by rw [fin]; exact hx) ?_
  try dsimp only
  refine wpAny_bind (wpAny_field (s := { s with toks := s.toks + 1 + 1 }) ho hd (x := rawInt (i : Int)) rfl ?_)
  try dsimp only
  refine wpAny_bind (wpAny_setField (s := { s with toks := s.toks + 1 + 1 }) ho hd (by simp) ?_)
  first
  | refine wpAny_pure ⟨.str ⟨#[c]⟩ (s.toks + 1), rfl, wpAny_pure (hQ _ _ _ ?_ (Heap.SameBut.update ..))⟩
  | refine wpAny_bind (wpAny_pure (wpAny_pure ⟨.str ⟨#[c]⟩ (s.toks + 1), rfl, wpAny_pure (hQ _ _ _ ?_ (Heap.SameBut.update ..))⟩))
  exact ⟨_, Heap.get?_update_self _ ho (Obj.isFreed_of_fields (Obj.data_mapFields hd _)), (Obj.cls_mapFields ..).trans hc, by
    rw [Obj.data_mapFields hd]; simp⟩
theorem next_rs_end {it : Addr} {x : Str} {t : Tok} {Q : Option Value → Shared → Prop} (hh : A.handled = none) (hit : IsRs s.heap it x t (-1))
    (hQ : ∀ h', Heap.ExtBut it s.heap h' → Q none { s with heap := h' }) : wpAny (model prog w) A (pyNext (.ref it)) Q E s := by
  obtain ⟨o, ho, hc, hd⟩ := id hit
  unfold pyNext
  refine wpAny_bind (wpAny_attempt (wpAny_callSpecial?_slot (name := Str.ofString "__next__") hit.typeIs RT.slot_rt_next
    (wpAny_call_entry RT.slot_rt_next hit.typeIs RT.entry_rt_next ?_ (RT.args_rt_next _))))
  unfold Builtin.«reversed.__next__»
  refine wpAny_bind (wpAny_of_eq (a := (Value.ref it, [])) rfl ?_)
  try dsimp only
  refine wpAny_bind (wpAny_field ho hd (x := .str x t) rfl ?_)
  try dsimp only
  refine wpAny_bind (wpAny_field ho hd (x := rawInt (-1)) rfl ?_)
  show wpAny _ _ (if (-1 : Int) < 0 then _ else _) _ _ s
  rw [if_pos (by decide)]
  try dsimp only
  refine wpAny_bind (wpAny_rule ?_)
  refine wpAny_bind ?_
  wp_delta
  refine wpAny_bind (wpAny_setField ho hd (by simp) ?_)
  have ho2 := Heap.get?_update_self (Obj.mapFields (·.setIfInBounds 1 (rawInt (-1)))) ho (Obj.isFreed_of_fields (Obj.data_mapFields hd _))
  refine wpAny_setField (s := { s with heap := s.heap.update it (Obj.mapFields (·.setIfInBounds 1 (rawInt (-1)))) }) ho2 (Obj.data_mapFields hd _) (by simp) ?_
  try dsimp only
  first
  | show wpAny _ _ (newExc (.type "StopIteration") [] >>= _) _ _ _
  | (refine wpAny_bind ?_; show wpAny _ _ (newExc (.type "StopIteration") [] >>= _) _ _ _)
  | (refine wpAny_bind ?_; wp_delta; show wpAny _ _ (newExc (.type "StopIteration") [] >>= _) _ _ _)
  refine wpAny_bind ?_
  simp only [newExc, newTuple]
  refine wpAny_bind (wpAny_newObj_type ?_ (by size_fits))
  refine wpAny_bind (m := firstArgMember _ _) (wpAny_of_eq (a := Value.none) (by first | rfl | (simp only [firstArgMember]; rfl)) ?_)
  refine wpAny_newObj_type ?_ (by size_fits)
  simp only [raiseNew]
  refine wpAny_bind (wpAny_handled ?_)
  first | rw [show A.in1.handled = none from hh] | rw [hh]
  refine wpAny_bind (wpAny_pure (wpAny_throw ?_))
  refine wpAny_bind (wpAny_isInstance (T := "StopIteration") (b := true) ⟨_, Heap.get?_push_size _ rfl, rfl⟩ isSubtype_stop ?_)
  refine wpAny_pure (hQ _ ?_)
  refine ((?_ : Heap.ExtBut it s.heap _).push _).push _
  exact fun b ob hb e => (Heap.get?_update_other _ _ (Ne.symm hb)).trans ((Heap.get?_update_other _ _ (Ne.symm hb)).trans e)
theorem iter_rs {it : Addr} {x : Str} {t : Tok} {i : Int} {Q : Value → Shared → Prop} (hit : IsRs s.heap it x t i) (h : Q (.ref it) s) : wpAny (model prog w) A (pyIter (.ref it)) Q E s := by
  refine wpAny_pyIter_slot hit.typeIs RT.slot_rt_iter (wpAny_call_entry RT.slot_rt_iter hit.typeIs RT.entry_rt_iter ?_ (RT.args_rt_iter _))
  show wpAny _ _ (ret (.ref it)) _ _ s
  exact wpAny_pure ⟨_, rfl, "reversed", _, hit.typeIs, RT.slot_rt_next.lookup, h⟩
end
def ItvS (x : Str) : It := ⟨fun i _ => i < x.length, fun i H v H' => H' = H ∧ ∃ c, x.cps[x.length - 1 - i]? = some c ∧ v = .str ⟨#[c]⟩, fun i _ => x.length ≤ i⟩
theorem turn_rs {P : Program} {w : World} {K : PySem.W.Frag} {tg : Expr} (x : Str) (t : Tok) (it : Addr) (hx : x.length ≤ sizeLine) : Turn P w K tg (ItvS x) [it] it (fun i h => i ≤ x.length ∧ IsRs h it x t ((x.length : Int) - 1 - (i : Nat))) where
  mem := by simp
  obj := fun i h st b hb => by
    have e : b = it := by simpa using hb
    subst e
    obtain ⟨_, o, e, c, d⟩ := st
    exact ⟨o, e, fun v z => by rw [d] at z; cases z⟩
  keep := fun i h h' st k => ⟨st.1, st.2.at fun o e => k it (by simp) o e⟩
  item := by
    intro X hP hw hK hc i pins s σ H E I hf st hg
    subst hP hw hK
    have hg : i < x.length := hg
    obtain ⟨f0, f1, f2, f3, f4, f5⟩ := hf it (by simp)
    obtain ⟨_, hit⟩ := st
    have e1 : (x.length : Int) - 1 - ((i : Nat) : Int) = ((x.length - 1 - i : Nat) : Int) := by omega
    rw [e1] at hit
    have hl : x.length - 1 - i < x.cps.size := by show _ < x.length; omega
    have hcx : x.cps[x.length - 1 - i]? = some x.cps[x.length - 1 - i] := by simp [hl]
    refine next_rs_item hit hcx hx fun h' u tk st' sb => ?_
    have e2 : ((x.length - 1 - i : Nat) : Int) - 1 = (x.length : Int) - 1 - ((i + 1 : Nat) : Int) := by omega
    rw [e2] at st'
    have I1 : Inv X pins σ H { s with heap := h', toks := tk } := I.turned (t' := tk) (fun b o hb e => (sb.2 b hb).trans e) f0 f1 f3 f4 f5
    obtain ⟨o, e, c, d⟩ := id st'
    exact ⟨_, rfl, go_of (s := { s with heap := h', toks := tk }) e c d (by decide) ⟨.str ⟨#[x.cps[x.length - 1 - i]]⟩, H, I1, ⟨u, rfl⟩, ⟨rfl, _, hcx, rfl⟩, ⟨hg, st'⟩, fun b hb => (hf b hb).1⟩⟩
  done := by
    intro X hP hw hK hc i pins s σ H E I hf st hg
    subst hP hw hK
    obtain ⟨f0, f1, f2, f3, f4, f5⟩ := hf it (by simp)
    obtain ⟨hin, hit⟩ := st
    have hge : x.length ≤ i := hg
    have e1 : (x.length : Int) - 1 - ((i : Nat) : Int) = -1 := by omega
    rw [e1] at hit
    exact next_rs_end (I.ok.hd hc) hit fun h' eb => ⟨rfl, I.turned (t' := s.toks) (fun b o hb e => eb b o hb e) f0 f1 f3 f4 f5⟩
  self := fun A i s Q E st h => iter_rs st.2 h
def iRevS (te : TE) : TI := fun σ H R => te σ H fun v H1 => ∃ x, v = .str x ∧ x.length ≤ sizeLine ∧ R (ItvS x) H1
theorem pi_revS {X : Cx} {tg : Expr} {e : Expr} {te : TE} {p pos : Pos} (hg : Gl X "reversed") (hm : X.mg "reversed" = none) (he : PE X e te) (hs : starEach [e] X.env = (false, eval e X.env) :: starEach [] X.env := by rfl) : PI X tg (.Call (.Name "reversed" p) [e] [] pos) (iRevS te) := by
  refine ⟨fun pins s σ H R I h => ?_⟩
  refine Call_ (ld_blt I hg hm PyProof.Rows.boot_reversed (PyProof.Rows.callWith_type1 (args_cons (thn (he.run pins s σ H _ I h) fun u s1 ⟨v, H1, I1, r1, q1⟩ => args_nil ?_) hs) hs rfl))
  obtain ⟨x, ev, hx, q⟩ := q1
  subst ev
  obtain ⟨t, rfl⟩ := r1
  have e1 : (x.length : Int) - 1 = (x.length : Int) - 1 - ((0 : Nat) : Int) := by omega
  refine call_reversed_str hx (iter_rs (x := x) (t := t) (i := (x.length : Int) - 1) ⟨_, Heap.get?_push_size _ rfl, rfl, rfl⟩ ?_)
  refine pi_one (tk := s1.toks + 1 + 1) I1 _ (turn_rs x t _ hx) ⟨Nat.zero_le _, ?_⟩ q
  rw [← e1]
  exact ⟨_, Heap.get?_push_size _ rfl, rfl, rfl⟩
end FL

/-! FLw: for .. in enumerate(..), reversed(..), range(a, b, c) -/
namespace FL
open PySem PySem.Spec PyProof.Rows L2

def enumL {α : Type} (xs : List α) : List (Nat × α) := (List.range xs.length).zip xs
theorem enumL_get {α : Type} (xs : List α) (i : Nat) : (enumL xs)[i]? = xs[i]?.map fun x => (i, x) := by
  unfold enumL
  rw [List.zip, List.getElem?_zipWith]
  cases e : xs[i]? with
  | none => cases (List.range xs.length)[i]? <;> rfl
  | some x =>
    have h := (List.getElem?_eq_some_iff.mp e).1
    rw [List.getElem?_range h]
    rfl
theorem enumL_len {α : Type} (xs : List α) : (enumL xs).length = xs.length := by simp [enumL]
section
variable {X : Cx} {W : WX} {tg e : Expr} {f : FE}
theorem walk_enm {a : Addr} {s : Sd} {C₁ : Ad} {H₁ : Hp} (ha : SdAt X.K (fun H xs => SqL X.K H a xs) s C₁ H₁) : Walk (gx X) (Ite X.K a) (.enm s) C₁ H₁ := fun st C H so e _ i o hn => by
  unfold nextS at hn
  simp only at hn
  cases e1 : sdAt s st i with
  | none => rw [e1] at hn; cases hn
  | some o1 =>
    rw [e1] at hn
    obtain ⟨xs, q1, k1⟩ := ha st C H so e i o1 e1
    cases o1 with
    | none => cases hn; exact ⟨xs, q1, k1⟩
    | some d =>
      cases hn
      obtain ⟨v, x1, r1⟩ := k1
      refine ⟨⟨xs, v, q1, x1⟩, fun x H' hyl => ?_⟩
      obtain ⟨T, x', rfl, hT, rfl, f1⟩ := hyl
      have g1 := f1 xs q1
      rw [x1] at g1; cases g1
      exact ⟨so.tree hT, Ext.tree hT, .tup upd_same (so.fresh hT) ((Reps.cons (.int _) (.cons r1 .nil)).mono (Ext.tree hT))⟩
theorem walk_enumS {s : List Nat} {C₁ : Ad} {H₁ : Hp} : Walk (gx X) (IteS (sv s)) (.fix ((enumL s).map fun c => .tup [.int (c.1 : Nat), .str [c.2]])) C₁ H₁ := fun st C H so ex _ i o hn => by
  have hsz : (sv s).cps.size = s.length := by simp
  have hd : ((enumL s).map fun c => D.tup [.int (c.1 : Nat), .str [c.2]])[i]? = o := Option.some.inj hn
  rw [List.getElem?_map, enumL_get] at hd
  cases e : s[i]? with
  | none =>
    rw [e] at hd
    cases hd
    show (sv s).cps.size ≤ _
    rw [hsz]
    exact List.getElem?_eq_none_iff.mp e
  | some c =>
    rw [e] at hd
    cases hd
    have hl := (List.getElem?_eq_some_iff.mp e).1
    refine ⟨by show i < (sv s).cps.size; rw [hsz]; exact hl, fun x H' hy => ?_⟩
    obtain ⟨T, c', rfl, hT, e1, rfl⟩ := hy
    have e2 : (sv s).cps[i]? = s[i]? := by simp
    rw [e2, e] at e1
    cases e1
    exact ⟨so.tree hT, Ext.tree hT, .tup upd_same (so.fresh hT) ((Reps.cons (.int _) (.cons (.str [c]) .nil)).mono (Ext.tree hT))⟩
def iEnum (f : FE) : FI := fun ρ st => (f ρ st).bind fun d st1 => match d with
  | .str s => .ok (.fix ((enumL s).map fun c => .tup [.int (c.1 : Nat), .str [c.2]])) st1
  | d => R.opt ((sdOf st1 d).map .enm) st1
theorem si_enum {p pos tpos : Pos} {elts : List Expr} {kk : Nat} (hm : X.mg "enumerate" = none) (he : SE X W e f) (hg : Gl X "enumerate" := by rfl) (hs : starEach [e] X.env = [(false, eval e X.env)] := by rfl) (hs2 : starEach (e :: []) X.env = (false, eval e X.env) :: starEach [] X.env := by rfl) :
    SI X W (.Tuple elts kk tpos) (.Call (.Name "enumerate" p) [e] [] pos) (iEnum f) := by
  obtain ⟨t, pe, s⟩ := he
  refine ⟨_, PI.or (pi_enumS hg hm (pa_cons pe pa_nil hs2) hs) (pi_enum hg hm (pa_cons pe pa_nil hs2) hs), fun ρ σ st H C P rs so q => ?_⟩
  have key : ∀ (R' : VK), (∀ d st1, f ρ st = .ok d st1 → After (gx X) (fun c d H' => W c d σ H') C H (R.ok d st1) fun d _ C' H' => ∀ v, Rep X.K H' C' v d → R' v H') → t σ H R' := fun R' k => by
    refine s ρ σ st H C R' rs so ?_
    unfold iEnum at q
    cases e : f ρ st with
    | no => rw [e] at q; exact q.elim
    | exc c x st1 => rw [e] at q; exact q
    | ok d st1 => exact k d st1 e
  unfold iEnum at q
  cases e : f ρ st with
  | no => rw [e] at q; exact q.elim
  | exc c x st1 =>
    refine .inr (key _ fun d st1 e2 => ?_)
    rw [e] at e2; cases e2
  | ok d st1 =>
    rw [e, R.bind_ok] at q
    split at q
    · refine .inl (key _ fun d st1 e2 => ?_)
      rw [e] at e2; cases e2
      intro C1 H1 so1 e1 v rv
      cases rv
      exact ⟨_, rfl, q C1 H1 so1 e1 _ walk_enumS⟩
    · obtain ⟨src, e3, h1⟩ := q.opt
      refine .inr (key _ fun d st1 e2 => ?_)
      rw [e] at e2; cases e2
      intro C1 H1 so1 e1 v rv
      obtain ⟨sd, e4, rfl⟩ := Option.map_eq_some_iff.mp e3
      obtain ⟨a, xs, rfl, h1', h2⟩ := sdAt_of e4 so1 rv
      exact ⟨a, xs, rfl, h1', h1 C1 H1 so1 e1 _ (walk_enm h2)⟩

/-! ### reversed -/
theorem rev_get {α : Type} {xs : List α} {i : Nat} : xs.reverse[i]? = if i < xs.length then xs[xs.length - 1 - i]? else none := by
  split
  · rename_i h; exact List.getElem?_reverse h
  · rename_i h; exact List.getElem?_eq_none (by rw [List.length_reverse]; omega)
theorem walk_rev {a : Addr} {xs : List V} {ds : List D} {C₁ : Ad} {H₁ : Hp} (hq : ∀ H' C', Stay C₁ H₁ C' H' → SqL X.K H' a xs) (hr : Reps X.K H₁ C₁ xs ds) : Walk (gx X) (Itv X.K a xs.length) (.fix ds.reverse) C₁ H₁ := fun st C H so e _ i o hn => by
  have q := hq H C e
  have hn : ds.reverse[i]? = o := Option.some.inj hn
  rw [rev_get] at hn
  split at hn
  · rename_i hi
    cases o with
    | some d =>
      obtain ⟨v, h1, h2⟩ := hr.get hn
      rw [← hr.length] at h1
      refine ⟨⟨by rw [hr.length]; exact hi, xs, v, q, h1⟩, fun x H' hy => ?_⟩
      obtain ⟨rfl, hy⟩ := hy
      have := hy xs q
      rw [h1] at this
      cases this
      exact ⟨so, .refl, h2.monoS e⟩
    | none =>
      have := List.getElem?_eq_none_iff.mp hn
      omega
  · cases hn
    show xs.length ≤ i
    rw [hr.length]; omega
theorem walk_revS {s : List Nat} {C₁ : Ad} {H₁ : Hp} : Walk (gx X) (ItvS (sv s)) (.fix (s.reverse.map fun c => .str [c])) C₁ H₁ := fun st C H so ex _ i o hn => by
  have hl : (sv s).length = s.length := sv_len s
  have hd : (s.reverse.map fun c => D.str [c])[i]? = o := Option.some.inj hn
  rw [List.getElem?_map, rev_get] at hd
  split at hd
  · rename_i hi
    have hlt : s.length - 1 - i < s.length := by omega
    rw [List.getElem?_eq_getElem hlt] at hd
    cases hd
    refine ⟨by show i < (sv s).length; rw [hl]; exact hi, fun x H' hy => ?_⟩
    obtain ⟨rfl, c', e1, rfl⟩ := hy
    rw [hl] at e1
    have e2 : (sv s).cps[s.length - 1 - i]? = s[s.length - 1 - i]? := by simp
    rw [e2, List.getElem?_eq_getElem hlt] at e1
    cases e1
    exact ⟨so, .refl, .str _⟩
  · cases hd
    show (sv s).length ≤ i
    rw [hl]; omega
def iRev (f : FE) : FI := fun ρ st => (f ρ st).bind fun d st1 => match d with
  | .cel _ => .no
  | .str s => if s.length ≤ lim then .ok (.fix (s.reverse.map fun c => .str [c])) st1 else .no
  | d => R.opt ((itemsR st1 d).map fun ds => .fix ds.reverse) st1
theorem si_rev {p pos : Pos} (hm : X.mg "reversed" = none) (he : SE X W e f) (hg : Gl X "reversed" := by rfl) (hs : starEach [e] X.env = (false, eval e X.env) :: starEach [] X.env := by rfl) :
    SI X W tg (.Call (.Name "reversed" p) [e] [] pos) (iRev f) := by
  obtain ⟨t, pe, s⟩ := he
  refine ⟨_, PI.or (pi_revS hg hm pe hs) (RT.pi_revA hg hm pe hs), fun ρ σ st H C P rs so q => ?_⟩
  have key : ∀ (R' : VK), (∀ d st1, f ρ st = .ok d st1 → After (gx X) (fun c d H' => W c d σ H') C H (R.ok d st1) fun d _ C' H' => ∀ v, Rep X.K H' C' v d → R' v H') → t σ H R' := fun R' k => by
    refine s ρ σ st H C R' rs so ?_
    unfold iRev at q
    cases e : f ρ st with
    | no => rw [e] at q; exact q.elim
    | exc c x st1 => rw [e] at q; exact q
    | ok d st1 => exact k d st1 e
  unfold iRev at q
  cases e : f ρ st with
  | no => rw [e] at q; exact q.elim
  | exc c x st1 =>
    refine .inr (key _ fun d st1 e2 => ?_)
    rw [e] at e2; cases e2
  | ok d st1 =>
    rw [e, R.bind_ok] at q
    split at q
    · exact q.elim
    · split at q
      · rename_i hl
        refine .inl (key _ fun d st1 e2 => ?_)
        rw [e] at e2; cases e2
        intro C1 H1 so1 e1 v rv
        cases rv
        exact ⟨_, rfl, by rw [sv_len]; exact lim_line hl, q C1 H1 so1 e1 _ walk_revS⟩
      · exact q.elim
    · rename_i hc _
      obtain ⟨src, e3, h1⟩ := q.opt
      refine .inr (key _ fun d st1 e2 => ?_)
      rw [e] at e2; cases e2
      intro C1 H1 so1 e1 v rv
      obtain ⟨ds, e4, rfl⟩ := Option.map_eq_some_iff.mp e3
      obtain ⟨a, xs, rfl, k1, k2, k3⟩ := itemsR_rep e4 so1 rv
      exact ⟨a, xs, rfl, .inl ⟨k1, h1 C1 H1 so1 e1 _ (walk_rev (fun H' C' e' => k3 H' C' e' fun n hn => absurd hn (hc n)) k2)⟩⟩

/-! ### range(a, b, c) -/
def rngC (i c : Int) (n : Nat) : List Int := (List.range n).map fun (k : Nat) => i + (k : Int) * c
theorem walk_rangeC {lo c : Int} {n : Nat} {C₁ : Ad} {H₁ : Hp} : Walk (gx X) (Itc lo c n) (Src.fix ((rngC lo c n).map D.int)) C₁ H₁ := fun st C H so e _ i o hn => by
  have hn : ((rngC lo c n).map D.int)[i]? = o := Option.some.inj hn
  unfold rngC at hn
  rw [List.getElem?_map, List.getElem?_map] at hn
  by_cases hi : i < n
  · rw [List.getElem?_range hi] at hn
    cases hn
    refine ⟨hi, fun x H' hy => ?_⟩
    obtain ⟨rfl, rfl⟩ := hy
    exact ⟨so, .refl, .int _⟩
  · rw [List.getElem?_eq_none (by rw [List.length_range]; omega)] at hn
    cases hn
    show n ≤ i
    omega
def rszC (i j c : Int) : Option Nat := if c ≠ 0 ∧ c.natAbs < 1000000000 ∧ Builtin.Range.small i j c = true ∧ Builtin.Range.rangeSize i j c = ((Builtin.Range.rangeSize i j c).toNat : Int) then some (Builtin.Range.rangeSize i j c).toNat else none
def iRange3 (f : FA) : FI := fun ρ st => (f ρ st).bind fun ds st1 => match ds with
  | [.int i, .int j, .int c] => R.opt ((rszC i j c).map fun n => .fix ((rngC i c n).map D.int)) st1
  | _ => .no
theorem si_range3 {e1 e2 e3 : Expr} {fa : FA} {p pos : Pos} (hm : X.mg "range" = none) (he : SA X W [e1, e2, e3] fa) (hg : Gl X "range" := by rfl)
    (hs : starEach [e1, e2, e3] X.env = (false, eval e1 X.env) :: starEach [e2, e3] X.env := by rfl) (hpl : (backTo pos (starEach [e2, e3] X.env)).any (·.1) = false := by rfl) :
    SI X W tg (.Call (.Name "range" p) [e1, e2, e3] [] pos) (iRange3 fa) := by
  obtain ⟨t, pa, s⟩ := he
  refine ⟨_, pi_range3 hg hm pa hs hpl, fun ρ σ st H C P rs so q => s ρ σ st H C _ rs so (q.bind.imp fun ds st1 C1 H1 so1 e1 h1 vs rv => ?_)⟩
  split at h1
  · rename_i i j c
    obtain ⟨src, e3, h1⟩ := h1.opt
    obtain ⟨n, e4, rfl⟩ := Option.map_eq_some_iff.mp e3
    unfold rszC at e4
    split at e4
    · rename_i hc
      cases e4
      cases rv with
      | cons r1 r2 =>
        cases r2 with
        | cons r2 r3 =>
          cases r3 with
          | cons r3 r4 =>
            cases r1; cases r2; cases r3; cases r4
            exact ⟨i, j, c, _, rfl, ⟨hc.1, Nat.lt_trans hc.2.1 (by decide), hc.2.2.1, hc.2.2.2⟩, h1.here so1 _ walk_rangeC⟩
    · cases e4
  · exact h1.elim
end
end FL

/-! FLx: sorted of data of any one form, of a dict's keys; a dict display into a cell -/
namespace FL
open PySem PySem.Spec PyProof.Rows L2

def srtD (xs : List D) (ps : List PyData) : List D := ((xs.zip ps).mergeSort (PySem.W.dataLe false (fun b : D × PyData => b.2))).map (·.1)
def alikeB (ps : List PyData) : Bool := ps.all fun d => ps.all fun e => PySem.W.alike d e
def isTupC : PyData → Bool
  | .tuple (_ :: _) => true
  | _ => false
def isOth : PyData → Bool
  | .none => false
  | .tuple _ => false
  | _ => true
def sortableB (ps : List PyData) : Bool := ps.all isTupC || ps.all isOth
def kSortX : F1 := fun ds st => match kSorted ds st with
  | .ok d st' => .ok d st'
  | _ => match ds with
    | [d] => match itemsR st d with
      | some xs => match xs.mapM (toPy st 40) with
        | some ps => if alikeB ps = true ∧ sortableB ps = true ∧ xs.length ≤ lim then .ok (.lst (srtD xs ps)) st else .no
        | none => .no
      | none => match ents st d with
        | some es => match strsOf (es.map (·.1)) with
          | some ks => if ks.length < 64 then .ok (.lst ((srt leS ks).map D.str)) st else .no
          | none => match intsOf (es.map (·.1)) with
            | some ks => if ks.length < 64 then .ok (.lst ((srt leI ks).map D.int)) st else .no
            | none => .no
        | none => .no
    | _ => .no
theorem nox_sortX : NoX1 kSortX := fun ds st c z st' h => by
  unfold kSortX at h
  split at h
  · cases h
  · split at h
    · split at h
      · split at h
        · split at h <;> cases h
        · cases h
      · split at h
        · split at h
          · split at h <;> cases h
          · split at h
            · split at h <;> cases h
            · cases h
        · cases h
    · cases h
def Told (K : PySem.W.Frag) (H : Hp) (C : Ad) (r : List V → Hp → VK → Prop) (vs : List V) (xs : List D) : Prop := ∀ Q : VK, (∀ ys p, Reps K H C ys xs → H p = none → Q (.ref p) (upd H p (.lst ys))) → r vs H Q
theorem strs_srt {ss : List (List Nat)} {zs : List Str} (hp : zs.Perm (ss.map sv)) (hs : sortedS zs = true) : zs = (srt leS ss).map sv := by
  have q1 : zs.map (fun z => z.cps.toList) = srt leS ss := srt_of ordS (by
    have := hp.map (fun z : Str => z.cps.toList)
    rw [List.map_map] at this
    have e4 : (fun z : Str => z.cps.toList) ∘ sv = id := by funext z; simp
    rw [e4, List.map_id] at this
    exact this) (List.pairwise_map.mpr (sortedS_pw hs))
  rw [← q1, List.map_map]
  have e5 : sv ∘ (fun z : Str => z.cps.toList) = id := by funext z; simp [sv]
  rw [e5, List.map_id]
theorem keys_str {K : PySem.W.Frag} {H : Hp} {C : Ad} : ∀ {es : List (D × D)} {kvs : List (Key × V)} {ks : List (List Nat)}, RepKs K H C kvs es → es.map (·.1) = ks.map D.str → kvs.map (·.1) = (ks.map sv).map Sum.inr
  | [], _, ks, h, e => by
    cases h
    cases ks with
    | nil => rfl
    | cons => cases e
  | (q, d) :: es, _, ks, h, e => by
    cases ks with
    | nil => cases e
    | cons k ks =>
      cases h with
      | cons h0 h1 h2 =>
        obtain ⟨e1, e2⟩ := List.cons.inj e
        have e1 : q = .str k := e1
        subst e1
        cases h0
        show Sum.inr (sv k) :: _ = Sum.inr (sv k) :: _
        rw [keys_str h2 e2]
theorem keys_int {K : PySem.W.Frag} {H : Hp} {C : Ad} : ∀ {es : List (D × D)} {kvs : List (Key × V)} {ks : List Int}, RepKs K H C kvs es → es.map (·.1) = ks.map D.int → kvs.map (·.1) = ks.map Sum.inl
  | [], _, ks, h, e => by
    cases h
    cases ks with
    | nil => rfl
    | cons => cases e
  | (q, d) :: es, _, ks, h, e => by
    cases ks with
    | nil => cases e
    | cons k ks =>
      cases h with
      | cons h0 h1 h2 =>
        obtain ⟨e1, e2⟩ := List.cons.inj e
        have e1 : q = .int k := e1
        subst e1
        cases h0
        show Sum.inl k :: _ = Sum.inl k :: _
        rw [keys_int h2 e2]
abbrev Bx := V × D × PyData
def rSortX (X : Cx) : List V → Hp → VK → Prop := fun vs H Q => ∃ (a : Addr) (bs : List Bx), vs = [V.ref a] ∧ SqL X.K H a (bs.map (·.1)) ∧ (∀ b ∈ bs, Dp X.K H b.1 b.2.2) ∧ (∀ b ∈ bs, ∀ c ∈ bs, PySem.W.alike b.2.2 c.2.2 = true) ∧
  PySem.W.Sortable (bs.map (·.2.2)) ∧ (∀ b ∈ bs, b.2.2.depth ≤ 40) ∧ ∀ p, H p = none → Q (.ref p) (upd H p (.lst ((bs.mergeSort (PySem.W.dataLe false (fun b : Bx => b.2.2))).map (·.1))))
section
variable {X : Cx}
theorem each_of {H : Hp} {s : Shared} : ∀ {bs : List Bx} {us : List Value}, Vals (bs.map (·.1)) us → PySem.W.EachIs (fun v (b : Bx) => RelV b.1 v) us bs
  | [], _, h => by cases h; exact .nil
  | b :: bs, _, h => by
    cases h with
    | cons h1 h2 => exact .cons h1 (each_of (H := H) (s := s) h2)
theorem each_rd {pins : List (Addr × Obj)} {σ : L2.St} {H : Hp} {s : Shared} (I : Inv X pins σ H s) : ∀ {bs : List Bx} {us : List Value}, Vals (bs.map (·.1)) us → (∀ b ∈ bs, Dp X.K H b.1 b.2.2) → PySem.W.EachIs (fun v (b : Bx) => ∃ as, Reads s.heap v b.2.2 as) us bs
  | [], _, h, _ => by cases h; exact .nil
  | b :: bs, _, h, q => by
    cases h with
    | cons h1 h2 => exact .cons (Dp.reads I _ _ _ (q b List.mem_cons_self) h1) (each_rd I h2 fun c hc => q c (List.mem_cons_of_mem _ hc))
theorem vals_each : ∀ {bs : List Bx} {us : List Value}, PySem.W.EachIs (fun v (b : Bx) => RelV b.1 v) us bs → Vals (bs.map (·.1)) us
  | [], _, h => by cases h; exact .nil
  | b :: bs, _, h => by
    cases h with
    | cons h1 h2 => exact .cons h1 (vals_each h2)
theorem cr_sortX (hu : X.A.units + 64 < cLine) : CallR X (.builtin "sorted") (rSortX X) := by
  intro pins s σ H vs us Q I r h
  obtain ⟨a, bs, rfl, hs, hd, hal, hk, hdep, q⟩ := h
  obtain ⟨its, rv, hl, hz⟩ := I.list hs
  rw [Vals.ref1 r]
  rw [List.length_map] at hz
  refine PySem.W.sorted_data (R := fun v (b : Bx) => RelV b.1 v) (enc := fun b : Bx => b.2.2) (bs := bs) hl.isList (each_of (H := H) (s := s) rv) (each_rd I rv hd) (fun d hd d' hd' => ?_) hk hz (fun b hb => by have := hdep b hb; omega) fun out hlen he => ?_
  · obtain ⟨b, hb, rfl⟩ := List.mem_map.mp hd
    obtain ⟨c, hc, rfl⟩ := List.mem_map.mp hd'
    exact hal b hb c hc
  · obtain ⟨ep, he'⟩ := PyProof.Rows.sortedAll_at s.heap its (List.toArray out)
    refine ⟨.ref _, upd H (s.heap.objs.size + 1) (.lst _), I.laid (t' := s.toks) (fun _ _ => PyProof.Rows.sortedAll_old) (Nat.le_succ _) ⟨?_, out, ep, vals_each he, he'⟩, rfl, q _ (I.hok.fresh (Nat.le_succ _))⟩
    rw [List.length_map, List.length_mergeSort]
    exact hz
/-- sorted, as the text calls it -/
abbrev rSrt (X : Cx) : List V → Hp → VK → Prop := fun vs H Q => ((rSortedA X.K vs H Q ∨ (fun xs H Q => ∃ (a : Addr) (is : List Int), xs = [V.ref a] ∧ SqL X.K H a (is.map V.int) ∧ ∀ (ns : List Int) (p : Addr), ns.Perm is → ns.Pairwise (· ≤ ·) → H p = none → Q (.ref p) (upd H p (.lst (ns.map V.int)))) vs H Q) ∨ rSortX X vs H Q) ∨
  ((∃ (a : Addr) (kvs : List (Key × V)) (ks : List Str), vs = [.ref a] ∧ Rd H a (.dK kvs) ∧ kvs.map (·.1) = ks.map Sum.inr ∧ ks.length < 64 ∧ ∀ ys p, ys.Perm ks → sortedS ys = true → H p = none → Q (.ref p) (upd H p (.lst (ys.map V.str)))) ∨
  ∃ (a : Addr) (kvs : List (Key × V)) (ks : List Int), vs = [.ref a] ∧ Rd H a (.dK kvs) ∧ kvs.map (·.1) = ks.map Sum.inl ∧ ks.length < 64 ∧ ∀ (ys : List Int) (p : Addr), ys.Perm ks → ys.Pairwise (· ≤ ·) → H p = none → Q (.ref p) (upd H p (.lst (ys.map V.int))))
theorem cr_srt (hc : X.calm = true) (hu : X.A.units + 64 < cLine) : CallR X (.builtin "sorted") (rSrt X) :=
  (((cr_sortedA.or cr_sortedI).or (cr_sortX hu)).or ((call_sortedD hc).or (call_sortedDI hc)))
theorem zip_rep {K : PySem.W.Frag} {H : Hp} {C : Ad} {f : D → Option PyData} (hf : ∀ d p v, f d = some p → Rep K H C v d → Dp K H v p) : ∀ {xs : List D} {ps : List PyData} {vs : List V}, xs.mapM f = some ps → Reps K H C vs xs →
    ∃ bs : List Bx, bs.map (·.1) = vs ∧ bs.map (·.2) = xs.zip ps ∧ bs.map (·.2.2) = ps ∧ ∀ b ∈ bs, Rep K H C b.1 b.2.1 ∧ Dp K H b.1 b.2.2 ∧ f b.2.1 = some b.2.2
  | [], ps, vs, h, r => by
    cases r
    have : ps = [] := by simpa using h.symm
    subst this
    exact ⟨[], rfl, rfl, rfl, fun b h => by cases h⟩
  | d :: xs, ps, vs, h, r => by
    cases r with
    | cons r1 r2 =>
      rename_i v vs
      rw [List.mapM_cons] at h
      cases e : f d with
      | none => rw [e] at h; cases h
      | some p =>
        cases e2 : xs.mapM f with
        | none => rw [e, e2] at h; cases h
        | some qs =>
          rw [e, e2] at h
          have : p :: qs = ps := by simpa using h
          subst this
          obtain ⟨bs, b1, b2, b3, b4⟩ := zip_rep hf e2 r2
          refine ⟨(v, d, p) :: bs, by simp [b1], by simp [b2], by simp [b3], fun b hb => ?_⟩
          rcases List.mem_cons.mp hb with rfl | hb
          · exact ⟨r1, hf _ _ _ e r1, e⟩
          · exact b4 b hb
theorem reps_of {K : PySem.W.Frag} {H : Hp} {C : Ad} : ∀ {bs : List Bx}, (∀ b ∈ bs, Rep K H C b.1 b.2.1) → Reps K H C (bs.map (·.1)) (bs.map (·.2.1))
  | [], _ => .nil
  | b :: bs, h => .cons (h b List.mem_cons_self) (reps_of fun c hc => h c (List.mem_cons_of_mem _ hc))
theorem told_sort (ds : List D) (st : Sto) (H : Hp) (C : Ad) (vs : List V) (so : StoOk X.K H C st) (rv : Reps X.K H C vs ds) (d : D) (st' : Sto) (h : kSortX ds st = .ok d st') : ∃ xs, d = .lst xs ∧ st' = st ∧ Told X.K H C (rSrt X) vs xs := by
  unfold kSortX at h
  split at h
  · rename_i d2 st2 e0
    cases h
    unfold kSorted at e0
    split at e0
    · cases rv with
      | cons r1 r2 =>
        cases r2
        split at e0
        · rename_i xs e
          obtain ⟨a, ys, rfl, h1, h2, _⟩ := itemsR_rep e so r1
          split at e0
          · rename_i ss e2
            cases e0
            rw [strsOf_eq e2] at h2
            rw [Reps.strs h2] at h1
            refine ⟨_, rfl, rfl, fun Q k => .inl (.inl (.inl ⟨a, ss.map sv, rfl, h1, fun zs p hp hs hn => ?_⟩))⟩
            rw [strs_srt hp hs]
            exact k _ p (Reps.of_strs _) hn
          · split at e0
            · rename_i is e2
              cases e0
              rw [intsOf_eq e2] at h2
              rw [Reps.ints h2] at h1
              refine ⟨_, rfl, rfl, fun Q k => .inl (.inl (.inr ⟨a, is, rfl, h1, fun ns p hp hs hn => ?_⟩))⟩
              have e3 : ns = srt leI is := srt_of ordI hp (hs.imp fun h => by unfold leI; simpa using h)
              rw [e3]
              exact k _ p (Reps.of_ints _) hn
            · cases e0
        · cases e0
    · cases e0
  · split at h
    · cases rv with
      | cons r1 r2 =>
        cases r2
        split at h
        · rename_i xs e
          obtain ⟨a, ys, rfl, h1, h2, _⟩ := itemsR_rep e so r1
          split at h
          · rename_i ps e2
            split at h
            · rename_i hc
              cases h
              obtain ⟨hal, hk, _⟩ := hc
              obtain ⟨bs, b1, b2, b3, b4⟩ := zip_rep (fun d p v h r => toPy_dp so 40 d p v h r) e2 h2
              have e5 : srtD xs ps = (bs.mergeSort (PySem.W.dataLe false (fun b : Bx => b.2.2))).map (·.2.1) := by
                unfold srtD
                rw [← b2]
                have e6 : (bs.map (·.2)).mergeSort (PySem.W.dataLe false (fun b : D × PyData => b.2)) = (bs.mergeSort (PySem.W.dataLe false (fun b : Bx => b.2.2))).map (·.2) := by
                  rw [List.map_mergeSort]
                  intro b _ c _
                  rfl
                rw [e6, List.map_map]
                rfl
              refine ⟨_, rfl, rfl, fun Q k => .inl (.inr ⟨a, bs, rfl, by rw [b1]; exact h1, fun b hb => (b4 b hb).2.1, fun b hb c hc => ?_, ?_, fun b hb => (toPy_ok _ _ _ (b4 b hb).2.2).2, fun p hp => ?_⟩)⟩
              · unfold alikeB at hal
                rw [List.all_eq_true] at hal
                have m1 : b.2.2 ∈ ps := by rw [← b3]; exact List.mem_map.mpr ⟨b, hb, rfl⟩
                have m2 : c.2.2 ∈ ps := by rw [← b3]; exact List.mem_map.mpr ⟨c, hc, rfl⟩
                exact List.all_eq_true.mp (hal _ m1) _ m2
              · rw [b3]
                unfold sortableB at hk
                rw [Bool.or_eq_true] at hk
                rcases hk with hk | hk
                · refine .inl fun d hd => ?_
                  have := List.all_eq_true.mp hk d hd
                  unfold isTupC at this
                  split at this
                  · exact ⟨_, _, rfl⟩
                  · cases this
                · refine .inr fun d hd => ?_
                  have := List.all_eq_true.mp hk d hd
                  unfold isOth at this
                  split at this
                  · cases this
                  · cases this
                  · rename_i h1 h2; exact ⟨h1, h2⟩
              · refine k _ p ?_ hp
                rw [e5]
                exact reps_of fun b hb => (b4 b (List.mem_mergeSort.mp hb)).1
            · cases h
          · cases h
        · split at h
          · rename_i es e
            obtain ⟨a, kvs, rfl, h1, h2⟩ := ents_rep e so r1
            split at h
            · rename_i ks e2
              split at h
              · rename_i hl
                cases h
                refine ⟨_, rfl, rfl, fun Q k => .inr (.inl ⟨a, kvs, ks.map sv, rfl, h1, keys_str h2 (strsOf_eq e2), by rw [List.length_map]; exact hl, fun zs p hp hs hn => ?_⟩)⟩
                rw [strs_srt hp hs]
                exact k _ p (Reps.of_strs _) hn
              · cases h
            · split at h
              · rename_i ks e2
                split at h
                · rename_i hl
                  cases h
                  refine ⟨_, rfl, rfl, fun Q k => .inr (.inr ⟨a, kvs, ks, rfl, h1, keys_int h2 (intsOf_eq e2), hl, fun ns p hp hs hn => ?_⟩)⟩
                  have e3 : ns = srt leI ks := srt_of ordI hp (hs.imp fun h => by unfold leI; simpa using h)
                  rw [e3]
                  exact k _ p (Reps.of_ints _) hn
                · cases h
              · cases h
          · cases h
    · cases h
theorem c_sortX (hc : X.calm = true) (hu : X.A.units + 64 < cLine) : ∃ r, CallR X (.builtin "sorted") r ∧ SimCR (gx X) r kSortX ∧ NoX1 kSortX := by
  refine ⟨_, cr_srt hc hu, fun ds st H C vs Q so rv h => ?_, nox_sortX⟩
  cases e : kSortX ds st with
  | no => rw [e] at h; exact h.elim
  | exc c x st1 => exact absurd e (nox_sortX _ _ _ _ _)
  | ok d st1 =>
    rw [e] at h
    obtain ⟨xs, rfl, rfl, t⟩ := told_sort ds st H C vs so rv d _ e
    exact t Q fun ys p r hp => new_lst h so r p hp
theorem c_sortXC (hc : X.calm = true) (hu : X.A.units + 64 < cLine) : ∃ r, CallR X (.builtin "sorted") r ∧ SimCR (gx X) r (kCell kSortX) ∧ NoX1 (kCell kSortX) := by
  refine ⟨_, cr_srt hc hu, simcr_cell fun ds st H C vs Q so rv xs0 st' h => ?_, fun ds st c z st' h => by unfold kCell at h; split at h <;> cases h⟩
  obtain ⟨xs, e, e2, t⟩ := told_sort ds st H C vs so rv _ _ h
  cases e
  exact ⟨e2, t Q⟩
end
end FL

/-! FLy: a dict display, in a cell -/
namespace FL
open PySem PySem.Spec PyProof.Rows L2

inductive RepPs (K : PySem.W.Frag) (H : Hp) (C : Ad) : List (V × V) → List (D × D) → Prop
  | nil : RepPs K H C [] []
  | cons {x y : V} {q d : D} {r : List (V × V)} {es : List (D × D)} : Rep K H C x q → Rep K H C y d → RepPs K H C r es → RepPs K H C ((x, y) :: r) ((q, d) :: es)
section
variable {K : PySem.W.Frag} {H H' : Hp} {C C' : Ad}
theorem RepPs.mono (e : Ext C H C' H') : ∀ {es : List (D × D)} {ps : List (V × V)}, RepPs K H C ps es → RepPs K H' C' ps es
  | _, _, .nil => .nil
  | _, _, .cons a b c => .cons (a.mono e) (b.mono e) (RepPs.mono e c)
theorem RepPs.keys : ∀ {es : List (D × D)} {ps : List (V × V)}, RepPs K H C ps es → (es.all fun e => isKey e.1) = true → ∃ kvs : List (Key × V), ps = kvs.map (fun kv => (kV kv.1, kv.2)) ∧ RepKs K H C kvs es ∧ kvs.length = es.length
  | _, _, .nil, _ => ⟨[], rfl, .nil, rfl⟩
  | (q, d) :: es, (x, y) :: r, .cons a b c, h => by
    rw [List.all_cons, Bool.and_eq_true] at h
    obtain ⟨kvs, rfl, h2, h3⟩ := RepPs.keys c h.2
    have : ∃ k, RepKey k q ∧ x = kV k := by
      have h1 := h.1
      unfold isKey at h1
      split at h1
      · rename_i i e
        have e : q = .int i := e
        subst e
        cases a
        exact ⟨.inl i, .int i, rfl⟩
      · rename_i i e
        have e : q = .str i := e
        subst e
        cases a
        exact ⟨.inr (sv i), .str i, rfl⟩
      · cases h1
    obtain ⟨k, hk, rfl⟩ := this
    exact ⟨(k, y) :: kvs, rfl, .cons hk b h2, by simp [h3]⟩
def mergeD (es0 es : List (D × D)) : List (D × D) := es.foldl (fun a e => putL a e.1 e.2) es0
theorem RepKs.merge : ∀ {es es0 : List (D × D)} {kvs kvs0 : List (Key × V)}, RepKs K H C kvs es → RepKs K H C kvs0 es0 → RepKs K H C (mergeK kvs0 kvs) (mergeD es0 es)
  | [], _, _, _, h, r => by cases h; exact r
  | (q, d) :: es, es0, _, kvs0, h, r => by
    cases h with
    | cons h0 h1 h2 =>
      rename_i k v kvs
      show RepKs K H C (mergeK (putK kvs0 k v) kvs) (mergeD (putL es0 q d) es)
      exact RepKs.merge h2 (r.put h0 h1)
theorem StoOk.openD {st : Sto} {p : Addr} {es : List (D × D)} {kvs : List (Key × V)} (s : StoOk K H (C.hide p) st) (hc : p ∉ C.c) (hp : p ∉ C.p) (h : H p = some (.dK kvs)) (r : RepKs K H (C.hide p) kvs es) : StoOk K H (C.add p) (st ++ [.dct es]) where
  len := by
    have l : C.c.length = st.length := s.len
    show (C.c ++ [p]).length = _
    rw [List.length_append, List.length_append, l]; rfl
  nd := by
    show (C.c ++ [p]).Nodup
    rw [List.nodup_append]
    refine ⟨s.nd, by simp, fun a ha b hb => ?_⟩
    rw [List.mem_singleton.mp hb]
    exact fun z => hc (z ▸ ha)
  ok := fun n a u h1 h2 => by
    have l : C.c.length = st.length := s.len
    have h1 : (C.c ++ [p])[n]? = some a := h1
    by_cases hn : n < C.c.length
    · rw [List.getElem?_append_left hn] at h1
      rw [List.getElem?_append_left (by rw [← l]; exact hn)] at h2
      exact (s.ok n a u h1 h2).monoS Stay.open fun u e => e
    · have hn' : n = C.c.length := by
        have := (List.getElem?_eq_some_iff.mp h1).1
        rw [List.length_append, List.length_singleton] at this
        omega
      subst hn'
      rw [List.getElem?_append_right (Nat.le_refl _), Nat.sub_self] at h1
      rw [List.getElem?_append_right (by rw [l]; exact Nat.le_refl _), l, Nat.sub_self] at h2
      have e1 : p = a := by simpa using h1
      have e2 : Co.dct es = u := by simpa using h2
      subst e1 e2
      exact ⟨kvs, h, r.monoS Stay.open⟩
  pt := fun a ha => s.pt a (List.mem_cons_of_mem _ ha)
  ap := fun a ha hcc => by
    rcases List.mem_append.mp hcc with q | q
    · exact s.ap a (List.mem_cons_of_mem _ ha) q
    · rw [List.mem_singleton.mp q] at ha
      exact hp ha
end
abbrev FP := En → Sto → R (List (D × D))
def SimP (g : Gx) (W : WX) (trs : List (TE × TE)) (f : FP) : Prop := ∀ (ρ : En) (σ : L2.St) (st : Sto) (H : Hp) (C : Ad) (Q : List (V × V) → Hp → Prop), Rs g.K H C σ ρ → StoOk g.K H C st →
  After g (fun c d H' => W c d σ H') C H (f ρ st) (fun es _ C' H' => ∀ ps, RepPs g.K H' C' ps es → Q ps H') → tPairs trs σ H Q
structure SP' (X : Cx) (W : WX) (keys : List (Option Expr)) (values : List Expr) (f : FP) : Prop where
  ex : ∃ trs, (∀ pos, PPs X pos keys values trs) ∧ SimP (gx X) W trs f
def fpNil : FP := fun _ st => .ok [] st
def fpCons (k v : FE) (r : FP) : FP := fun ρ st => (k ρ st).bind fun q st1 => (v ρ st1).bind fun d st2 => (r ρ st2).bind fun es st3 => .ok ((q, d) :: es) st3
def fDisp (f : FP) : FE := fun ρ st => (f ρ st).quiet.bind fun es st1 => if (es.all fun e => isKey e.1) = true ∧ es.length ≤ 15 then .ok (.cel st1.length) (st1 ++ [.dct (mergeD [] es)]) else .no
section
variable {X : Cx} {W : WX}
theorem sp'_nil : SP' X W [] [] fpNil := ⟨[], fun _ => pps_nil, fun ρ σ st H C Q rs so h => h.here so [] .nil⟩
theorem sp'_cons {k v : Expr} {ks : List (Option Expr)} {vs : List Expr} {fk fv : FE} {r : FP} (hk : SE X W k fk) (hv : SE X W v fv) (hr : SP' X W ks vs r) : SP' X W (some k :: ks) (v :: vs) (fpCons fk fv r) := by
  obtain ⟨tk, pk, sk⟩ := hk
  obtain ⟨tv, pv, sv⟩ := hv
  obtain ⟨trs, pr, sr⟩ := hr
  refine ⟨(tk, tv) :: trs, fun pos => pps_cons pk pv (pr pos), fun ρ σ st H C Q rs so h => ?_⟩
  refine sk ρ σ st H C _ rs so (h.bind.imp fun d st1 C1 H1 so1 e1 h1 x rx => ?_)
  refine sv ρ σ st1 H1 C1 _ (rs.mono e1) so1 (h1.bind.imp fun d2 st2 C2 H2 so2 e2 h2 y ry => ?_)
  refine sr ρ σ st2 H2 C2 _ ((rs.mono e1).mono e2) so2 (h2.bind.imp fun es st3 C3 H3 so3 e3 h3 ps rp => ?_)
  exact h3.here so3 _ (.cons ((rx.mono e2).mono e3) (ry.mono e3) rp)
theorem se_disp {keys : List (Option Expr)} {values : List Expr} {f : FP} {pos : Pos} (h : SP' X W keys values f) (hall : keys.all (·.isSome) = true := by rfl) (hl : keys.length = values.length := by rfl) (h0 : keys ≠ [] := by exact fun e => nomatch e) (h15 : keys.length ≤ 15 := by decide) :
    SE X W (.Dict keys values pos) (fDisp f) := by
  obtain ⟨trs, pr, sr⟩ := h
  refine ⟨_, pe_disp (pr pos) hall hl h0 h15, fun ρ σ st H C Q rs so h p hp => ?_⟩
  unfold fDisp at h
  cases e : f ρ st with
  | no => rw [e] at h; exact h.elim
  | exc c x st1 => rw [e] at h; exact h.elim
  | ok es st1 =>
    rw [e] at h
    have h : After (gx X) _ C H (if (es.all fun e => isKey e.1) = true ∧ es.length ≤ 15 then R.ok (D.cel st1.length) (st1 ++ [.dct (mergeD [] es)]) else R.no) _ := h
    split at h
    · rename_i hc
      refine sr ρ σ st (upd H p (.dK [])) (C.hide p) _ (rs.monoS (Stay.hide hp)) (so.hide hp) ?_
      rw [e]
      intro C' H' so' e' ps rp
      have pc : p ∉ C.c := (so.fresh hp).1
      have pp : p ∉ C.p := (so.fresh hp).2
      have hH : H' p = some (.dK []) := e'.keep _ _ upd_same pc
      obtain ⟨kvs, rfl, rk, lk⟩ := rp.keys hc.1
      refine ⟨hH, kvs, rfl, by rw [lk]; exact hc.2, ?_⟩
      have ep : C'.p = p :: C.p := e'.priv
      let C3 : Ad := ⟨C'.c, C.p⟩
      have eC : C' = C3.hide p := by
        show C' = ⟨C'.c, p :: C.p⟩
        rw [← ep]
      have pc3 : p ∉ C3.c := fun hcc => by
        rcases e'.new p hcc with z | z
        · exact pc z
        · rw [upd_same] at z; cases z
      have hm : p ∈ C'.p := by rw [ep]; exact List.mem_cons_self
      have so3 : StoOk X.K (upd H' p (.dK (mergeK [] kvs))) (C3.hide p) st1 := eC ▸ so'.hid hm
      have rk3 : RepKs X.K (upd H' p (.dK (mergeK [] kvs))) (C3.hide p) (mergeK [] kvs) (mergeD [] es) := eC ▸ (RepKs.merge rk .nil).monoS (Stay.hid hm)
      have ex : Ext C H (C3.add p) (upd H' p (.dK (mergeK [] kvs))) := ⟨e'.pre.trans (List.prefix_append _ _), rfl, fun a ha => by
        rcases List.mem_append.mp ha with z | z
        · rcases e'.new a z with q | q
          · exact .inl q
          · refine .inr ?_
            by_cases ap : a = p
            · rw [ap]; exact hp
            · rw [upd_ne ap] at q; exact q
        · rw [List.mem_singleton.mp z]; exact .inr hp, fun a o ho hcc => by
          have ap : a ≠ p := ne_of_none ho hp
          rw [upd_ne ap]
          exact e'.keep a o (by rw [upd_ne ap]; exact ho) hcc, fun a o ho hf => by
          have ap : a ≠ p := ne_of_none ho hp
          rw [upd_ne ap]
          exact e'.frz a o (by rw [upd_ne ap]; exact ho) hf, fun a o ho => by
          have ap : a ≠ p := ne_of_none ho hp
          rw [upd_ne ap]
          exact e'.trk a o (by rw [upd_ne ap]; exact ho)⟩
      refine h (C3.add p) _ (so3.openD pc3 pp upd_same rk3) ex (V.ref p) (Rep.cel ?_)
      show (C'.c ++ [p])[st1.length]? = some p
      have l : C'.c.length = st1.length := so'.len
      rw [← l]; simp
    · exact h.elim
end
end FL

/-! FLz: d.get(..), x.index(..), text.upper(), text.endswith(..) -/
namespace FL
open PySem PySem.Spec PyProof.Rows L2

/-! ### d.get(k), d.get(k, x) -/
def getD' (st : Sto) (x y z : D) : R D := match keyOf y, ents st x with
  | some _, some es => .ok ((lookK es y).getD z) st
  | _, _ => .no
def fGet1 (f g : FE) : FE := fun ρ st => (f ρ st).bind fun x st1 => match ents st1 x with
  | some _ => (g ρ st1).bind fun y st2 => getD' st2 x y .non
  | none => .no
def fGet2 (f g h : FE) : FE := fun ρ st => (f ρ st).bind fun x st1 => match ents st1 x with
  | some _ => (g ρ st1).bind fun y st2 => (h ρ st2).bind fun z st3 => getD' st3 x y z
  | none => .no
section
variable {X : Cx} {W : WX} {o e e2 : Expr} {apos cpos : Pos} {f g h : FE}
theorem getD_rep {K : PySem.W.Frag} {mg : Str → Option Value} {H : Hp} {C : Ad} {st : Sto} {x y z : D} {v u w : V} {Q : VK} (so : StoOk K H C st) (rx : Rep K H C v x) (ry : Rep K H C u y) (rz : Rep K H C w z)
    (q : After ⟨K, mg⟩ (fun _ _ _ => False) C H (getD' st x y z) fun d _ C' H' => ∀ v, Rep K H' C' v d → Q v H') : ∃ a o, v = .ref a ∧ DGet H a u o ∧ Q (o.getD w) H := by
  unfold getD' at q
  split at q
  · rename_i k es e1 e2
    obtain ⟨a, kvs, rfl, h1, h2⟩ := ents_rep e2 so rx
    have hk : RepKey k y ∧ u = kV k := by
      unfold keyOf at e1
      split at e1
      · cases e1; cases ry; exact ⟨.int _, rfl⟩
      · cases e1; cases ry; exact ⟨.str _, rfl⟩
      · cases e1
    have l := lookK_rep hk.1 h2
    refine ⟨a, valV kvs k, rfl, .inl ⟨kvs, k, h1, hk.2, rfl⟩, q.here so _ ?_⟩
    split at l
    · rename_i e; obtain ⟨w', l1, l2⟩ := l; rw [l1, e]; exact l2
    · rename_i e; rw [l, e]; exact rz
  · exact q.elim
theorem nox_get {st : Sto} {x y z : D} : ∀ c d st', getD' st x y z ≠ .exc c d st' := fun c d st' h => by
  unfold getD' at h
  split at h <;> cases h
theorem se_get1 (hu : X.A.units + 1 < cLine) (ho : SE X W o f) (he : SE X W e g) (m : M1 X o "get" apos e cpos := by exact ⟨rfl, rfl, rfl, rfl⟩) : SE X W (.Call (.Attribute o "get" apos) [e] [] cpos) (fGet1 f g) := by
  obtain ⟨t, p, s⟩ := ho
  obtain ⟨t2, p2, s2⟩ := he
  refine ⟨_, pe_dget1 hu p p2 m, fun ρ σ st H C Q rs so q => s ρ σ st H C _ rs so (q.bind.imp fun x st1 C1 H1 so1 e1 q1 v rv => ?_)⟩
  split at q1
  · rename_i es hes
    obtain ⟨a, kvs, rfl, h1, h2⟩ := ents_rep hes so1 rv
    refine ⟨a, rfl, .inl ⟨kvs, h1⟩, s2 ρ σ st1 H1 C1 _ (rs.mono e1) so1 (q1.bind.imp fun y st2 C2 H2 so2 e2 q2 u ru => ?_)⟩
    obtain ⟨a', o, e, g, q⟩ := getD_rep (mg := X.mg) so2 (rv.mono e2) ru .non (q2.nox nox_get)
    cases e
    exact ⟨o, g, q⟩
  · exact q1.elim
theorem se_get2 (hu : X.A.units + 1 < cLine) (ho : SE X W o f) (he : SE X W e g) (hf : SE X W e2 h) (m : M2 X o "get" apos e e2 cpos := by exact ⟨rfl, rfl, rfl, rfl⟩) : SE X W (.Call (.Attribute o "get" apos) [e, e2] [] cpos) (fGet2 f g h) := by
  obtain ⟨t, p, s⟩ := ho
  obtain ⟨t2, p2, s2⟩ := he
  obtain ⟨t3, p3, s3⟩ := hf
  refine ⟨_, pe_dget2 hu p p2 p3 m, fun ρ σ st H C Q rs so q => s ρ σ st H C _ rs so (q.bind.imp fun x st1 C1 H1 so1 e1 q1 v rv => ?_)⟩
  split at q1
  · rename_i es hes
    obtain ⟨a, kvs, rfl, h1, h2⟩ := ents_rep hes so1 rv
    refine ⟨a, rfl, .inl ⟨kvs, h1⟩, s2 ρ σ st1 H1 C1 _ (rs.mono e1) so1 (q1.bind.imp fun y st2 C2 H2 so2 e2 q2 u ru => s3 ρ σ st2 H2 C2 _ ((rs.mono e1).mono e2) so2 (q2.bind.imp fun z st3 C3 H3 so3 e3 q3 w rw' => ?_))⟩
    obtain ⟨a', o, e, g, q⟩ := getD_rep (mg := X.mg) so3 ((rv.mono e2).mono e3) (ru.mono e3) rw' (q3.nox nox_get)
    cases e
    exact ⟨o, g, q⟩
  · exact q1.elim

/-! ### index -/
def mIndexS : FM := fun x ds st => match x, ds with
  | .str a, [.str b] => match Builtin.Str.occurrences (sv a) (sv b) 0 (sv a).length 1 with
    | i :: _ => .ok (.int (i : Nat)) st
    | [] => .no
  | _, _ => .no
theorem noxm_indexS : NoXM mIndexS := fun x ds st c z st' h => by
  unfold mIndexS at h
  split at h
  · split at h <;> cases h
  · cases h
theorem m_indexS : ∃ r, MtR X "str.index" r ∧ SimMt (gx X) r mIndexS ∧ NoXM mIndexS := by
  refine ⟨_, mt_sindex, fun x ds st H C v vs Q so rx rv q => ?_, noxm_indexS⟩
  unfold mIndexS at q
  split at q
  · cases rx
    cases rv with
    | cons r1 r2 =>
      cases r1; cases r2
      split at q
      · rename_i i rest e
        exact ⟨_, _, i, rest, rfl, rfl, e, q.here so _ (.int _)⟩
      · exact q.elim
  · exact q.elim
def mIndexL : FM := fun x ds st => match ds with
  | [d] => match toPy st 40 x, toPy st 40 d with
    | some (.list ps), some p => match ps.findIdx? (fun z => PyData.eqv z p) with
      | some i => .ok (.int (i : Nat)) st
      | none => .no
    | _, _ => .no
  | _ => .no
theorem noxm_indexL : NoXM mIndexL := fun x ds st c z st' h => by
  unfold mIndexL at h
  split at h
  · split at h
    · split at h <;> cases h
    · cases h
  · cases h
theorem m_indexL (hu : X.A.units + 65 < cLine) : ∃ r, MtR X "list.index" r ∧ SimMt (gx X) r mIndexL ∧ NoXM mIndexL := by
  refine ⟨_, mt_indexD hu, fun x ds st H C v vs Q so rx rv q => ?_, noxm_indexL⟩
  unfold mIndexL at q
  split at q
  · cases rv with
    | cons r1 r2 =>
      cases r2
      split at q
      · rename_i ps p e1 e2
        have d1 := toPy_dp so _ _ _ _ e1 rx
        have d2 := toPy_dp so _ _ _ _ e2 r1
        split at q
        · rename_i i ei
          obtain ⟨hi, h1, h2⟩ := List.findIdx?_eq_some_iff_getElem.mp ei
          obtain ⟨a, ea⟩ : ∃ a, v = V.ref a := by cases d1; exact ⟨_, rfl⟩
          subst ea
          refine ⟨a, _, p, ps, i, ps[i], rfl, rfl, d1, d2, toPy_shaped (by decide) e1, toPy_shaped (by decide) e2, List.getElem?_eq_getElem hi, h1, fun m z' hm hz => ?_, q.here so _ (.int _)⟩
          have hml : m < ps.length := by omega
          rw [List.getElem?_eq_getElem hml] at hz
          cases hz
          have := h2 m hm
          simpa using this
        · exact q.elim
      · exact q.elim
  · exact q.elim
/-! ### upper, endswith -/
def mUpper : FM := fun x ds st => match x, ds with
  | .str a, [] => if a.length ≤ lim then .ok (.str (Txt.upper (sv a)).cps.toList) st else .no
  | _, _ => .no
theorem noxm_upper : NoXM mUpper := fun x ds st c z st' h => by
  unfold mUpper at h
  split at h
  · split at h <;> cases h
  · cases h
theorem m_upper : ∃ r, MtR X "str.upper" r ∧ SimMt (gx X) r mUpper ∧ NoXM mUpper := by
  refine ⟨_, mt_upper, fun x ds st H C v vs Q so rx rv q => ?_, noxm_upper⟩
  unfold mUpper at q
  split at q
  · cases rx
    cases rv
    split at q
    · rename_i a hl
      refine ⟨_, rfl, rfl, by rw [sv_len]; exact Nat.le_trans hl (by decide), ?_⟩
      have := q.here so (.str (sv (Txt.upper (sv a)).cps.toList)) (.str _)
      simpa using this
    · exact q.elim
  · exact q.elim
def mEnds : FM := fun x ds st => match x, ds with
  | .str a, [.str b] => .ok (.bl (Txt.endswith (sv a) (sv b))) st
  | _, _ => .no
theorem noxm_ends : NoXM mEnds := fun x ds st c z st' h => by
  unfold mEnds at h
  split at h <;> cases h
theorem m_ends : ∃ r, MtR X "str.endswith" r ∧ SimMt (gx X) r mEnds ∧ NoXM mEnds := by
  refine ⟨_, mt_endswith, fun x ds st H C v vs Q so rx rv q => ?_, noxm_ends⟩
  unfold mEnds at q
  split at q
  · cases rx
    cases rv with
    | cons r1 r2 =>
      cases r1; cases r2
      exact ⟨_, _, rfl, rfl, q.here so _ (.bl _)⟩
  · exact q.elim
theorem sl_str_index : Slot (Ty.nm .str) "index" "str.index" := F.slot_str_index
theorem sl_str_upper : Slot (Ty.nm .str) "upper" "str.upper" := F.slot_str_upper
theorem sl_str_endswith : Slot (Ty.nm .str) "endswith" "str.endswith" := F.slot_str_endswith
theorem sl_list_index : Slot (Ty.nm .list) "index" "list.index" := F.slot_list_index
end
end FL

/-! FLzb: {k: v for .. in .. if ..} -/
namespace FL
open PySem PySem.Spec PyProof.Rows L2

def ePair (fk fv : FE) : FE := fun ρ st => (fk ρ st).quiet.bind fun a st1 => (fv ρ st1).quiet.bind fun b st2 => .ok (.tup [a, b]) st2
def pairsD : List D → Option (List (D × D))
  | [] => some []
  | .tup [a, b] :: r => if isKey a = true then (pairsD r).map fun es => (a, b) :: es else none
  | _ :: _ => none
def endD (ys : List D) (st : Sto) : R D := match pairsD ys with
  | some es => if ys.length ≤ lim then .ok (.cel st.length) (st ++ [.dct (mergeD [] es)]) else .no
  | none => .no
def fDc (src : FI) (h : FG) (t : FT) (fk fv : FE) (vs : List Nat) : FE := fun ρ st => (src ρ st).bind fun s st1 => (runL s (turnL h t (ePair fk fv) vs ρ) st1).bind fun ys st2 => endD ys st2
theorem pairsD_cons {y : D} {r : List D} {es : List (D × D)} (h : pairsD (y :: r) = some es) : ∃ a b es', y = .tup [a, b] ∧ isKey a = true ∧ pairsD r = some es' ∧ es = (a, b) :: es' := by
  unfold pairsD at h
  split at h
  · rename_i e; cases e
  · rename_i a b r' e
    obtain ⟨rfl, rfl⟩ := List.cons.inj e
    split at h
    · rename_i hk
      obtain ⟨es', h1, rfl⟩ := Option.map_eq_some_iff.mp h
      exact ⟨a, b, es', rfl, hk, h1, rfl⟩
    · cases h
  · cases h
theorem putL_len {es : List (D × D)} {a b : D} : (putL es a b).length ≤ es.length + 1 := by
  unfold putL
  split <;> simp
theorem ePair_ok {fk fv : FE} {ρ : En} {st st' : Sto} {d : D} (h : ePair fk fv ρ st = .ok d st') : ∃ a st1 b, fk ρ st = .ok a st1 ∧ fv ρ st1 = .ok b st' ∧ d = .tup [a, b] := by
  unfold ePair at h
  obtain ⟨a, st1, h1, h⟩ := R.bind_eq_ok h
  obtain ⟨b, st2, h2, h⟩ := R.bind_eq_ok h
  cases h
  exact ⟨a, st1, b, R.quiet_ok h1, R.quiet_ok h2, rfl⟩
section
variable {X : Cx} {W : WX}
theorem sim_dc {wi : TI} {tg : TG} {tt : TT} {tk tv : TE} {src : FI} {h : FG} {t : FT} {fk fv : FE} {vs : List Nat} (h0 : SimI (gx X) W wi src) (h1 : SimV (gx X) vs tg h) (h2 : SimT (gx X) W0 tt t) (h3 : SimE (gx X) W0 tk fk) (h4 : SimE (gx X) W0 tv fv) :
    SimE (gx X) W (tDc wi tg tt tk tv vs) (fDc src h t fk fv vs) := fun ρ σ st H C Q rs so q => by
  refine h0 ρ σ st H C _ rs so (q.bind.imp fun s st1 C1 H1 so1 e1 q1 J wk => ?_)
  have rs1 := rs.mono e1
  have tot : ∃ ys st2, runL s (turnL h t (ePair fk fv) vs ρ) st1 = .ok ys st2 := by
    cases z : runL s (turnL h t (ePair fk fv) vs ρ) st1 with
    | ok ys st2 => exact ⟨ys, st2, rfl⟩
    | no => rw [z] at q1; exact q1.elim
    | exc c x st2 =>
      exfalso
      obtain ⟨m, hm⟩ := runL_N s (turnL h t (ePair fk fv) vs ρ) st1
      rw [hm] at z
      have nx : ∀ (m i : Nat) (st : Sto), lcN s (turnL h t (ePair fk fv) vs ρ) m i st ≠ .exc c x st2 := by
        intro m
        induction m with
        | zero => intro i st z; cases z
        | succ m ih =>
          intro i st z
          rw [lcN] at z
          split at z
          · cases z
          · cases z
          · rename_i d _
            have tn : ∀ c x st', turnL h t (ePair fk fv) vs ρ d st ≠ .exc c x st' := by
              intro c x st' z
              unfold turnL at z
              cases a1 : h d (wipeE ρ vs) st with
              | no => rw [a1] at z; cases z
              | exc c x st => rw [a1] at z; cases z
              | ok ρ2 s2 =>
                rw [a1] at z
                simp only [R.quiet, R.bind_ok] at z
                cases a2 : t ρ2 s2 with
                | no => rw [a2] at z; cases z
                | exc c x st => rw [a2] at z; cases z
                | ok b s3 =>
                  rw [a2] at z
                  simp only [R.bind_ok] at z
                  split at z
                  · cases a3 : ePair fk fv ρ2 s3 with
                    | no => rw [a3] at z; cases z
                    | exc c x st => rw [a3] at z; cases z
                    | ok y s4 => rw [a3] at z; cases z
                  · cases z
            cases a1 : turnL h t (ePair fk fv) vs ρ d st with
            | no => rw [a1] at z; cases z
            | exc c x st => exact tn _ _ _ a1
            | ok o s1 =>
              rw [a1, R.bind_ok] at z
              cases a2 : lcN s (turnL h t (ePair fk fv) vs ρ) m (i + 1) s1 with
              | no => rw [a2] at z; cases z
              | exc c' x' st' => rw [a2] at z; cases z; exact ih _ _ a2
              | ok l s2 => rw [a2] at z; cases z
      exact nx m 0 st1 z
  obtain ⟨ysA, stA, hrun⟩ := tot
  rw [hrun, R.bind_ok] at q1
  unfold endD at q1
  split at q1
  case h_2 => exact q1.elim
  rename_i esA hpairs
  split at q1
  case isFalse => exact q1.elim
  rename_i hlim
  obtain ⟨m0, hm0⟩ := runL_N s (turnL h t (ePair fk fv) vs ρ) st1
  rw [hm0] at hrun
  intro D hD
  let Wf : Nat → Nat → Hp → Prop := fun i m H => ∃ st C acc accD ys es nn, StoOk X.K H (C.hide D) st ∧ Ext C1 H1 C H ∧ D ∉ C.c ∧ H D = some (.dK acc) ∧ RepKs X.K H (C.hide D) acc accD ∧ (∀ ds, s = .fix ds → i ≤ ds.length) ∧ lcN s (turnL h t (ePair fk fv) vs ρ) m i st = .ok ys stA ∧ pairsD ys = some es ∧ mergeD accD es = mergeD [] esA ∧ acc.length ≤ nn ∧ nn + ys.length ≤ lim
  have hDp : D ∉ C1.p := (so1.fresh hD).2
  refine ⟨Wf, ⟨m0, st1, C1, [], [], ysA, esA, 0, so1.hide hD, Ext.tree hD, (so1.fresh hD).1, upd_same, .nil, fun _ _ => Nat.zero_le _, hrun, hpairs, rfl, Nat.zero_le _, by omega⟩, ?_⟩
  rintro i m H2 ⟨st2, C2, acc, accD, ys, es, nn, so2, e2, hD2, hA, rA, hi, hl, hps, hcat, hnn, hnl⟩
  have soS := so2.show
  cases m with
  | zero => cases hl
  | succ m =>
    rw [lcN] at hl
    split at hl
    · cases hl
    · rename_i hn
      cases hl
      have nw := wk _ C2 H2 soS e2.stay e2.frz i none hn
      refine .inl ⟨nw, ?_⟩
      have hps : some [] = some es := hps
      cases hps
      have hcat : accD = mergeD [] esA := hcat
      have hD3 : D ∉ C2.p := by rw [e2.priv]; exact hDp
      have ex : Ext C1 H1 (C2.add D) H2 := ⟨e2.pre.trans (List.prefix_append _ _), e2.priv, fun a ha => by
        rcases List.mem_append.mp ha with z | z
        · exact e2.new a z
        · rw [List.mem_singleton.mp z]; exact .inr hD, e2.keep, e2.frz, e2.trk⟩
      rw [← hcat] at q1
      refine q1 (C2.add D) H2 (so2.openD hD2 hD3 hA rA) ex _ (.cel ?_)
      show (C2.c ++ [D])[stA.length]? = some D
      have l : C2.c.length = stA.length := so2.len
      rw [← l]; simp
    · rename_i d hn
      have sH : Stay C1 H1 (C2.hide D) H2 := ⟨e2.pre, fun a ho hn => by
        have z := e2.stay.nt a ho hn
        refine ⟨z.1, fun hc => ?_⟩
        rcases List.mem_cons.mp hc with q | q
        · rw [q] at hn; exact hn hD
        · exact z.2 q, e2.stay.keep⟩
      obtain ⟨w1, w2⟩ := wk st2 (C2.hide D) H2 so2 sH e2.frz i (some d) hn
      obtain ⟨o, st3, hT, hl⟩ := R.bind_eq_ok hl
      obtain ⟨l, st4, hl', hfin⟩ := R.bind_eq_ok hl
      cases hfin
      have hi' : ∀ ds, s = .fix ds → i + 1 ≤ ds.length := fun ds es => by
        subst es
        have hn : some ds[i]? = some (some d) := hn
        exact (List.getElem?_eq_some_iff.mp (Option.some.inj hn)).1
      -- behind the turn
      have fin : ∀ (C6 : Ad) (H6 : Hp), StoOk X.K H6 C6 st3 → Ext (C2.hide D) H2 C6 H6 → H6 D = some (.dK acc) ∧ (o = none → Wf (i + 1) m H6) ∧ ∀ a b va vb, o = some (.tup [a, b]) → Rep X.K H6 C6 va a → Rep X.K H6 C6 vb b → ∃ k, va = kV k ∧ acc.length < sizeLine ∧ Wf (i + 1) m (upd H6 D (.dK (putK acc k vb))) := fun C6 H6 so6 e6 => by
        have hA6 : H6 D = some (.dK acc) := e6.keep _ _ hA hD2
        have ep : C6.p = D :: C2.p := e6.priv
        let C3 : Ad := ⟨C6.c, C2.p⟩
        have eC : C6 = C3.hide D := by
          show C6 = ⟨C6.c, D :: C2.p⟩
          rw [← ep]
        have e26 : Ext C2 H2 C3 H6 := ⟨e6.pre, rfl, e6.new, e6.keep, e6.frz, e6.trk⟩
        have e16 : Ext C1 H1 C3 H6 := e2.trans e26
        have hD6 : D ∉ C3.c := fun hc => by
          rcases e6.new D hc with z | z
          · exact hD2 z
          · rw [hA] at z; cases z
        have rA6 := rA.mono e6
        refine ⟨hA6, fun ho => ?_, fun a b va vb ho ra rb => ?_⟩
        · subst ho
          exact ⟨st3, C3, acc, accD, l, es, nn, eC ▸ so6, e16, hD6, hA6, eC ▸ rA6, hi', hl', hps, hcat, hnn, hnl⟩
        · subst ho
          obtain ⟨a', b', es', e1, hk, hps', rfl⟩ := pairsD_cons (y := .tup [a, b]) (r := l) hps
          cases e1
          have hkey : ∃ k, RepKey k a ∧ va = kV k := by
            unfold isKey at hk
            split at hk
            · cases ra; exact ⟨_, .int _, rfl⟩
            · cases ra; exact ⟨_, .str _, rfl⟩
            · cases hk
          obtain ⟨k, hk1, hk2⟩ := hkey
          have hm : D ∈ C6.p := by rw [ep]; exact List.mem_cons_self
          have hl2 : nn + (l.length + 1) ≤ lim := hnl
          refine ⟨k, hk2, ?_, st3, C3, putK acc k vb, putL accD a b, l, es', nn + 1, eC ▸ so6.hid hm, ?_, hD6, upd_same, ?_, hi', hl', hps', hcat, ?_, by omega⟩
          · have hz : lim < sizeLine := by rw [sizeLine_eq]; decide
            omega
          · refine ⟨e16.pre, e16.priv, e16.new, fun a u ha hc => ?_, fun a u ha hc => ?_, fun a u ha => ?_⟩
            · rw [upd_ne (ne_of_none ha hD)]; exact e16.keep a u ha hc
            · rw [upd_ne (ne_of_none ha hD)]; exact e16.frz a u ha hc
            · rw [upd_ne (ne_of_none ha hD)]; exact e16.trk a u ha
          · exact eC ▸ (rA6.put hk1 rb).monoS (Stay.hid hm)
          · have := length_putK acc k vb
            omega
      refine .inr ⟨w1, fun H' => Wf (i + 1) m H', fun H' hw => ⟨m, Nat.lt_succ_self m, hw⟩, fun x H3 hy => ?_⟩
      obtain ⟨so3, e3, rx⟩ := w2 x H3 hy
      have rs3 : Rs X.K H3 (C2.hide D) (L2.wipe σ vs) (wipeE ρ vs) := ((rs1.wipe vs).monoS sH).mono e3
      unfold turnL at hT
      obtain ⟨ρ2, sa, hh, hT⟩ := R.bind_eq_ok hT
      obtain ⟨b, sb, ht, hT⟩ := R.bind_eq_ok hT
      have hh := R.quiet_ok hh
      have ht := R.quiet_ok ht
      refine h1 d x (wipeE ρ vs) (L2.wipe σ vs) st2 H3 (C2.hide D) _ rx rs3 so3 ?_
      rw [hh]
      intro C4 H4 so4 e4 σ4 rs4 w4
      refine ⟨w4.trans (wipe_idem σ vs), ?_⟩
      refine h2 ρ2 σ4 sa H4 C4 _ rs4 so4 ?_
      rw [ht]
      intro C5 H5 so5 e5
      cases b with
      | true =>
        rw [if_pos rfl] at hT
        obtain ⟨y, sc, he, hT⟩ := R.bind_eq_ok hT
        have he := R.quiet_ok he
        cases hT
        obtain ⟨ya, sk, yb, hk1, hk2, rfl⟩ := ePair_ok he
        refine iteT (h3 ρ2 σ4 sb H5 C5 _ (rs4.mono e5) so5 ?_)
        rw [hk1]
        intro C6 H6 so6 e6 va ra
        refine h4 ρ2 σ4 sk H6 C6 _ ((rs4.mono e5).mono e6) so6 ?_
        rw [hk2]
        intro C7 H7 so7 e7 vb rb
        obtain ⟨f1, _, f2⟩ := fin C7 H7 so7 ((((e3.trans e4).trans e5).trans e6).trans e7)
        obtain ⟨k, f3, f4, f5⟩ := f2 ya yb va vb rfl (ra.mono e7) rb
        exact ⟨acc, k, f3, f1, f4, f5⟩
      | false =>
        rw [if_neg Bool.false_ne_true] at hT
        cases hT
        exact iteF ((fin C5 H5 so5 ((e3.trans e4).trans e5)).2.1 rfl)
theorem se_dc {kx vx tg iter : Expr} {ifs : List Expr} {scope : Scope} {own : List (Str × Nat)} {pos : Pos} {src : FI} {h : FG} {t : FT} {fk fv : FE} (hc : X.calm = true) (hN : X.N.Nodup) (hi : SI X W tg iter src) (ok : BlkOk X.N X.env.scope scope own)
    (hg : ∀ (s : Shared) (H : Hp) (C : Addr) (cl : List (Str × Addr)) (fp : List Addr), SV (X.blk s H scope (compEnvC scope cl C X.env) fp) (own.map (·.2)) tg h)
    (ht : ∀ (s : Shared) (H : Hp) (C : Addr) (cl : List (Str × Addr)) (fp : List Addr), SPs (X.blk s H scope (compEnvC scope cl C X.env) fp) W0 ifs t)
    (hk : ∀ (s : Shared) (H : Hp) (C : Addr) (cl : List (Str × Addr)) (fp : List Addr), SE (X.blk s H scope (compEnvC scope cl C X.env) fp) W0 kx fk)
    (he : ∀ (s : Shared) (H : Hp) (C : Addr) (cl : List (Str × Addr)) (fp : List Addr), SE (X.blk s H scope (compEnvC scope cl C X.env) fp) W0 vx fv) (hs : ∀ x, foldedSetIterable iter X.env x = pure x := by intro _; rfl) :
    SE X W (.DictComp kx vx [⟨tg, iter, ifs, 0⟩] scope pos) (fDc src h t fk fv (own.map (·.2))) := by
  obtain ⟨wi, p0, s0⟩ := hi
  exact ⟨_, pe_dc (g := TGf (gx X) (own.map (·.2)) h) (tt := TTf (gx X) W0 t) (tk := TEf (gx X) W0 fk) (tv := TEf (gx X) W0 fv) hc hN p0 ok (fun s H C cl fp => (hg s H C cl fp).can) (fun s H C cl fp => (ht s H C cl fp).can) (fun s H C cl fp => (hk s H C cl fp).can) (fun s H C cl fp => (he s H C cl fp).can) hs,
    sim_dc s0 (fun d v ρ σ st H C Q rv rs so q => ⟨d, ρ, st, C, rv, rs, so, q⟩) (fun ρ σ st H C Q rs so q => ⟨ρ, st, C, rs, so, q⟩) (fun ρ σ st H C Q rs so q => ⟨ρ, st, C, rs, so, q⟩) (fun ρ σ st H C Q rs so q => ⟨ρ, st, C, rs, so, q⟩)⟩
end
end FL

/-! FLzc: == and != of dicts whose values hold no dicts -/
namespace FL
open PySem PySem.Spec PyProof.Rows L2

def valEq (st : Sto) (d e : D) : Option Bool := match toPy st 38 d, toPy st 38 e with
  | some p, some q => some (PyData.eqv p q)
  | _, _ => none
/-- each entry of the first is met in the second -/
def hitsD (st : Sto) (es : List (D × D)) : List (D × D) → Option Bool
  | [] => some true
  | (k, d) :: r => match lookK es k with
    | none => some false
    | some e => match valEq st d e, hitsD st es r with
      | some a, some b => some (a && b)
      | _, _ => none
def eqDct (st : Sto) (x y : D) : Option Bool := match ents st x, ents st y with
  | some es, some fs => match hitsD st fs es with
    | some b => some (es.length == fs.length && b)
    | none => none
  | _, _ => none
def gEqX (neg : Bool) : F2 := fun x y st => match gEqN neg x y st with
  | .ok d st' => .ok d st'
  | _ => match eqDct st x y with
    | some b => .ok (.bl (neg != b)) st
    | none => .no
theorem nox_eqX {b : Bool} : NoX2 (gEqX b) := fun x y st c z st' h => by
  unfold gEqX at h
  split at h
  · cases h
  · split at h <;> cases h
theorem gEqN_st {b : Bool} {x y d : D} {st st' : Sto} (h : gEqN b x y st = .ok d st') : st' = st ∧ ∃ p q, toPy st 40 x = some p ∧ toPy st 40 y = some q ∧ d = .bl (b != PyData.eqv p q) := by
  unfold gEqN at h
  split at h
  · rename_i p q e1 e2; cases h; exact ⟨rfl, p, q, e1, e2, rfl⟩
  · cases h
section
variable {X : Cx}
theorem hits_rep {pins : List (Addr × Obj)} {σ : L2.St} {H : Hp} {s : Shared} {C : Ad} {st : Sto} (I : Inv X pins σ H s) (so : StoOk X.K H C st) (hu : X.A.in1.units + 64 < cLine) {fs : List (D × D)} {ls : List (Key × V)} {vb : List (Key × Value)} (rf : RepKs X.K H C ls fs) (rb : KV ls vb) :
    ∀ {es : List (D × D)} {ks : List (Key × V)} {va : List (Key × Value)} {b : Bool}, RepKs X.K H C ks es → KV ks va → hitsD st fs es = some b → PySem.W.KeqHits X.A.in1 s vb va b
  | [], _, _, b, r, k, h => by
    cases r; cases k; cases h; exact .nil
  | (q, d) :: es, _, _, b, r, k, h => by
    cases r with
    | cons r0 r1 r2 =>
      rename_i key v ks
      cases k with
      | @cons _ p _ ps k1 k2 =>
        obtain ⟨kk, vv⟩ := p
        obtain ⟨e1, rv⟩ := k1
        have e1 : key = kk := e1
        subst e1
        have l := lookK_rep r0 rf
        have rr := rb.val key
        unfold hitsD at h
        split at h
        · rename_i e
          cases h
          rw [e] at l
          have l : valV ls key = none := l
          rw [l] at rr
          refine .miss ?_
          cases q : PySem.valueAt vb key with
          | none => rfl
          | some y => rw [q] at rr; exact (nomatch rr)
        · rename_i e' e
          rw [e] at l
          obtain ⟨w, l1, l2⟩ := l
          split at h
          · rename_i a b' e1 e2
            cases h
            unfold valEq at e1
            split at e1
            · rename_i p q e3 e4
              cases e1
              rw [l1] at rr
              obtain ⟨y, hy, ry⟩ := rr.some_of
              obtain ⟨as, ra⟩ := Dp.reads I _ _ _ (toPy_dp so _ _ _ _ e3 r1) rv
              obtain ⟨bs, rbb⟩ := Dp.reads I _ _ _ (toPy_dp so _ _ _ _ e4 l2) ry
              exact .hit hy (PySem.W.keq_at ra rbb (toPy_shaped (by decide) e3) (toPy_shaped (by decide) e4) hu) (hits_rep I so hu rf rb r2 k2 e2)
            · cases e1
          · cases h
def rEqX (X : Cx) (neg : Bool) : R2 := fun x y H Q => ∃ (a b : Addr) (ks ls : List (Key × V)) (r : Bool), x = .ref a ∧ y = .ref b ∧ Rd H a (.dK ks) ∧ Rd H b (.dK ls) ∧
  (∀ (pins : List (Addr × Obj)) (σ : L2.St) (s : Shared) (va vb : List (Key × Value)), Inv X pins σ H s → KV ks va → KV ls vb → PySem.W.KeqHits X.A.in1 s vb va r) ∧ Q (.bl (neg != (ks.length == ls.length && r))) H
theorem op_eqX (hu : X.A.units < cLine) : OpR X (compareOp .Eq) (rEqX X false) := by
  intro pins s σ H x y v u Q I rx ry h
  obtain ⟨a, b, ks, ls, r, rfl, rfl, ea, eb, hh, q⟩ := h
  obtain rfl : v = Value.ref a := rx
  obtain rfl : u = Value.ref b := ry
  obtain ⟨_, ya, va, ra, da⟩ := dk_rd I.hok ea
  obtain ⟨_, yb, vb, rb, db⟩ := dk_rd I.hok eb
  exact PySem.W.keq_eq (knd := mixKind X.prog X.w) (r := r) ya yb da db hu (fun _ => hh pins σ s va vb I ra rb) ⟨.bl (ks.length == ls.length && r), H, I, by rw [ra.length, rb.length]; rfl, by simpa using q⟩
theorem op_neX (hu : X.A.units < cLine) : OpR X (compareOp .NotEq) (rEqX X true) := by
  intro pins s σ H x y v u Q I rx ry h
  obtain ⟨a, b, ks, ls, r, rfl, rfl, ea, eb, hh, q⟩ := h
  obtain rfl : v = Value.ref a := rx
  obtain rfl : u = Value.ref b := ry
  obtain ⟨_, ya, va, ra, da⟩ := dk_rd I.hok ea
  obtain ⟨_, yb, vb, rb, db⟩ := dk_rd I.hok eb
  exact PySem.W.keq_ne (knd := mixKind X.prog X.w) (r := r) ya yb da db hu (fun _ => hh pins σ s va vb I ra rb) ⟨.bl (!(ks.length == ls.length && r)), H, I, by rw [ra.length, rb.length]; rfl, by simpa using q⟩
theorem eqDct_rep {H : Hp} {C : Ad} {st : Sto} {x y : D} {v u : V} {b : Bool} {neg : Bool} {Q : VK} (hu : X.A.in1.units + 64 < cLine) (h : eqDct st x y = some b) (so : StoOk X.K H C st) (rx : Rep X.K H C v x) (ry : Rep X.K H C u y) (q : Q (.bl (neg != b)) H) : rEqX X neg v u H Q := by
  unfold eqDct at h
  split at h
  · rename_i es fs e1 e2
    obtain ⟨a, ks, rfl, h1, h2⟩ := ents_rep e1 so rx
    obtain ⟨a', ls, rfl, h3, h4⟩ := ents_rep e2 so ry
    split at h
    · rename_i r er
      cases h
      refine ⟨a, a', ks, ls, r, rfl, rfl, h1, h3, fun pins σ s va vb I ra rb => hits_rep I so hu h4 rb h2 ra er, ?_⟩
      rw [h2.length, h4.length]
      exact q
    · cases h
  · cases h
theorem o_eqX (hu : X.A.units + 65 < cLine) : ∃ r, OpR X (compareOp .Eq) r ∧ SimR2 (gx X) r (gEqX false) ∧ NoX2 (gEqX false) := by
  refine ⟨_, (op_eqD (by omega)).or (op_eqX (by omega)), fun x y st H C v u Q so rx ry h => ?_, nox_eqX⟩
  unfold gEqX at h
  split at h
  · rename_i d st' e
    obtain ⟨rfl, p, q, e1, e2, rfl⟩ := gEqN_st e
    exact .inl ⟨_, _, toPy_dp so _ _ _ _ e1 rx, toPy_dp so _ _ _ _ e2 ry, toPy_shaped (by decide) e1, toPy_shaped (by decide) e2, by simpa using h.here so _ (.bl _)⟩
  · split at h
    · rename_i b e
      exact .inr (eqDct_rep (by show X.A.units + 1 + 64 < cLine; omega) e so rx ry (h.here so _ (.bl _)))
    · exact h.elim
theorem o_neX (hu : X.A.units + 65 < cLine) : ∃ r, OpR X (compareOp .NotEq) r ∧ SimR2 (gx X) r (gEqX true) ∧ NoX2 (gEqX true) := by
  refine ⟨_, (op_neD (by omega)).or (op_neX (by omega)), fun x y st H C v u Q so rx ry h => ?_, nox_eqX⟩
  unfold gEqX at h
  split at h
  · rename_i d st' e
    obtain ⟨rfl, p, q, e1, e2, rfl⟩ := gEqN_st e
    exact .inl ⟨_, _, toPy_dp so _ _ _ _ e1 rx, toPy_dp so _ _ _ _ e2 ry, toPy_shaped (by decide) e1, toPy_shaped (by decide) e2, by simpa using h.here so _ (.bl _)⟩
  · split at h
    · rename_i b e
      exact .inr (eqDct_rep (by show X.A.units + 1 + 64 < cLine; omega) e so rx ry (h.here so _ (.bl _)))
    · exact h.elim
end
end FL

/-! FMa: the laws' common helpers: numbers drawn -/
namespace FL
open PySem PySem.Spec PyProof.Rows L2

/-- a generator in cell n, its count at most k -/
def Gen (st : Sto) (n : Nat) (k : Int) : Prop := ∃ a b c : Int, st[n]? = some (.lst [.int a, .int b, .int c]) ∧ 0 ≤ c ∧ c ≤ k
/-- from st to st': cell n may be changed, new cells come behind -/
structure Fr (n : Nat) (st st' : Sto) : Prop where
  len : st.length ≤ st'.length
  keep : ∀ i, i < st.length → i ≠ n → st'[i]? = st[i]?
theorem Fr.refl {n : Nat} {st : Sto} : Fr n st st := ⟨Nat.le_refl _, fun _ _ _ => rfl⟩
theorem Fr.trans {n : Nat} {a b c : Sto} (h : Fr n a b) (k : Fr n b c) : Fr n a c := ⟨Nat.le_trans h.len k.len, fun i hi hn => (k.keep i (Nat.lt_of_lt_of_le hi h.len) hn).trans (h.keep i hi hn)⟩
theorem Fr.set {n : Nat} {st : Sto} {o : Co} : Fr n st (st.set n o) := ⟨by simp, fun i _ hn => by rw [List.getElem?_set_ne (Ne.symm hn)]⟩
theorem Fr.app {n : Nat} {st t : Sto} : Fr n st (st ++ t) := ⟨by simp, fun i hi _ => List.getElem?_append_left hi⟩
theorem Gen.mono {st : Sto} {n : Nat} {k j : Int} (h : Gen st n k) (hj : k ≤ j) : Gen st n j := by
  obtain ⟨a, b, c, h1, h2, h3⟩ := h
  exact ⟨a, b, c, h1, h2, by omega⟩
theorem Gen.lt {st : Sto} {n : Nat} {k : Int} (h : Gen st n k) : n < st.length := by
  obtain ⟨a, b, c, h1, _⟩ := h
  exact (List.getElem?_eq_some_iff.mp h1).1

theorem sp_hash {s i : Int} {st : Sto} (hi : i.natAbs < 18446744073709551616) : ∃ r, F__law_hash [.int s, .int i] st = .ok (.int r) st ∧ 0 ≤ r ∧ r < 2147483647 := by
  have m0 : ∀ x : Int, gMul (.int x) (.int 1140671) st = .ok (.int (x * 1140671)) st := fun x => gMul_int (cMul_r (by decide))
  have m1 : gMul (.int 27644437) (.int i) st = .ok (.int (27644437 * i)) st := gMul_int (cMul_l (by decide))
  have m2 : ∀ x : Int, gMul (.int x) (.int i) st = .ok (.int (x * i)) st := fun x => gMul_int (cMul_r hi)
  have m5 : ∀ x : Int, gMul (.int x) (.int 48271) st = .ok (.int (x * 48271)) st := fun x => gMul_int (cMul_r (by decide))
  have d1 : ∀ x : Int, gMod (.int x) (.int 2147483629) st = .ok (.int (x % 2147483629)) st := fun x => gMod_int (by decide)
  have d2 : ∀ x : Int, gMod (.int x) (.int 2147483587) st = .ok (.int (x % 2147483587)) st := fun x => gMod_int (by decide)
  have d3 : ∀ x : Int, gMod (.int x) (.int 2147483647) st = .ok (.int (x % 2147483647)) st := fun x => gMod_int (by decide)
  have sq : ∀ x : Int, gMul (.int (x % 2147483629)) (.int (x % 2147483629)) st = .ok (.int (x % 2147483629 * (x % 2147483629))) st := fun x => gMul_int (cMul_l (by have := Int.emod_nonneg x (b := 2147483629) (by decide); have := Int.emod_lt_of_pos x (b := 2147483629) (by decide); omega))
  unfold F__law_hash fb__law_hash
  simp [m0, m1, m2, m5, d1, d2, d3, sq]
  exact ⟨Int.emod_nonneg _ (by decide), Int.emod_lt_of_pos _ (by decide)⟩

theorem gSet_cel {st : Sto} {n : Nat} {xs : List D} {m : Nat} {v : D} (h : st[n]? = some (.lst xs)) (hm : m < xs.length) : gSet (.cel n) (.int (m : Int)) v st = .ok () (st.set n (.lst (xs.set m v))) := by
  unfold gSet
  simp only [h]
  have e : ixN xs.length (m : Int) = some m := by
    unfold ixN
    rw [if_pos (by omega), if_pos (by omega)]
    simp
  rw [e]
theorem set_get {st : Sto} {n : Nat} {o : Co} (h : n < st.length) : (st.set n o)[n]? = some o := by
  rw [List.getElem?_set_self h]
theorem bits_small {b : Int} (h0 : 0 < b) (h : b < 18446744073709551616) : (Builtin.Int.intBits b : Int) / 30 ≤ 2 := by
  have : Builtin.Int.intBits b ≤ 64 := PySem.intBits_le_iff.mpr (by omega)
  omega
theorem sp_random {st : Sto} {n : Nat} {k b : Int} (g : Gen st n k) (hk : k ≤ 1000000000000) (h0 : 0 < b) (hb : b < 18446744073709551616) :
    ∃ r st', F__law_random [.cel n, .int b] st = .ok (.int r) st' ∧ 0 ≤ r ∧ r < b ∧ Gen st' n (k + 3) ∧ Fr n st st' ∧ st'.length = st.length := by
  obtain ⟨x, y, c, hg, hc0, hck⟩ := g
  have hn : n < st.length := (List.getElem?_eq_some_iff.mp hg).1
  have i0 : gIx (.cel n) (.int 0) st = .ok (.int x) st := gIx_cel hg rfl
  have md : ∀ z : Int, ∀ st, gMod (.int z) (.int b) st = .ok (.int (z % b)) st := fun z st => gMod_int h0
  have dv : gDiv (.int x) (.int b) st = .ok (.int (x / b)) st := gDiv_int h0 hb
  have s0 : gSet (.cel n) (.int 0) (.int (x / b)) st = .ok () (st.set n (.lst [.int (x / b), .int y, .int c])) := gSet_cel (m := 0) hg (by simp)
  by_cases hx : 0 < x
  · refine ⟨x % b, st.set n (.lst [.int (x / b), .int y, .int c]), ?_, Int.emod_nonneg _ (by omega), Int.emod_lt_of_pos _ h0, ⟨_, _, _, set_get hn, hc0, by omega⟩, .set, by simp⟩
    unfold F__law_random fb__law_random
    simp [i0, md, dv, s0, hx]
  · have hd : ∀ z : Int, gDiv (.int z) (.int 30) st = .ok (.int (z / 30)) st := fun z => gDiv_int (by decide) (by decide)
    let m : Int := 1 + (Builtin.Int.intBits b : Int) / 30
    have hm : m ≤ 3 := by have := bits_small h0 hb; omega
    have hm0 : 0 ≤ m := by omega
    have hr : rng 0 m = (List.range m.toNat).map fun i : Nat => (i : Int) := by unfold rng; simp
    let I : Nat → En → Sto → Prop := fun i ρ s => ∃ (dr : Int) (t : Option D), ρ = [some (.cel n), some (.int b), some (.int dr), t] ∧ s = st.set n (.lst [.int x, .int y, .int (c + i)])
    have step : ∀ (i : Nat), i < 3 → ∀ (v : D) (ρ : En) (s : Sto), I i ρ s → ∃ ρ' s', ((hName 3 v ρ s).toO ρ fun ρ1 st1 => (fSeq (fAsg (fBin gAdd (fBin gIx (fVar 0) (fC (.int 2))) (fC (.int 1))) (hSub (fVar 0) (fC (.int 2))))
        (fAsg (fBin gAdd (fBin gMul (fVar 2) (fC (.int 2147483587))) (fCall 2 F__law_hash (faCons (fBin gIx (fVar 0) (fC (.int 1))) (faCons (fBin gIx (fVar 0) (fC (.int 2))) faNil)))) (hName 2))) ρ1 st1) = .nx ρ' s' ∧ I (i + 1) ρ' s' := by
      rintro i hi v ρ s ⟨dr, t, rfl, rfl⟩
      let s1 := st.set n (.lst [.int x, .int y, .int (c + i)])
      let s2 := st.set n (.lst [.int x, .int y, .int (c + i + 1)])
      have g1 : s1[n]? = some (.lst [.int x, .int y, .int (c + i)]) := set_get hn
      have g2 : s2[n]? = some (.lst [.int x, .int y, .int (c + i + 1)]) := set_get hn
      have a1 : gIx (.cel n) (.int 2) s1 = .ok (.int (c + i)) s1 := gIx_cel g1 rfl
      have a2 : gSet (.cel n) (.int 2) (.int (c + i + 1)) s1 = .ok () s2 := by
        have := gSet_cel (m := 2) (v := .int (c + i + 1)) g1 (by simp)
        rw [show ((2 : Nat) : Int) = 2 from rfl] at this
        rw [this]
        simp [s1, s2]
      have a3 : gIx (.cel n) (.int 1) s2 = .ok (.int y) s2 := gIx_cel g2 rfl
      have a4 : gIx (.cel n) (.int 2) s2 = .ok (.int (c + i + 1)) s2 := gIx_cel g2 rfl
      obtain ⟨h, a5, _, _⟩ := sp_hash (s := y) (i := c + i + 1) (st := s2) (by omega)
      have a6 : gMul (.int dr) (.int 2147483587) s2 = .ok (.int (dr * 2147483587)) s2 := gMul_int (cMul_r (by decide))
      refine ⟨[some (.cel n), some (.int b), some (.int (dr * 2147483587 + h)), some v], s2, ?_, dr * 2147483587 + h, some v, rfl, ?_⟩
      · show R.toO (hName 3 v _ s1) _ _ = _
        simp [a1, a2, a3, a4, a5, a6]
      · show s2 = _
        simp only [s2]
        rw [show c + ((i + 1 : Nat) : Int) = c + i + 1 from by omega]
    have st0 : st.set n (.lst [.int x, .int y, .int (c + ((0 : Nat) : Int))]) = st := by
      rw [show c + ((0 : Nat) : Int) = c from by omega]
      refine List.ext_getElem? fun j => ?_
      by_cases e : n = j
      · subst e; rw [List.getElem?_set_self hn, hg]
      · rw [List.getElem?_set_ne e]
    have lp := loopF_inv (g := hName 3) (b := fSeq (fAsg (fBin gAdd (fBin gIx (fVar 0) (fC (.int 2))) (fC (.int 1))) (hSub (fVar 0) (fC (.int 2))))
        (fAsg (fBin gAdd (fBin gMul (fVar 2) (fC (.int 2147483587))) (fCall 2 F__law_hash (faCons (fBin gIx (fVar 0) (fC (.int 1))) (faCons (fBin gIx (fVar 0) (fC (.int 2))) faNil)))) (hName 2)))
      (p := D.int) I (rng 0 m) 0 [some (.cel n), some (.int b), some (.int 0), none] st ⟨0, none, rfl, st0.symm⟩ (fun k hk ρ s hI => by
        have hk3 : 0 + k < 3 := by rw [hr] at hk; simp at hk; omega
        exact step (0 + k) hk3 _ ρ s hI)
    obtain ⟨ρ', st', e1, dr, t, rfl, rfl⟩ := lp
    have hlen : (rng 0 m).length = m.toNat := by rw [hr]; simp
    rw [hlen] at e1
    have okm : okR m = true := by unfold okR; simp; omega
    refine ⟨dr % b, st.set n (.lst [.int x, .int y, .int (c + ((0 + m.toNat : Nat) : Int))]), ?_, Int.emod_nonneg _ (by omega), Int.emod_lt_of_pos _ h0, ⟨_, _, _, set_get hn, by omega, by omega⟩, .set, by simp⟩
    · unfold F__law_random fb__law_random
      simp [i0, hx, hd, show (1 + (Builtin.Int.intBits b : Int) / 30) = m from rfl, okm, e1, md]
end FL

/-! FMb: the laws' common helpers: a cell of the script, a generator, things drawn, scraps drawn -/
namespace FL
open PySem PySem.Spec PyProof.Rows L2

theorem kSum_lst {st : Sto} {is : List Int} : kSum [.lst (is.map D.int)] st = .ok (.int is.sum) st := by
  unfold kSum
  simp only [itemsS, itemsR, items, Option.bind_some, intsOf_map]
theorem sp_cell {ns : List Int} {i : Nat} {st : Sto} : ∃ r, F__law_cell [.ro (ns.map D.int), .int (i : Int)] st = .ok (.int r) st := by
  by_cases h : i < ns.length
  · have e : gIx (.ro (ns.map D.int)) (.int (i : Int)) st = .ok (.int ns[i]) st := gIx_ro (by rw [atI_nat, List.getElem?_map, List.getElem?_eq_getElem h]; rfl)
    refine ⟨ns[i], ?_⟩
    unfold F__law_cell fb__law_cell
    simp [e, h]
  · have e2 : cut (ns.map D.int) none (some 1) = (ns.take 1).map D.int := by
      have := cut_take (xs := ns.map D.int) (m := 1)
      rw [show ((1 : Nat) : Int) = 1 from rfl] at this
      rw [this, List.map_take]
    have e3 : ∀ x : Int, gMod (.int x) (.int 1000003) st = .ok (.int (x % 1000003)) st := fun x => gMod_int (by decide)
    have e4 : kSum [.lst (List.take 1 (List.map D.int ns))] st = .ok (.int (ns.take 1).sum) st := by rw [← List.map_take]; exact kSum_lst
    refine ⟨(ns.take 1).sum % 1000003, ?_⟩
    unfold F__law_cell fb__law_cell
    simp [h, e2, e4, e3]
theorem sp_generator {ns : List Int} {i : Nat} {st : Sto} : ∃ a b : Int, F__law_generator [.ro (ns.map D.int), .int (i : Int)] st = .ok (.cel st.length) (st ++ [.lst [.int a, .int b, .int (1000 * i)]]) := by
  obtain ⟨r, hr⟩ := sp_cell (ns := ns) (i := i) (st := st)
  have p1 : gPow (.int 10) (.int 18) st = .ok (.int 1000000000000000000) st := gPow_int (by decide +kernel)
  have p2 : gPow (.int 10) (.int 60) st = .ok (.int (10 ^ 60)) st := gPow_int (by decide +kernel)
  have p3 : gPow (.int (10 ^ 60)) (.int 10) st = .ok (.int (10 ^ 600)) st := by
    rw [gPow_int (by decide +kernel)]
    rw [← Int.pow_mul]
    rfl
  have e1 : ∀ x : Int, gMod (.int x) (.int (10 ^ 600)) st = .ok (.int (x % 10 ^ 600)) st := fun x => gMod_int (by decide +kernel)
  have e2 : ∀ x : Int, gMod (.int x) (.int 2147483647) st = .ok (.int (x % 2147483647)) st := fun x => gMod_int (by decide)
  have e3 : gMul (.int 1000) (.int (i : Int)) st = .ok (.int (1000 * i)) st := gMul_int (cMul_l (by decide))
  refine ⟨max (r - 1000000000000000000) 0 % 10 ^ 600, r % 2147483647, ?_⟩
  unfold F__law_generator fb__law_generator
  generalize hT : (10 : Int) ^ 60 = T at *
  generalize hU : (10 : Int) ^ 600 = U at *
  simp [hr, p1, p2, p3, e1, e2, e3, kMax_int, lim]
theorem gen_new {st : Sto} {a b : Int} {i : Nat} : Gen (st ++ [.lst [.int a, .int b, .int (1000 * i)]]) st.length (1000 * i) := ⟨a, b, 1000 * i, by simp, by omega, by omega⟩

/-- one of a list -/
theorem sp_pick {st : Sto} {n : Nat} {k : Int} {ds : List D} (g : Gen st n k) (hk : k ≤ 1000000000000) (h0 : ds ≠ []) (hl : ds.length ≤ lim) :
    ∃ d st', F__law_pick [.cel n, .lst ds] st = .ok d st' ∧ d ∈ ds ∧ Gen st' n (k + 3) ∧ Fr n st st' ∧ st'.length = st.length := by
  have hp : 0 < ds.length := List.length_pos_iff.mpr h0
  unfold lim at hl
  obtain ⟨r, st', h1, h2, h3, h4, h5, h6⟩ := sp_random g hk (b := (ds.length : Int)) (by omega) (by omega)
  obtain ⟨m, rfl⟩ := Int.eq_ofNat_of_zero_le h2
  have hm : m < ds.length := by omega
  have e : gIx (.lst ds) (.int (m : Int)) st' = .ok ds[m] st' := gIx_lst (by rw [atI_nat, List.getElem?_eq_getElem hm])
  refine ⟨ds[m], st', ?_, List.getElem_mem hm, h4, h5, h6⟩
  unfold F__law_pick fb__law_pick
  simp [h1, e]
theorem joinS_nil : ∀ ss : List (List Nat), joinS [] ss = ss.flatten
  | [] => rfl
  | [a] => by simp [joinS]
  | a :: b :: r => by
    have := joinS_nil (b :: r)
    rw [joinS, this]
    simp
theorem mJoin_nil {st : Sto} {ss : List (List Nat)} (h : ss.flatten.length ≤ lim) : mJoin (.str []) [.lst (ss.map D.str)] st = .ok (.str ss.flatten) st := by
  unfold mJoin
  simp only [itemsS, itemsR, items, Option.bind_some, strsOf_map]
  rw [if_pos (by rw [List.length_flatten] at h; simpa using h), joinS_nil]
theorem mem_singles {signs : List Nat} {d : D} (h : d ∈ signs.map fun c => D.str [c]) : ∃ c ∈ signs, d = .str [c] := by
  obtain ⟨c, hc, rfl⟩ := List.mem_map.mp h
  exact ⟨c, hc, rfl⟩
theorem singles_of : ∀ {signs : List Nat} {ys : List D}, (∀ y ∈ ys, ∃ c ∈ signs, y = .str [c]) → ∃ s : List Nat, ys = (s.map fun c => [c]).map D.str ∧ s.length = ys.length ∧ ∀ c ∈ s, c ∈ signs
  | _, [], _ => ⟨[], rfl, rfl, by simp⟩
  | signs, y :: ys, h => by
    obtain ⟨c, hc, rfl⟩ := h y List.mem_cons_self
    obtain ⟨s, rfl, h2, h3⟩ := singles_of (ys := ys) fun y hy => h y (List.mem_cons_of_mem _ hy)
    refine ⟨c :: s, rfl, by simp, fun x hx => ?_⟩
    rcases List.mem_cons.mp hx with rfl | hx
    · exact hc
    · exact h3 x hx
theorem singles_flat (s : List Nat) : (s.map fun c => [c]).flatten = s := by
  induction s with
  | nil => rfl
  | cons c s ih => rw [List.map_cons, List.flatten_cons, ih]; rfl
theorem kList_str {st : Sto} {s : List Nat} (h : s.length ≤ lim) : kList [.str s] st = .ok (.lst (s.map fun c => .str [c])) st := by
  show (if s.length ≤ lim then _ else _) = _
  rw [if_pos h]
theorem rng_len {a b : Int} : (rng a b).length = (b - a).toNat := by unfold rng; simp
theorem sp_scrap {st : Sto} {n : Nat} {k most : Int} {signs : List Nat} (g : Gen st n k) (hk : k ≤ 900000000000) (hs : signs ≠ []) (hsl : signs.length ≤ 1000) (h0 : 0 < most) (hm : most ≤ 1000) :
    ∃ s st', F__law_scrap [.cel n, .str signs, .int most] st = .ok (.str s) st' ∧ s ≠ [] ∧ (s.length : Int) ≤ most ∧ (∀ c ∈ s, c ∈ signs) ∧ Gen st' n (k + 3 + 3 * most) ∧ Fr n st st' ∧ st'.length = st.length := by
  obtain ⟨r, st1, h1, h2, h3, h4, h5, h6⟩ := sp_random g (by omega) (b := most) h0 (by omega)
  have hl : (rng 0 (1 + r)).length = (1 + r).toNat := by rw [rng_len]; simp
  have hs0 : (signs.map fun c => D.str [c]) ≠ [] := by simpa using hs
  obtain ⟨ys, st2, k1, k2, k3, k4, k5, k6⟩ := lcL_inv (T := turnL (hName 3) fYes (fCall 2 F__law_pick (faCons (fVar 0) (faCons (fCB kList (faCons (fVar 1) faNil)) faNil))) [3] [some (.cel n), some (.str signs), some (.int most), none]) (p := D.int)
    (fun j s => Gen s n (k + 3 + 3 * j) ∧ Fr n st s ∧ s.length = st.length) (fun y => ∃ c ∈ signs, y = .str [c]) (rng 0 (1 + r)) 0 st1 ⟨h4.mono (by omega), h5, h6⟩ (fun x hx j s hj ⟨g1, g2, g3⟩ => by
      rw [hl] at hj
      obtain ⟨d, s', p1, p2, p3, p4, p5⟩ := sp_pick g1 (by omega) hs0 (by unfold lim; simpa using (by omega : signs.length ≤ 1000000))
      refine ⟨d, s', ?_, mem_singles p2, p3.mono (by omega), g2.trans p4, p5.trans g3⟩
      have kl : kList [.str signs] s = .ok (.lst (signs.map fun c => .str [c])) s := kList_str (by unfold lim; omega)
      simp [ev_turn, kl, p1])
  obtain ⟨s, hL, l1, l2⟩ := singles_of k2
  have hlen : s.length = (1 + r).toNat := by rw [l1, k3, hl]
  have okm : okR (1 + r) = true := by unfold okR; simp; omega
  have lm : s.length ≤ lim := by unfold lim; omega
  refine ⟨s, st2, ?_, fun e => ?_, by omega, l2, k4.mono (by rw [hl]; omega), k5, k6⟩
  · have mj : mJoin (.str []) [.lst ys] st2 = .ok (.str s) st2 := by
      have := mJoin_nil (st := st2) (ss := s.map fun c => [c]) (by rw [singles_flat]; exact lm)
      rw [singles_flat, ← hL] at this
      exact this
    have en : endL false ys st2 = .ok (.lst ys) st2 := by
      unfold endL
      rw [if_pos (by rw [← l1]; exact lm)]
      rfl
    unfold F__law_scrap fb__law_scrap
    simp [h1, okm, k1, en, mj, tyIs]
  · rw [e] at hlen
    simp at hlen
    omega
end FL

/-! FMc: turnings of a list -/
namespace FL
section
variable {α : Type}
def rot (l : List α) (i : Nat) : List α := l.drop (i % l.length) ++ l.take (i % l.length)
theorem rot_length (l : List α) (i : Nat) : (rot l i).length = l.length := by
  unfold rot
  rw [List.length_append, List.length_drop, List.length_take]
  by_cases h : l.length = 0
  · rw [h]; simp
  · have := Nat.mod_lt i (Nat.pos_of_ne_zero h)
    omega
theorem rot_get (l : List α) (i j : Nat) (hj : j < l.length) : (rot l i)[j]? = l[(i + j) % l.length]? := by
  have hp : 0 < l.length := by omega
  have hm := Nat.mod_lt i hp
  have e : (i + j) % l.length = (i % l.length + j) % l.length := by rw [Nat.mod_add_mod]
  rw [e]
  unfold rot
  generalize i % l.length = m at *
  by_cases h : j < l.length - m
  · rw [List.getElem?_append_left (by rw [List.length_drop]; exact h), List.getElem?_drop, Nat.mod_eq_of_lt (by omega)]
  · rw [List.getElem?_append_right (by rw [List.length_drop]; omega), List.length_drop, List.getElem?_take_of_lt (by omega)]
    have : (m + j) % l.length = m + j - l.length := by
      rw [Nat.mod_eq_sub_mod (by omega), Nat.mod_eq_of_lt (by omega)]
    rw [this]
    congr 1
    omega
theorem rot_ext {l m : List α} (hl : l.length = m.length) (h : ∀ j, j < l.length → l[j]? = m[j]?) : l = m := by
  refine List.ext_getElem? fun j => ?_
  by_cases hj : j < l.length
  · exact h j hj
  · rw [List.getElem?_eq_none (by omega), List.getElem?_eq_none (by omega)]
theorem rot_rot (l : List α) (i j : Nat) : rot (rot l i) j = rot l (i + j) := by
  refine rot_ext (by rw [rot_length, rot_length, rot_length]) fun k hk => ?_
  rw [rot_length, rot_length] at hk
  rw [rot_get _ _ _ (by rw [rot_length]; exact hk), rot_length, rot_get _ _ _ (Nat.mod_lt _ (by omega)), rot_get _ _ _ hk]
  congr 1
  rw [Nat.add_mod_mod, Nat.add_assoc]
theorem rot_zero (l : List α) : rot l 0 = l := by unfold rot; simp
theorem rot_mod (l : List α) (i : Nat) : rot l (i % l.length) = rot l i := by unfold rot; rw [Nat.mod_mod]
theorem rot_len (l : List α) : rot l l.length = l := by rw [← rot_mod, Nat.mod_self, rot_zero]
theorem rot_nil (i : Nat) : rot ([] : List α) i = [] := by unfold rot; simp
theorem rot_one {l : List α} : rot l 1 = l.drop 1 ++ l.take 1 := by
  match l with
  | [] => simp [rot]
  | [a] => simp [rot]
  | a :: b :: r =>
    unfold rot
    rw [Nat.mod_eq_of_lt (by simp)]
theorem rot_ne {l : List α} (h : l ≠ []) (i : Nat) : rot l i ≠ [] := fun e => by
  have := rot_length l i
  rw [e] at this
  exact h (List.length_eq_zero_iff.mp this.symm)
theorem rot_perm (l : List α) (i : Nat) : (rot l i).Perm l := by
  unfold rot
  exact List.perm_append_comm.trans (by rw [List.take_append_drop])
theorem rot_mem {l : List α} {i : Nat} {x : α} : x ∈ rot l i ↔ x ∈ l := (rot_perm l i).mem_iff
theorem rot_back (l : List α) (i : Nat) : ∃ j, rot (rot l i) j = l := by
  by_cases h : l.length = 0
  · have := List.length_eq_zero_iff.mp h
    subst this
    exact ⟨0, by rw [rot_nil, rot_nil]⟩
  · refine ⟨l.length - i % l.length, ?_⟩
    have hm := Nat.mod_lt i (Nat.pos_of_ne_zero h)
    rw [← rot_mod l i, rot_rot]
    rw [show i % l.length + (l.length - i % l.length) = l.length from by omega, rot_len]

/-! ### the least period -/
variable [DecidableEq α]
/-- the least i from 1 on by which l turns to itself -/
def per (l : List α) : Nat := ((List.range l.length).map (· + 1)).find? (fun i => decide (rot l i = l)) |>.getD 0
theorem per_spec {l : List α} (h : l ≠ []) : 0 < per l ∧ per l ≤ l.length ∧ rot l (per l) = l ∧ ∀ i, 0 < i → rot l i = l → per l ≤ i := by
  have hp : 0 < l.length := List.length_pos_iff.mpr h
  unfold per
  cases e : ((List.range l.length).map (· + 1)).find? (fun i => decide (rot l i = l)) with
  | none =>
    exfalso
    rw [List.find?_eq_none] at e
    refine e l.length (List.mem_map.mpr ⟨l.length - 1, List.mem_range.mpr (by omega), by omega⟩) ?_
    simpa using rot_len l
  | some r =>
    rw [List.find?_eq_some_iff_append] at e
    obtain ⟨h1, as, bs, h2, h3⟩ := e
    have hr : r ∈ (List.range l.length).map (· + 1) := by rw [h2]; simp
    obtain ⟨k, hk, rfl⟩ := List.mem_map.mp hr
    rw [List.mem_range] at hk
    refine ⟨by simp, (show k + 1 ≤ l.length from hk), by simpa using h1, fun i hi hi2 => ?_⟩
    show k + 1 ≤ i
    refine Nat.le_of_not_lt fun hlt => ?_
    have hsp : ((List.range l.length).map (· + 1)).take (k + 1) = (List.range (k + 1)).map (· + 1) := by
      rw [← List.map_take, List.take_range, Nat.min_eq_left (by omega)]
    have hi3 : ((List.range l.length).map (· + 1))[i - 1]? = some i := by
      rw [List.getElem?_map, List.getElem?_range (by omega)]
      simp; omega
    have hk3 : ((List.range l.length).map (· + 1))[k]? = some (k + 1) := by
      rw [List.getElem?_map, List.getElem?_range (by omega)]
      simp
    -- the place of k + 1 is as.length
    have nd : ((List.range l.length).map (· + 1)).Nodup := by
      rw [List.Nodup, List.pairwise_map]
      exact List.nodup_range.imp fun h => by omega
    have ha : as.length = k := by
      have h4 : ((List.range l.length).map (· + 1))[as.length]? = some (k + 1) := by rw [h2]; simp
      rw [List.getElem?_map] at h4
      by_cases hb : as.length < l.length
      · rw [List.getElem?_range hb] at h4
        simp at h4
        exact h4
      · rw [List.getElem?_eq_none (by simpa using hb)] at h4
        cases h4
    have hm : i ∈ as := by
      rw [h2, List.getElem?_append_left (by omega)] at hi3
      exact List.mem_of_getElem? hi3
    have := h3 i hm
    simp [hi2] at this
theorem rot_mul {l : List α} {r : Nat} (h : rot l r = l) : ∀ k, rot l (r * k) = l
  | 0 => rot_zero l
  | k + 1 => by rw [Nat.mul_succ, ← rot_rot, rot_mul h k, h]
theorem per_dvd {l : List α} (h : l ≠ []) {i : Nat} : rot l i = l ↔ per l ∣ i := by
  obtain ⟨h1, h2, h3, h4⟩ := per_spec h
  constructor
  · intro e
    have e2 : rot l (i % per l) = l := by
      have hs : i = per l * (i / per l) + i % per l := (Nat.div_add_mod _ _).symm
      rw [hs, ← rot_rot, rot_mul h3] at e
      exact e
    have hm := Nat.mod_lt i h1
    by_cases z : i % per l = 0
    · exact Nat.dvd_of_mod_eq_zero z
    · exact absurd (h4 _ (Nat.pos_of_ne_zero z) e2) (by omega)
  · rintro ⟨k, rfl⟩
    exact rot_mul h3 k
theorem per_len {l : List α} (h : l ≠ []) : per l ∣ l.length := (per_dvd h).mp (rot_len l)
theorem rot_per_mod {l : List α} (h : l ≠ []) (i : Nat) : rot l i = rot l (i % per l) := by
  obtain ⟨h1, h2, h3, h4⟩ := per_spec h
  have hs : i = per l * (i / per l) + i % per l := (Nat.div_add_mod _ _).symm
  conv => lhs; rw [hs, ← rot_rot, rot_mul h3]
theorem rot_eq_iff {l : List α} (h : l ≠ []) {i j : Nat} (hi : i < per l) (hj : j < per l) (e : rot l i = rot l j) : i = j := by
  obtain ⟨h1, h2, h3, h4⟩ := per_spec h
  have key : ∀ {i j : Nat}, i ≤ j → j < per l → rot l i = rot l j → i = j := fun {i j} hij hj e => by
    have e2 : rot l (i + (per l - i)) = rot l (j + (per l - i)) := by rw [← rot_rot, ← rot_rot, e]
    rw [show i + (per l - i) = per l from by omega, h3] at e2
    have := (per_dvd h).mp e2.symm
    rw [show j + (per l - i) = (j - i) + per l from by omega] at this
    have := (Nat.dvd_add_left (Nat.dvd_refl _)).mp this
    have := Nat.eq_zero_of_dvd_of_lt this (by omega)
    omega
  rcases Nat.le_total i j with q | q
  · exact key q hj e
  · exact (key q hi e.symm).symm
/-- all turnings, each once -/
def turns (l : List α) : List (List α) := (List.range (per l)).map (rot l)
theorem turns_nodup {l : List α} (h : l ≠ []) : (turns l).Nodup := by
  unfold turns
  rw [List.Nodup, List.pairwise_map]
  refine (List.nodup_range (n := per l)).imp_of_mem fun {i j} hi hj hne e => hne (rot_eq_iff h (List.mem_range.mp hi) (List.mem_range.mp hj) e)
theorem mem_turns {l m : List α} (h : l ≠ []) : m ∈ turns l ↔ ∃ i, m = rot l i := by
  obtain ⟨h1, h2, h3, h4⟩ := per_spec h
  unfold turns
  rw [List.mem_map]
  constructor
  · rintro ⟨i, _, rfl⟩
    exact ⟨i, rfl⟩
  · rintro ⟨i, rfl⟩
    exact ⟨i % per l, List.mem_range.mpr (Nat.mod_lt _ h1), (rot_per_mod h i).symm⟩
/-- a list out of equal pieces turns by a piece -/
theorem rep_get {l : List α} {k : Nat} (hk : 0 < k) : ∀ (m : Nat) {j : Nat}, l.length = k → j < k * m → ((List.replicate m l).flatten)[j]? = l[j % k]?
  | 0, j, _, h => by simp at h
  | m + 1, j, hl, h => by
    rw [List.replicate_succ, List.flatten_cons]
    by_cases hj : j < k
    · rw [List.getElem?_append_left (by omega), Nat.mod_eq_of_lt hj]
    · rw [List.getElem?_append_right (by omega), hl, rep_get hk m hl (by rw [Nat.mul_succ] at h; generalize k * m = z at *; omega)]
      congr 1
      exact (Nat.mod_eq_sub_mod (by omega)).symm
theorem rep_iff {l : List α} {k : Nat} (h : l ≠ []) (hk : 0 < k) (hd : k ∣ l.length) : (List.replicate (l.length / k) (l.take k)).flatten = l ↔ rot l k = l := by
  have hp : 0 < l.length := List.length_pos_iff.mpr h
  have hle : k ≤ l.length := Nat.le_of_dvd hp hd
  obtain ⟨q, hq⟩ := hd
  have hdiv : l.length / k = q := by rw [hq]; exact Nat.mul_div_cancel_left q hk
  have htl : (l.take k).length = k := by rw [List.length_take]; omega
  have hlen : ((List.replicate (l.length / k) (l.take k)).flatten).length = l.length := by
    rw [List.length_flatten, List.map_replicate, List.sum_replicate_nat, htl, hdiv, hq, Nat.mul_comm]
  constructor
  · intro e
    refine rot_ext (rot_length _ _) fun j hj => ?_
    rw [rot_length] at hj
    rw [rot_get _ _ _ hj]
    have g : ∀ j, j < l.length → l[j]? = (l.take k)[j % k]? := fun j hj => by
      conv => lhs; rw [← e]
      exact rep_get hk _ htl (by rw [hdiv]; omega)
    have hm : (k + j) % l.length < l.length := Nat.mod_lt _ hp
    rw [g _ hm, g j hj]
    congr 1
    rw [Nat.mod_mod_of_dvd _ ⟨q, hq⟩, Nat.add_mod_left]
  · intro e
    have g : ∀ i j, j < l.length → l[j]? = l[(k * i + j) % l.length]? := fun i j hj => by
      have := rot_get l (k * i) j hj
      rw [rot_mul e] at this
      exact this
    refine rot_ext hlen fun j hj => ?_
    rw [hlen] at hj
    rw [rep_get hk _ htl (by rw [hdiv]; omega), List.getElem?_take_of_lt (Nat.mod_lt _ hk)]
    have hj2 : j % k < l.length := Nat.lt_of_lt_of_le (Nat.mod_lt _ hk) hle
    rw [g (j / k) _ hj2, Nat.div_add_mod, Nat.mod_eq_of_lt hj]
end
end FL

/-! FMd: the laws' common helpers: exact, marked, unlike -/
namespace FL
open PySem PySem.Spec PyProof.Rows L2

/-- a list, and what it holds -/
def isL (st : Sto) (d : D) (ds : List D) : Prop := d = .lst ds ∨ ∃ k, d = .cel k ∧ st[k]? = some (.lst ds)
section
variable {st : Sto} {d e : D} {ds es : List D}
theorem isL.ty (h : isL st d ds) : tyOf st d = some .list := by
  rcases h with rfl | ⟨k, rfl, h⟩
  · rfl
  · show (match st[k]? with
      | some (.lst _) => some Ty.list
      | some (.dct _) => some Ty.dict
      | some (.lck _) => some Ty.dict
      | none => none) = _
    rw [h]
theorem isL.len (h : isL st d ds) : kLen [d] st = .ok (.int ds.length) st := by
  rcases h with rfl | ⟨k, rfl, h⟩
  · rfl
  · exact kLen_cel h
theorem isL.ix {i : Int} {x : D} (h : isL st d ds) (hx : atI ds i = some x) : gIx d (.int i) st = .ok x st := by
  rcases h with rfl | ⟨k, rfl, h⟩
  · exact gIx_lst hx
  · exact gIx_cel h hx
theorem isL.py {n : Nat} (h : isL st d ds) : toPy st (n + 1) d = (ds.mapM (toPy st n)).map .list := by
  rcases h with rfl | ⟨k, rfl, h⟩
  · rfl
  · exact toPy_cel h
theorem isL.sd (h : isL st d ds) : ∃ s, sdOf st d = some s ∧ ∀ i, sdAt s st i = some ds[i]? := by
  rcases h with rfl | ⟨k, rfl, h⟩
  · exact ⟨.fix ds, rfl, fun i => rfl⟩
  · refine ⟨.cel k, ?_, fun i => ?_⟩
    · show (match st[k]? with
        | some (.lst _) => some (Sd.cel k)
        | _ => none) = _
      rw [h]
    · show (match st[k]? with
        | some (.lst ds) => some ds[i]?
        | _ => none) = _
      rw [h]
theorem isL.ntup (h : isL st d ds) : ∀ xs, d ≠ .tup xs := by
  rcases h with rfl | ⟨k, rfl, h⟩
  · intro xs e; cases e
  · intro xs e; cases e
theorem zipS_L (h : isL st d ds) (k : isL st e es) : ∃ a b, zipS st [d, e] = some (.zip a b) ∧ (∀ i, sdAt a st i = some ds[i]?) ∧ ∀ i, sdAt b st i = some es[i]? := by
  obtain ⟨a, a1, a2⟩ := h.sd
  obtain ⟨b, b1, b2⟩ := k.sd
  refine ⟨a, b, ?_, a2, b2⟩
  unfold zipS
  split
  · rename_i xs ys q
    injection q with q1 q2
    exact absurd q1 (h.ntup _)
  · rename_i x y hn q
    injection q with q1 q2
    injection q2 with q2 q3
    subst q1 q2
    rw [a1, b1]
  · rename_i hn1 hn2
    exact absurd rfl (hn2 d e)
theorem lcN_zip {a b : Sd} {ds es : List D} {T : D → Sto → R (Option D)} {v : D} (ha : ∀ i, sdAt a st i = some ds[i]?) (hb : ∀ i, sdAt b st i = some es[i]?) (hl : ds.length = es.length)
    (hT : ∀ (i : Nat) x y, ds[i]? = some x → es[i]? = some y → T (.tup [x, y]) st = .ok (some v) st) : ∀ (m i : Nat), i + m = ds.length → lcN (.zip a b) T (m + 1) i st = .ok (List.replicate m v) st
  | 0, i, h => by
    have e1 : ds[i]? = none := List.getElem?_eq_none (by omega)
    rw [lcN]
    unfold nextS
    simp only [ha, hb, e1]
    cases es[i]? <;> rfl
  | m + 1, i, h => by
    have e1 : ds[i]? = some ds[i] := List.getElem?_eq_getElem (by omega)
    have e2 : es[i]? = some es[i] := List.getElem?_eq_getElem (by omega)
    rw [lcN]
    unfold nextS
    simp only [ha, hb, e1, e2, hT i _ _ e1 e2, R.bind_ok]
    rw [lcN_zip ha hb hl hT m (i + 1) (by omega)]
    rfl
theorem runL_zip {a b : Sd} {T : D → Sto → R (Option D)} {v : D} (ha : ∀ i, sdAt a st i = some ds[i]?) (hb : ∀ i, sdAt b st i = some es[i]?) (hl : ds.length = es.length)
    (hT : ∀ (i : Nat) x y, ds[i]? = some x → es[i]? = some y → T (.tup [x, y]) st = .ok (some v) st) : runL (.zip a b) T st = .ok (List.replicate ds.length v) st := by
  have h := lcN_zip ha hb hl hT ds.length 0 (by omega)
  have hf : sdLen a st = ds.length := by
    cases a with
    | fix xs =>
      have : ∀ i : Nat, xs[i]? = ds[i]? := fun i => Option.some.inj (ha i)
      rw [List.ext_getElem? this]
      rfl
    | cel k =>
      have h0 := ha 0
      unfold sdAt at h0
      show celLen st k = _
      unfold celLen
      cases q : st[k]? with
      | none => simp [q] at h0
      | some o =>
        cases o with
        | dct es => simp [q] at h0
        | lck es => simp [q] at h0
        | lst xs =>
          have : ∀ i : Nat, xs[i]? = ds[i]? := fun i => by
            have := ha i
            unfold sdAt at this
            simp only [q] at this
            exact Option.some.inj this
          rw [List.ext_getElem? this]
  show lcN _ T (sdLen a st + 1) 0 st = _
  rw [hf]
  exact h
end
theorem gNotIn_trues {st : Sto} {n : Nat} : gNotIn (.bl false) (.lst (List.replicate n (.bl true))) st = .ok (.bl true) st := by
  have e : toPy st 40 (.lst (List.replicate n (.bl true))) = some (.list (List.replicate n (.bool true))) := by
    rw [toPy_lst]
    have := toPy_bls (st := st) (n := 39) (bs := List.replicate n true)
    rw [List.map_replicate, List.map_replicate] at this
    rw [this]
    rfl
  unfold gNotIn inD
  simp only [toPy_bl, e]
  have : ((List.replicate n (PyData.bool true)).any fun z => PyData.eqv z (.bool false)) = false := by
    rw [List.any_eq_false]
    intro x hx
    rw [(List.mem_replicate.mp hx).2]
    decide
  rw [this]
  rfl
/-! ### exact -/
theorem kIsi_of {st : Sto} {d : D} {t u : Ty} (h : tyOf st d = some t) : kIsi [d, .ty u] st = .ok (.bl (isTy t u)) st := by
  show (match tyOf st d with
    | some a => R.ok (D.bl (isTy a u)) st
    | none => .no) = _
  rw [h]
theorem kIsi_of2 {st : Sto} {d : D} {t u v : Ty} (h : tyOf st d = some t) : kIsi [d, .tup [.ty u, .ty v]] st = .ok (.bl (isTy t u || isTy t v)) st := by
  show (match tyOf st d with
    | some a => R.ok (D.bl (isTy a u || isTy a v)) st
    | none => .no) = _
  rw [h]
section
variable {st : Sto} {n : Nat}
theorem ex_int {i : Int} : F__law_exact (n + 1) [.int i, .int i] st = .ok (.bl true) st := by
  have h : tyOf st (.int i) = some .int := rfl
  unfold F__law_exact fb__law_exact
  simp [kIsi_of h, isTy, gIs, isD, isNone]
theorem ex_bl {b : Bool} : F__law_exact (n + 1) [.bl b, .bl b] st = .ok (.bl true) st := by
  have h : tyOf st (.bl b) = some .bool := rfl
  unfold F__law_exact fb__law_exact
  cases b <;> simp [kIsi_of h, isTy, gIs, isD, isNone]
theorem ex_non : F__law_exact (n + 1) [.non, .non] st = .ok (.bl true) st := by
  have h : tyOf st .non = some .non := rfl
  unfold F__law_exact fb__law_exact
  simp [kIsi_of h, isTy, gIs, isD, isNone]
theorem ex_str {s : List Nat} (hs : okT s) : F__law_exact (n + 1) [.str s, .str s] st = .ok (.bl true) st := by
  have h : tyOf st (.str s) = some .str := rfl
  unfold F__law_exact fb__law_exact
  simp [kIsi_of h, isTy, gIs, isD, isNone, gEq_str hs hs]
theorem ex_lst {t d : D} {ts ds : List D} (ht : isL st t ts) (hd : isL st d ds) (hl : ts.length = ds.length) (hm : ts.length ≤ lim) (hT : ∀ (i : Nat) x y, ts[i]? = some x → ds[i]? = some y → F__law_exact n [x, y] st = .ok (.bl true) st) :
    F__law_exact (n + 1) [t, d] st = .ok (.bl true) st := by
  obtain ⟨a, b, z1, z2, z3⟩ := zipS_L ht hd
  have r := runL_zip (T := turnL (hTup 2 (hCons (hName 2) (hCons (hName 3) hNil))) fYes (fCall 2 (F__law_exact n) (faCons (fVar 2) (faCons (fVar 3) faNil))) [2, 3] [some t, some d, none, none]) (v := .bl true) z2 z3 hl (fun i x y hx hy => by
    simp [ev_turn, hT i x y hx hy])
  have en : endL false (List.replicate ts.length (.bl true)) st = .ok (.lst (List.replicate ts.length (.bl true))) st := by
    unfold endL
    rw [if_pos (by simpa using hm)]
    rfl
  unfold F__law_exact fb__law_exact
  simp [kIsi_of ht.ty, kIsi_of hd.ty, isTy, ht.len, hd.len, hl, z1]
  rw [hl] at r en
  simp [r, en, gNotIn_trues]
end
/-! ### marked -/
theorem marked_str {st : Sto} {n : Nat} {s : List Nat} : F__law_marked (n + 1) [.str s] st = .ok (.bl true) st := by
  have h : tyOf st (.str s) = some .str := rfl
  unfold F__law_marked fb__law_marked
  simp [kIsi_of h, kIsi_of2 h, isTy, gIs, isD, isNone, lim]
end FL

/-! FMe: the laws' common helpers: marked lists, unlike, turnings -/
namespace FL
open PySem PySem.Spec PyProof.Rows L2

theorem runL_cel {st : Sto} {k : Nat} {ds : List D} {T : D → Sto → R (Option D)} {v : D} (h : st[k]? = some (.lst ds)) (hT : ∀ x ∈ ds, T x st = .ok (some v) st) : runL (.cel k) T st = .ok (List.replicate ds.length v) st := by
  have key : ∀ (m i : Nat), i + m = ds.length → lcN (.cel k) T (m + 1) i st = .ok (List.replicate m v) st := by
    intro m
    induction m with
    | zero =>
      intro i hi
      have e1 : ds[i]? = none := List.getElem?_eq_none (by omega)
      rw [lcN]
      unfold nextS
      simp only [h, e1]
      rfl
    | succ m ih =>
      intro i hi
      have e1 : ds[i]? = some ds[i] := List.getElem?_eq_getElem (by omega)
      rw [lcN]
      unfold nextS
      simp only [h, e1, hT _ (List.getElem_mem _), R.bind_ok]
      rw [ih (i + 1) (by omega)]
      rfl
  show lcN _ T (celLen st k + 1) 0 st = _
  have e : celLen st k = ds.length := by unfold celLen; rw [h]
  rw [e]
  exact key ds.length 0 (by omega)
def mk' : List Nat := [109, 97, 114, 107, 101, 100]
theorem marked_cel {st : Sto} {n k : Nat} {ss : List (List Nat)} (h : st[k]? = some (.lst (ss.map D.str))) (ok : ∀ s ∈ ss, okT s) (hn : ∀ s ∈ ss, s ≠ mk') (hl : ss.length < lim) :
    F__law_marked (n + 2) [.cel k] st = .ok (.bl true) (st.set k (.lst (ss.map D.str ++ [.str mk']))) := by
  have L : isL st (.cel k) (ss.map D.str) := .inr ⟨k, rfl, h⟩
  have ne : gNe (.cel k) (.lst []) st = .ok (.bl (decide (ss.map D.str ≠ []))) st := gNe_nil (ps := ss.map fun s => .str (sv s)) (by rw [L.py, toPy_strs ok]; rfl) (by simp)
  have r := runL_cel (T := turnL (hName 2) fYes (fCall 1 (F__law_marked (n + 1)) (faCons (fVar 2) faNil)) [2] [some (.cel k), none, none]) (v := .bl true) h (fun x hx => by
    obtain ⟨s, _, rfl⟩ := List.mem_map.mp hx
    simp [ev_turn, marked_str])
  rw [List.length_map] at r
  have en : endL false (List.replicate ss.length (.bl true)) st = .ok (.lst (List.replicate ss.length (.bl true))) st := by
    unfold endL
    rw [if_pos (by simp; omega)]
    rfl
  have ap : ∀ st, st[k]? = some (.lst (ss.map D.str)) → mAppend (.cel k) [.str [109, 97, 114, 107, 101, 100]] st = .ok .non (st.set k (.lst (ss.map D.str ++ [.str mk']))) := fun st h => by
    unfold mAppend
    simp only [h, List.length_map]
    rw [if_pos hl]
    rfl
  have ty : tyIs .list st (.cel k) = true := by
    unfold tyIs
    simp only [itemsR_cel h]
    rfl
  have last : ss ≠ [] → ∃ s, gIx (.cel k) (.int (-1)) st = .ok (.str s) st ∧ gEq (.str s) (.str [109, 97, 114, 107, 101, 100]) st = .ok (.bl false) st := fun hs => by
    have hm := List.getLast_mem hs
    refine ⟨ss.getLast hs, L.ix (by rw [atI_last, List.getLast?_map, List.getLast?_eq_some_getLast hs]; rfl), ?_⟩
    rw [gEq_str (ok _ hm) (show okT [109, 97, 114, 107, 101, 100] from rfl), decide_eq_false (show ¬ ss.getLast hs = [109, 97, 114, 107, 101, 100] from hn _ hm)]
  have tr : ∀ st, gNotIn (.bl false) (.lst (List.replicate ss.length (.bl true))) st = .ok (.bl true) st := fun st => gNotIn_trues
  unfold F__law_marked fb__law_marked
  generalize hQ : ss.map D.str = Q at *
  generalize hA : Co.lst (Q ++ [D.str mk']) = A at *
  by_cases hs : ss = []
  · have hq : Q = [] := by rw [← hQ, hs]; rfl
    simp only [hq, ne_eq, not_true, decide_false] at ne
    simp [kIsi_of L.ty, isTy, ne, h, r, en, ty, ap st h, tr]
  · obtain ⟨s, l1, l2⟩ := last hs
    have hq : Q ≠ [] := by rw [← hQ]; simpa using hs
    rw [decide_eq_true hq] at ne
    simp [kIsi_of L.ty, isTy, ne, h, r, en, ty, ap st h, tr, l1, l2]

/-! ### unlike -/
def uq : List (List Nat) → List (List Nat) → List (List Nat)
  | acc, [] => acc
  | acc, x :: xs => if x ∈ acc then uq acc xs else uq (acc ++ [x]) xs
theorem any_strs {s : List Nat} : ∀ {ss : List (List Nat)}, ((ss.map fun s => PyData.str (sv s)).any fun z => PyData.eqv z (.str (sv s))) = decide (s ∈ ss)
  | [] => rfl
  | t :: ts => by
    rw [List.map_cons, List.any_cons, eqv_str, any_strs (ss := ts)]
    by_cases a : t = s
    · subst a; simp
    · by_cases b : s ∈ ts <;> simp [a, b, Ne.symm a]
theorem inD_strs {st : Sto} {k : Nat} {s : List Nat} {ss : List (List Nat)} (h : st[k]? = some (.lst (ss.map D.str))) (hs : okT s) (ok : ∀ s ∈ ss, okT s) : gNotIn (.str s) (.cel k) st = .ok (.bl (!decide (s ∈ ss))) st := by
  have e : toPy st 40 (.cel k) = some (.list (ss.map fun s => .str (sv s))) := by rw [toPy_cel h, toPy_strs ok]; rfl
  unfold gNotIn inD
  simp only [toPy_str hs, e]
  have : ((ss.map fun s => PyData.str (sv s)).any fun z => PyData.eqv z (.str (sv s))) = decide (s ∈ ss) := by
    exact any_strs
  rw [this]

theorem uq_len : ∀ (xs acc : List (List Nat)), (uq acc xs).length ≤ acc.length + xs.length
  | [], acc => by simp [uq]
  | x :: xs, acc => by
    unfold uq
    split
    · have := uq_len xs acc; simp; omega
    · have := uq_len xs (acc ++ [x]); simp at this ⊢; omega
theorem set_last {st : Sto} {a b : Co} : (st ++ [a]).set st.length b = st ++ [b] := by
  rw [List.set_append_right _ _ (Nat.le_refl _)]
  simp
theorem unlike_loop {st : Sto} {d : D} : ∀ (xs acc : List (List Nat)) (t : Option D), (∀ s ∈ xs, okT s) → (∀ s ∈ acc, okT s) → acc.length + xs.length ≤ lim →
    ∃ t', loopF (hName 2) (fIf (fTest (fBin gNotIn (fVar 2) (fVar 1))) (fDrop (fBm .list mAppend (fVar 1) (faCons (fVar 2) faNil))) fNext) (xs.map D.str) [some d, some (.cel st.length), t] (st ++ [.lst (acc.map D.str)]) =
      .nx [some d, some (.cel st.length), t'] (st ++ [.lst ((uq acc xs).map D.str)])
  | [], acc, t, _, _, _ => ⟨t, rfl⟩
  | x :: xs, acc, t, h1, h2, hl => by
    have hx := h1 x List.mem_cons_self
    have hxs : ∀ s ∈ xs, okT s := fun s hs => h1 s (List.mem_cons_of_mem _ hs)
    have hg : (st ++ [Co.lst (acc.map D.str)])[st.length]? = some (.lst (acc.map D.str)) := by simp
    have ni : gNotIn (.str x) (.cel st.length) (st ++ [.lst (acc.map D.str)]) = .ok (.bl (!decide (x ∈ acc))) (st ++ [.lst (acc.map D.str)]) := inD_strs hg hx h2
    have ty : tyIs .list (st ++ [.lst (acc.map D.str)]) (.cel st.length) = true := by
      unfold tyIs
      simp only [itemsR_cel hg]
      rfl
    rw [List.length_cons] at hl
    have ap : mAppend (.cel st.length) [.str x] (st ++ [.lst (acc.map D.str)]) = .ok .non (st ++ [.lst ((acc ++ [x]).map D.str)]) := by
      unfold mAppend
      simp only [hg, List.length_map]
      rw [if_pos (by omega), set_last, List.map_append]
      rfl
    rw [List.map_cons, loopF]
    unfold uq
    by_cases hm : x ∈ acc
    · obtain ⟨t', e⟩ := unlike_loop xs acc (some (.str x)) hxs h2 (by omega)
      refine ⟨t', ?_⟩
      rw [if_pos hm, ← e]
      simp [ni, hm]
    · obtain ⟨t', e⟩ := unlike_loop xs (acc ++ [x]) (some (.str x)) hxs (fun s hs => by
        rcases List.mem_append.mp hs with q | q
        · exact h2 s q
        · rw [List.mem_singleton.mp q]; exact hx) (by simp; omega)
      refine ⟨t', ?_⟩
      rw [if_neg hm, ← e]
      generalize hA : (acc ++ [x]).map D.str = A at *
      generalize hB : acc.map D.str = B at *
      simp [ni, hm, ty, ap]
theorem srt_mem {ss : List (List Nat)} {s : List Nat} : s ∈ srt leS ss ↔ s ∈ ss := (srt_perm ss).mem_iff
theorem kSorted_strs {st : Sto} {ss : List (List Nat)} : kSorted [.lst (ss.map D.str)] st = .ok (.lst ((srt leS ss).map D.str)) st := by
  unfold kSorted
  simp only [itemsR, items, strsOf_map]
theorem sp_unlike {st : Sto} {ss : List (List Nat)} (ok : ∀ s ∈ ss, okT s) (hl : ss.length ≤ lim) : F__law_unlike [.lst (ss.map D.str)] st = .ok (.cel st.length) (st ++ [.lst ((uq [] (srt leS ss)).map D.str)]) := by
  obtain ⟨t', e⟩ := unlike_loop (st := st) (d := .lst (ss.map D.str)) (srt leS ss) [] none (fun s hs => ok s (srt_mem.mp hs)) (by simp) (by rw [(srt_perm ss).length_eq]; simpa using hl)
  have ks := kSorted_strs (st := st ++ [.lst []]) (ss := ss)
  unfold F__law_unlike fb__law_unlike
  generalize hQ : ss.map D.str = Q at *
  generalize hS : (srt leS ss).map D.str = S at *
  rw [List.map_nil] at e
  simp [ks, itemsR, items, e, lim]
/-- what is left of a sorted list of texts: each once, in order -/
theorem uq_mem : ∀ (xs acc : List (List Nat)) {s : List Nat}, s ∈ uq acc xs ↔ s ∈ acc ∨ s ∈ xs
  | [], acc, s => by simp [uq]
  | x :: xs, acc, s => by
    unfold uq
    split
    · rename_i h
      rw [uq_mem xs acc]
      constructor
      · rintro (q | q)
        · exact .inl q
        · exact .inr (List.mem_cons_of_mem _ q)
      · rintro (q | q)
        · exact .inl q
        · rcases List.mem_cons.mp q with rfl | q
          · exact .inl h
          · exact .inr q
    · rw [uq_mem xs (acc ++ [x]), List.mem_append, List.mem_singleton, List.mem_cons, or_assoc]
theorem uq_nodup : ∀ (xs acc : List (List Nat)), acc.Nodup → (uq acc xs).Nodup
  | [], acc, h => h
  | x :: xs, acc, h => by
    unfold uq
    split
    · exact uq_nodup xs acc h
    · rename_i hn
      refine uq_nodup xs _ ?_
      rw [List.nodup_append]
      refine ⟨h, by simp, fun a ha b hb e => ?_⟩
      rw [List.mem_singleton.mp hb] at e
      subst e
      exact hn ha
theorem uq_pw {r : List Nat → List Nat → Prop} : ∀ (xs acc : List (List Nat)), (acc ++ xs).Pairwise r → (uq acc xs).Pairwise r
  | [], acc, h => by simpa [uq] using h
  | x :: xs, acc, h => by
    unfold uq
    split
    · refine uq_pw xs acc ?_
      exact h.sublist (List.Sublist.append_left (List.sublist_cons_self x xs) acc)
    · refine uq_pw xs _ ?_
      rw [List.append_assoc]
      exact h
/-- sorted once each: one list -/
theorem uq_srt {ss ts : List (List Nat)} (nd : ts.Nodup) (h : ∀ s, s ∈ ss ↔ s ∈ ts) : uq [] (srt leS ss) = srt leS ts := by
  refine srt_of ordS ?_ (uq_pw _ _ (by simpa using srt_sorted ordS ss))
  refine (List.perm_ext_iff_of_nodup (uq_nodup _ _ List.nodup_nil) nd).mpr fun s => ?_
  rw [uq_mem, srt_mem, h]
  simp
end FL

/-! FMf: what the rings' defs answer at scraps -/
namespace FL
open PySem PySem.Spec PyProof.Rows L2

def AZ : List Nat := [97, 98, 99, 100, 101, 102, 103, 104, 105, 106, 107, 108, 109, 110, 111, 112, 113, 114, 115, 116, 117, 118, 119, 120, 121, 122]
/-- a scrap, not too long -/
structure Sc (s : List Nat) : Prop where
  ne : s ≠ []
  len : s.length ≤ 1000
  az : ∀ c ∈ s, c ∈ AZ
theorem az_ok : ∀ c ∈ AZ, okCp c = true := by decide
theorem ok_az {s : List Nat} (h : ∀ c ∈ s, c ∈ AZ) : okT s := List.all_eq_true.mpr fun c hc => az_ok c (h c hc)
theorem Sc.ok {s : List Nat} (h : Sc s) : okT s := ok_az h.az
theorem Sc.pos {s : List Nat} (h : Sc s) : 0 < s.length := List.length_pos_iff.mpr h.ne
theorem Sc.lim {s : List Nat} (h : Sc s) : s.length ≤ lim := by have := h.len; unfold FL.lim; omega
theorem Sc.rot {s : List Nat} (h : Sc s) (i : Nat) : Sc (rot s i) := ⟨rot_ne h.ne i, by rw [rot_length]; exact h.len, fun c hc => h.az c (rot_mem.mp hc)⟩
section
variable {st : Sto} {s t : List Nat}
theorem sp_is_signs {g : List Nat} (hs : ∀ c ∈ s, c ∈ g) (hl : s.length ≤ lim) : F_is_signs [.str s, .str g] st = .ok (.bl true) st := by
  have ty : tyOf st (.str s) = some .str := rfl
  have r : lcL (turnL (hName 2) (fTest (fBin gNotIn (fVar 2) (fVar 1))) (fVar 2) [2] [some (.str s), some (.str g), none]) (s.map fun c => .str [c]) st = .ok [] st := by
    rw [lcL_map (g := fun _ => none) (fun c hc => ?_)]
    · rw [List.filterMap_eq_nil_iff.mpr fun _ _ => rfl]
    · have e : gNotIn (.str [c]) (.str g) st = .ok (.bl false) st := by
        unfold gNotIn inD
        simp [hs c hc]
      simp [ev_turn, e]
  have en : endL false [] st = .ok (.lst []) st := by unfold endL; simp
  have eq0 : gEq (.lst []) (.lst []) st = .ok (.bl true) st := gEq_nil (ds := []) (ps := []) rfl rfl
  unfold F_is_signs fb_is_signs
  simp [kIsi_of ty, isTy, r, en, eq0, FL.lim]
theorem sp_is_story (h : ∀ c ∈ s, c ∈ AZ) (hl : s.length ≤ lim) : F_is_story [.str s] st = .ok (.bl true) st := by
  have e := sp_is_signs (st := st) (g := AZ) h hl
  unfold AZ at e
  unfold F_is_story fb_is_story
  simp [e]
theorem sp_check_scrap (h : Sc s) : F_check_scrap [.str s] st = .ok .non st := by
  have e := sp_is_story (st := st) h.az h.lim
  have ne : gNe (.str s) (.str []) st = .ok (.bl true) st := by rw [gNe_str h.ok okT_nil, decide_eq_true h.ne]
  have e2 : F_is_scrap [.str s] st = .ok (.bl true) st := by
    unfold F_is_scrap fb_is_scrap
    simp [e, ne]
  unfold F_check_scrap fb_check_scrap
  simp [e2]
theorem sp_check_number {i : Int} (h : 0 ≤ i) : F_check_number [.int i] st = .ok .non st := by
  have ty : tyOf st (.int i) = some .int := rfl
  have e : F_is_whole [.int i] st = .ok (.bl true) st := by
    unfold F_is_whole fb_is_whole
    simp [kIsi_of ty, isTy]
  have e2 : F_is_count [.int i] st = .ok (.bl true) st := by
    unfold F_is_count fb_is_count
    simp [e, h]
  unfold F_check_number fb_check_number
  simp [e2]
theorem sp_turned_by (h : Sc s) {i : Nat} : F_turned_by [.str s, .int (i : Int)] st = .ok (.str (rot s i)) st := by
  have hp := h.pos
  have e1 : gMod (.int (i : Int)) (.int (s.length : Int)) st = .ok (.int ((i % s.length : Nat) : Int)) st := by
    rw [gMod_int (by omega)]
    simp
  have c1 : cut s (some ((i % s.length : Nat) : Int)) none = s.drop (i % s.length) := cut_drop
  have c2 : cut s none (some ((i % s.length : Nat) : Int)) = s.take (i % s.length) := cut_take
  have ad : gAdd (.str (s.drop (i % s.length))) (.str (s.take (i % s.length))) st = .ok (.str (rot s i)) st := gAdd_str (by
    have := rot_length s i
    unfold rot at this
    rw [List.length_append] at this
    rw [this]
    exact h.lim)
  unfold F_turned_by fb_turned_by
  generalize hz : i % s.length = z at *
  simp [kLen_str h.lim, e1, gCut_str h.lim, c1, c2, ad]
theorem rng_nat {n : Nat} : rng 0 (n : Int) = (List.range n).map fun i : Nat => (i : Int) := by unfold rng; simp
theorem rng_1 {n : Nat} : rng 1 ((n : Int) + 1) = ((List.range n).map (· + 1)).map fun i : Nat => (i : Int) := by
  unfold rng
  rw [List.map_map, show ((n : Int) + 1 - 1).toNat = n from by omega]
  refine List.map_congr_left fun i _ => ?_
  show 1 + (i : Int) = ((i + 1 : Nat) : Int)
  omega
theorem okR_nat {n : Nat} (h : n ≤ 1000000) : okR (n : Int) = true := by unfold okR; simp; omega
/-- a range's turns with a test -/
theorem lcL_rng {T : D → Sto → R (Option D)} {c : Nat → Bool} {f : Nat → D} {xs : List Nat} (h : ∀ i ∈ xs, T (.int (i : Int)) st = .ok (if c i = true then some (f i) else none) st) :
    lcL T ((xs.map fun i : Nat => (i : Int)).map D.int) st = .ok ((xs.filter c).map f) st := by
  rw [List.map_map]
  exact (lcL_map (p := D.int ∘ fun i : Nat => (i : Int)) (g := fun i => if c i = true then some (f i) else none) h).trans (by rw [filterMap_if])
theorem lcL_rng1 {T : D → Sto → R (Option D)} {f : Nat → D} {xs : List Nat} (h : ∀ i ∈ xs, T (.int (i : Int)) st = .ok (some (f i)) st) :
    lcL T ((xs.map fun i : Nat => (i : Int)).map D.int) st = .ok (xs.map f) st := by
  rw [List.map_map]
  exact (lcL_map (p := D.int ∘ fun i : Nat => (i : Int)) (g := fun i => some (f i)) h).trans (by rw [filterMap_some'])
theorem endL_ok {ys : List D} (h : ys.length ≤ lim) : endL false ys st = .ok (.lst ys) st := by unfold endL; rw [if_pos h]; rfl
theorem per_head (h : s ≠ []) : (((List.range s.length).map (· + 1)).filter fun i => decide (rot s i = s))[0]? = some (per s) := by
  obtain ⟨h1, h2, h3, h4⟩ := per_spec h
  rw [← List.head?_eq_getElem?, List.head?_filter]
  have e : per s = ((((List.range s.length).map (· + 1)).find? fun i => decide (rot s i = s)).getD 0) := rfl
  cases q : ((List.range s.length).map (· + 1)).find? fun i => decide (rot s i = s) with
  | none => rw [q] at e; simp at e; omega
  | some r => rw [q] at e; rw [e]; rfl
theorem range2_ev {f g : FE} {ρ : En} {i j : Int} (hf : f ρ st = .ok (.int i) st) (hg : g ρ st = .ok (.int j) st) (hi : okR i = true) (hj : okR j = true) : iRange2 f g ρ st = .ok (.fix ((rng i j).map D.int)) st := by
  rw [ev_Range2, hf, R.bind_ok, hg, R.bind_ok]
  show (if okR i = true ∧ okR j = true then _ else _) = _
  rw [if_pos ⟨hi, hj⟩]
theorem sp_root_size (h : Sc s) : F_root_size [.str s] st = .ok (.int (per s : Nat)) st := by
  have hl := h.len
  have r := lcL_rng (st := st) (T := turnL (hName 1) (fTest (fBin gEq (fCall 2 F_turned_by (faCons (fVar 0) (faCons (fVar 1) faNil))) (fVar 0))) (fVar 1) [1] [some (.str s), none]) (c := fun i => decide (rot s i = s)) (f := fun i : Nat => D.int (i : Int)) (xs := (List.range s.length).map (· + 1)) (fun i hi => by
    simp [ev_turn, sp_turned_by h, gEq_str (h.rot i).ok h.ok]
    split <;> rfl)
  have k1 : okR ((s.length : Int) + 1) = true := by
    have := okR_nat (n := s.length + 1) (by omega)
    simpa using this
  have k0 : okR 1 = true := by unfold okR; simp
  have ph := per_head h.ne
  rw [← rng_1] at r
  generalize hP : ((List.range s.length).map (· + 1)).filter (fun i => decide (rot s i = s)) = P at *
  have pl : P.length ≤ lim := by
    rw [← hP]
    have := List.length_filter_le (fun i => decide (rot s i = s)) ((List.range s.length).map (· + 1))
    simp at this
    unfold FL.lim
    omega
  have en := endL_ok (st := st) (ys := P.map fun i : Nat => D.int (i : Int)) (by simpa using pl)
  have ix : gIx (.lst (P.map fun i : Nat => D.int (i : Int))) (.int 0) st = .ok (.int (per s : Nat)) st := gIx_lst (by rw [atI_zero, List.getElem?_map, ph]; rfl)
  have rg : iRange2 (fC (.int 1)) (fBin gAdd (fCB kLen (faCons (fVar 0) faNil)) (fC (.int 1))) [some (.str s), none] st = .ok (.fix ((rng 1 ((s.length : Int) + 1)).map D.int)) st :=
    range2_ev rfl (by simp [kLen_str h.lim]) k0 k1
  unfold F_root_size fb_root_size
  simp [rg, -ev_Range2, r, en, ix]
theorem per_le (h : Sc s) : per s ≤ 1000 := Nat.le_trans (per_spec h.ne).2.1 h.len
/-- the turnings, each once, in order -/
def Ts (s : List Nat) : List (List Nat) := srt leS (turns s)
theorem Ts_mem (h : s ≠ []) {t : List Nat} : t ∈ Ts s ↔ ∃ i, t = rot s i := by unfold Ts; rw [srt_mem, mem_turns h]
theorem Ts_len : (Ts s).length = per s := by unfold Ts turns; rw [(srt_perm _).length_eq]; simp
theorem sp_all_turnings (h : Sc s) : F_all_turnings [.str s] st = .ok (.cel st.length) (st ++ [.lst ((Ts s).map D.str)]) := by
  have r := lcL_rng1 (st := st) (T := turnL (hName 1) fYes (fCall 2 F_turned_by (faCons (fVar 0) (faCons (fVar 1) faNil))) [1] [some (.str s), none]) (f := fun i => .str (rot s i)) (xs := List.range (per s)) (fun i hi => by
    simp [ev_turn, sp_turned_by h])
  rw [← rng_nat] at r
  have e0 : ((List.range (per s)).map fun i => D.str (rot s i)) = (turns s).map D.str := by unfold turns; rw [List.map_map]; rfl
  rw [e0] at r
  have ks : kCell kSorted [.lst ((turns s).map D.str)] st = .ok (.cel st.length) (st ++ [.lst ((Ts s).map D.str)]) := by
    unfold kCell
    rw [kSorted_strs]
    rfl
  have en := endL_ok (st := st) (ys := (turns s).map D.str) (by
    unfold turns FL.lim
    have := per_le h
    simp; omega)
  have ok := okR_nat (n := per s) (by have := per_le h; omega)
  unfold F_all_turnings fb_all_turnings
  generalize (turns s).map D.str = A at *
  generalize (Ts s).map D.str = B at *
  simp [sp_root_size h, ok, r, en, ks]
theorem sp_ring_turnings (h : Sc s) : F_ring_turnings [.str s] st = .ok (.cel st.length) (st ++ [.lst ((Ts s).map D.str)]) := by
  unfold F_ring_turnings fb_ring_turnings
  simp [sp_check_scrap h, sp_all_turnings h]
/-- the least turning -/
def lt' (s : List Nat) : List Nat := (Ts s).headD []
theorem Ts_head (h : s ≠ []) : (Ts s)[0]? = some (lt' s) := by
  have := (per_spec h).1
  have hl := Ts_len (s := s)
  unfold lt'
  cases e : Ts s with
  | nil => rw [e] at hl; simp at hl; omega
  | cons x xs => rfl
theorem sp_least_turning (h : Sc s) : F_least_turning [.str s] st = .ok (.str (lt' s)) (st ++ [.lst ((Ts s).map D.str)]) := by
  have ix : gIx (.cel st.length) (.int 0) (st ++ [.lst ((Ts s).map D.str)]) = .ok (.str (lt' s)) (st ++ [.lst ((Ts s).map D.str)]) :=
    gIx_cel (ds := (Ts s).map D.str) (by simp) (by rw [atI_zero, List.getElem?_map, Ts_head h.ne]; rfl)
  unfold F_least_turning fb_least_turning
  simp only [ev_gen0, ev_gen, ev_start, List.length_cons, List.length_nil, List.map_cons, List.map_nil, ev_Seq, ev_Drop, ev_Call, ev_Cons, ev_Nil, ev_Var, ev_Ret, ev_Bin, ev_C]
  have a := sp_all_turnings (st := st) h
  have b := sp_check_scrap (st := st) h
  generalize (Ts s).map D.str = B at *
  simp [a, b, ix]
theorem sp_root_of (h : Sc s) : F_root_of [.str s] st = .ok (.str (s.take (per s))) st := by
  have c : cut s none (some ((per s : Nat) : Int)) = s.take (per s) := cut_take
  unfold F_root_of fb_root_of
  simp [sp_check_scrap h, sp_root_size h, gCut_str h.lim, c]
theorem sp_ring_turned (h : Sc s) {i : Nat} : F_ring_turned [.str s, .int (i : Int)] st = .ok (.str (rot s i)) st := by
  unfold F_ring_turned fb_ring_turned
  simp [sp_check_scrap h, sp_check_number, sp_turned_by h]
end
end FL

/-! FMg: the law's own turning; turns_to -/
namespace FL
open PySem PySem.Spec PyProof.Rows L2

def chr1 (c : Nat) : D := .str [c]
theorem chr_strs (s : List Nat) : s.map chr1 = (s.map fun c => [c]).map D.str := by rw [List.map_map]; rfl
theorem mJoin_chr {st : Sto} {s : List Nat} (h : s.length ≤ lim) : mJoin (.str []) [.lst (s.map chr1)] st = .ok (.str s) st := by
  have := mJoin_nil (st := st) (ss := s.map fun c => [c]) (by rw [singles_flat]; exact h)
  rw [singles_flat, ← chr_strs] at this
  exact this
theorem range1_ev {f : FE} {ρ : En} {j : Int} {st : Sto} (hf : f ρ st = .ok (.int j) st) (hj : okR j = true) : iRange1 f ρ st = .ok (.fix ((rng 0 j).map D.int)) st := by
  rw [ev_Range1, hf, R.bind_ok]
  show (if okR j = true then _ else _) = _
  rw [if_pos hj]
theorem sp_turning {st : Sto} {s : List Nat} (h : Sc s) {m : Nat} (hm : m ≤ 1000000) : F__law_turning [.str s, .int (m : Int)] st = .ok (.str (rot s m)) st := by
  have hl := h.len
  let I : Nat → En → Sto → Prop := fun i ρ s' => ∃ t : Option D, ρ = [some (.str s), some (.int (m : Int)), some (.lst ((rot s i).map chr1)), t] ∧ s' = st
  have lp := loopF_inv (g := hName 3) (b := fAsg (fBin gAdd (fCut (fVar 2) (foSome (fC (.int 1))) foNone) (fCut (fVar 2) foNone (foSome (fC (.int 1))))) (hName 2)) (p := D.int) I (rng 0 (m : Int)) 0
    [some (.str s), some (.int (m : Int)), some (.lst (s.map chr1)), none] st ⟨none, by rw [rot_zero], rfl⟩ (fun k hk ρ st' hI => by
      obtain ⟨t, rfl, rfl⟩ := hI
      have c1 : cut ((rot s (0 + k)).map chr1) (some 1) none = ((rot s (0 + k)).map chr1).drop 1 := cut_drop (m := 1)
      have c2 : cut ((rot s (0 + k)).map chr1) none (some 1) = ((rot s (0 + k)).map chr1).take 1 := cut_take (m := 1)
      have ad : gAdd (.lst (((rot s (0 + k)).map chr1).drop 1)) (.lst (((rot s (0 + k)).map chr1).take 1)) st' = .ok (.lst ((rot s (0 + k + 1)).map chr1)) st' := by
        rw [gAdd_lst]
        · have e : rot s (0 + k + 1) = (rot s (0 + k)).drop 1 ++ (rot s (0 + k)).take 1 := by rw [← rot_one, rot_rot]
          rw [e, List.map_append, List.map_drop, List.map_take]
        · unfold lim
          rw [List.length_drop, List.length_take, List.length_map, rot_length]
          omega
      refine ⟨[some (.str s), some (.int (m : Int)), some (.lst ((rot s (0 + k + 1)).map chr1)), some (.int ((rng 0 (m : Int))[k]))], st', ?_, _, rfl, rfl⟩
      generalize (rot s (0 + k)).map chr1 = A at *
      generalize (rot s (0 + k + 1)).map chr1 = B at *
      simp [c1, c2, ad, -List.drop_one])
  obtain ⟨ρ', st', e1, t, rfl, rfl⟩ := lp
  have hlen : (rng 0 (m : Int)).length = m := by rw [rng_len]; simp
  rw [hlen] at e1
  have kl : kList [.str s] st' = .ok (.lst (s.map chr1)) st' := kList_str h.lim
  have rg : ∀ x y, iRange1 (fVar 1) [some (.str s), some (.int (m : Int)), x, y] st' = .ok (.fix ((rng 0 (m : Int)).map D.int)) st' := fun x y => range1_ev rfl (okR_nat hm)
  have mj : mJoin (.str []) [.lst ((rot s (0 + m)).map chr1)] st' = .ok (.str (rot s (0 + m))) st' := mJoin_chr (h.rot _).lim
  rw [Nat.zero_add] at mj e1
  have ts : ∀ st x, tyIs .str st (.str x) = true := fun _ _ => rfl
  unfold F__law_turning fb__law_turning
  generalize (rot s m).map chr1 = B at *
  generalize s.map chr1 = A at *
  simp [kl, rg, -ev_Range1, e1, mj, ts]
theorem Ts_of {s : List Nat} (h : Sc s) {ss : List (List Nat)} (hs : ss = (List.range s.length).map (rot s)) : uq [] (srt leS ss) = Ts s := by
  refine uq_srt (turns_nodup h.ne) fun t => ?_
  rw [mem_turns h.ne, hs, List.mem_map]
  constructor
  · rintro ⟨i, _, rfl⟩; exact ⟨i, rfl⟩
  · rintro ⟨i, rfl⟩
    exact ⟨i % s.length, List.mem_range.mpr (Nat.mod_lt _ h.pos), rot_mod s i⟩
theorem sp_turnings {st : Sto} {s : List Nat} (h : Sc s) : F__law_turnings [.str s] st = .ok (.cel st.length) (st ++ [.lst ((Ts s).map D.str)]) := by
  have hl := h.len
  have r := lcL_rng1 (st := st) (T := turnL (hName 1) fYes (fCall 2 F__law_turning (faCons (fVar 0) (faCons (fVar 1) faNil))) [1] [some (.str s), none]) (f := fun i => .str (rot s i)) (xs := List.range s.length) (fun i hi => by
    have := List.mem_range.mp hi
    simp [ev_turn, sp_turning h (m := i) (by omega)])
  rw [← rng_nat] at r
  have e0 : ((List.range s.length).map fun i => D.str (rot s i)) = ((List.range s.length).map (rot s)).map D.str := by rw [List.map_map]; rfl
  rw [e0] at r
  have rg : iRange1 (fCB kLen (faCons (fVar 0) faNil)) [some (.str s), none] st = .ok (.fix ((rng 0 (s.length : Int)).map D.int)) st := range1_ev (by simp [kLen_str h.lim]) (okR_nat (by omega))
  have en := endL_ok (st := st) (ys := ((List.range s.length).map (rot s)).map D.str) (by unfold lim; simp; omega)
  have un := sp_unlike (st := st) (ss := (List.range s.length).map (rot s)) (fun t ht => by
    obtain ⟨i, _, rfl⟩ := List.mem_map.mp ht
    exact (h.rot i).ok) (by unfold lim; simp; omega)
  rw [Ts_of h rfl] at un
  unfold F__law_turnings fb__law_turnings
  generalize ((List.range s.length).map (rot s)).map D.str = A at *
  generalize (Ts s).map D.str = B at *
  simp [rg, -ev_Range1, r, en, un]
/-- by how much one turns to the other -/
def wy (a b : List Nat) : List Nat := (List.range a.length).filter fun i => decide (rot a i = b)
def wyD (a b : List Nat) : D := match ((wy a b)[0]? : Option Nat) with
  | some i => .int (i : Int)
  | none => .non
theorem wy_len {a b : List Nat} : (wy a b).length ≤ a.length := by
  have := List.length_filter_le (fun i => decide (rot a i = b)) (List.range a.length)
  rw [List.length_range] at this
  exact this
theorem gNe_ints {st : Sto} {is : List Nat} : gNe (.lst (is.map fun i : Nat => D.int (i : Int))) (.lst []) st = .ok (.bl (decide (is ≠ []))) st := by
  have e : (is.map fun i : Nat => D.int (i : Int)) = (is.map fun i : Nat => (i : Int)).map D.int := by rw [List.map_map]; rfl
  have := gNe_nil (st := st) (d := .lst (is.map fun i : Nat => D.int (i : Int))) (ds := is.map fun i : Nat => D.int (i : Int)) (ps := (is.map fun i : Nat => (i : Int)).map .int) (by rw [toPy_lst, e, toPy_ints]; rfl) (by simp)
  rw [this]
  congr 3
  simp
theorem sp_turns_to {st : Sto} {a b : List Nat} (h : Sc a) (k : Sc b) : F_turns_to [.str a, .str b] st = .ok (wyD a b) st := by
  have hl := h.len
  have r := lcL_rng (st := st) (T := turnL (hName 3) (fTest (fBin gEq (fCall 2 F_turned_by (faCons (fVar 0) (faCons (fVar 3) faNil))) (fVar 1))) (fVar 3) [3] [some (.str a), some (.str b), none, none]) (c := fun i => decide (rot a i = b)) (f := fun i : Nat => D.int (i : Int)) (xs := List.range a.length) (fun i hi => by
    simp [ev_turn, sp_turned_by h, gEq_str (h.rot i).ok k.ok]
    split <;> rfl)
  rw [← rng_nat] at r
  have rg : iRange1 (fCB kLen (faCons (fVar 0) faNil)) [some (.str a), some (.str b), none, none] st = .ok (.fix ((rng 0 (a.length : Int)).map D.int)) st := range1_ev (by simp [kLen_str h.lim]) (okR_nat (by omega))
  have r : lcL _ _ st = .ok ((wy a b).map fun i : Nat => D.int (i : Int)) st := r
  have en := endL_ok (st := st) (ys := (wy a b).map fun i : Nat => D.int (i : Int)) (by have := wy_len (a := a) (b := b); unfold lim; simp; omega)
  have ne := gNe_ints (st := st) (is := wy a b)
  have nl : (if ([] : List D).length ≤ lim then R.ok (D.lst []) st else R.no) = R.ok (D.lst []) st := by rw [if_pos (by unfold lim; simp)]
  have el : fLst faNil = fun ρ st => .ok (D.lst []) st := by
    funext ρ st
    rw [ev_Lst, ev_Nil, R.bind_ok, if_pos (by unfold lim; simp)]
  unfold F_turns_to fb_turns_to
  by_cases hw : wy a b = []
  · have w : wyD a b = .non := by unfold wyD; rw [hw]; rfl
    rw [decide_eq_false (by simpa using hw)] at ne
    rw [w]
    generalize ((wy a b).map fun i : Nat => D.int (i : Int)) = A at *
    simp [sp_check_scrap h, sp_check_scrap k, rg, -ev_Range1, -ev_Lst, r, en, el, ne]
  · obtain ⟨i, is, hq⟩ : ∃ i is, wy a b = i :: is := List.exists_cons_of_ne_nil hw
    have w : wyD a b = .int (i : Int) := by unfold wyD; rw [hq]; rfl
    have ix : gIx (.lst ((wy a b).map fun i : Nat => D.int (i : Int))) (.int 0) st = .ok (.int (i : Int)) st := gIx_lst (by rw [atI_zero, hq]; rfl)
    rw [decide_eq_true hw] at ne
    rw [w]
    generalize ((wy a b).map fun i : Nat => D.int (i : Int)) = A at *
    simp [sp_check_scrap h, sp_check_scrap k, rg, -ev_Range1, -ev_Lst, r, en, el, ne, ix]
end FL

/-! FVa: plain values behind data: relations between data in a store and values -/
namespace FL
open PySem PySem.Spec PyProof.Rows L2

/-- item by item -/
inductive A2 {α β : Type} (R : α → β → Prop) : List α → List β → Prop
  | nil : A2 R [] []
  | cons {d : α} {x : β} {ds : List α} {xs : List β} : R d x → A2 R ds xs → A2 R (d :: ds) (x :: xs)
section
variable {α β γ : Type} {R S : α → β → Prop}
theorem A2.len : ∀ {ds : List α} {xs : List β}, A2 R ds xs → ds.length = xs.length
  | _, _, .nil => rfl
  | _, _, .cons _ h => by simp [A2.len h]
theorem A2.imp (f : ∀ d x, R d x → S d x) : ∀ {ds : List α} {xs : List β}, A2 R ds xs → A2 S ds xs
  | _, _, .nil => .nil
  | _, _, .cons a h => .cons (f _ _ a) (A2.imp f h)
theorem A2.get : ∀ {ds : List α} {xs : List β} {i : Nat} {x : β}, A2 R ds xs → xs[i]? = some x → ∃ d, ds[i]? = some d ∧ R d x
  | _, _, i, x, .nil, h => by simp at h
  | _, _, 0, x, .cons a h, e => by simp at e; subst e; exact ⟨_, rfl, a⟩
  | _, _, i + 1, x, .cons a h, e => by
    obtain ⟨d, h1, h2⟩ := A2.get (i := i) h (by simpa using e)
    exact ⟨d, by simpa using h1, h2⟩
theorem A2.app : ∀ {ds es : List α} {xs ys : List β}, A2 R ds xs → A2 R es ys → A2 R (ds ++ es) (xs ++ ys)
  | _, _, _, _, .nil, h => h
  | _, _, _, _, .cons a h, k => .cons a (A2.app h k)
theorem A2.take : ∀ {ds : List α} {xs : List β} (n : Nat), A2 R ds xs → A2 R (ds.take n) (xs.take n)
  | _, _, 0, _ => .nil
  | _, _, _ + 1, .nil => .nil
  | _, _, n + 1, .cons a h => .cons a (A2.take n h)
theorem A2.drop : ∀ {ds : List α} {xs : List β} (n : Nat), A2 R ds xs → A2 R (ds.drop n) (xs.drop n)
  | _, _, 0, h => h
  | _, _, _ + 1, .nil => .nil
  | _, _, n + 1, .cons a h => A2.drop n h
theorem A2.set : ∀ {ds : List α} {xs : List β} (i : Nat) {d : α} {x : β}, A2 R ds xs → R d x → A2 R (ds.set i d) (xs.set i x)
  | _, _, _, _, _, .nil, _ => .nil
  | _, _, 0, _, _, .cons a h, k => .cons k h
  | _, _, i + 1, _, _, .cons a h, k => .cons a (A2.set i h k)
theorem A2.erase : ∀ {ds : List α} {xs : List β} (i : Nat), A2 R ds xs → A2 R (ds.eraseIdx i) (xs.eraseIdx i)
  | _, _, _, .nil => .nil
  | _, _, 0, .cons a h => h
  | _, _, i + 1, .cons a h => .cons a (A2.erase i h)
theorem A2.rev {ds : List α} {xs : List β} (h : A2 R ds xs) : A2 R ds.reverse xs.reverse := by
  induction h with
  | nil => exact .nil
  | cons a h ih => rw [List.reverse_cons, List.reverse_cons]; exact ih.app (.cons a .nil)
theorem A2.rep {ds : List α} {xs : List β} (h : A2 R ds xs) : ∀ n : Nat, A2 R (List.replicate n ds).flatten (List.replicate n xs).flatten
  | 0 => .nil
  | n + 1 => by
    rw [List.replicate_succ, List.replicate_succ, List.flatten_cons, List.flatten_cons]
    exact h.app (A2.rep h n)
theorem A2.flat {dss : List (List α)} {xss : List (List β)} (h : A2 (A2 R) dss xss) : A2 R dss.flatten xss.flatten := by
  induction h with
  | nil => exact .nil
  | cons a h ih => rw [List.flatten_cons, List.flatten_cons]; exact a.app ih
theorem A2.map {p : γ → α} {q : γ → β} : ∀ {xs : List γ}, (∀ x ∈ xs, R (p x) (q x)) → A2 R (xs.map p) (xs.map q)
  | [], _ => .nil
  | x :: xs, h => .cons (h x List.mem_cons_self) (A2.map fun y hy => h y (List.mem_cons_of_mem _ hy))
theorem A2.map_l {p : β → α} {xs : List β} (h : ∀ x ∈ xs, R (p x) x) : A2 R (xs.map p) xs := by
  have := A2.map (p := p) (q := id) (R := R) h
  simpa using this
theorem A2.eq_map {p : β → α} (f : ∀ d x, R d x → d = p x) : ∀ {ds : List α} {xs : List β}, A2 R ds xs → ds = xs.map p
  | _, _, .nil => rfl
  | _, _, .cons a h => by rw [f _ _ a, A2.eq_map f h, List.map_cons]
theorem A2.mem : ∀ {ds : List α} {xs : List β}, A2 R ds xs → ∀ d ∈ ds, ∃ x ∈ xs, R d x
  | _, _, .nil, d, h => by cases h
  | _, _, .cons a h, d, hd => by
    rcases List.mem_cons.mp hd with rfl | hd
    · exact ⟨_, List.mem_cons_self, a⟩
    · obtain ⟨x, h1, h2⟩ := A2.mem h d hd
      exact ⟨x, List.mem_cons_of_mem _ h1, h2⟩
theorem A2.memr : ∀ {ds : List α} {xs : List β}, A2 R ds xs → ∀ x ∈ xs, ∃ d ∈ ds, R d x
  | _, _, .nil, d, h => by cases h
  | _, _, .cons a h, d, hd => by
    rcases List.mem_cons.mp hd with rfl | hd
    · exact ⟨_, List.mem_cons_self, a⟩
    · obtain ⟨x, h1, h2⟩ := A2.memr h d hd
      exact ⟨x, List.mem_cons_of_mem _ h1, h2⟩
end

/-- a step of the store: cells in motion may change and be others later, new ones come behind -/
def Xt (M : List Nat) (st : Sto) (M' : List Nat) (st' : Sto) : Prop := st.length ≤ st'.length ∧ ∀ i, i < st.length → i ∉ M → st'[i]? = st[i]? ∧ i ∉ M'
theorem Xt.refl {M : List Nat} {st : Sto} : Xt M st M st := ⟨Nat.le_refl _, fun _ _ h => ⟨rfl, h⟩⟩
theorem Xt.trans {M M' M'' : List Nat} {a b c : Sto} (h : Xt M a M' b) (k : Xt M' b M'' c) : Xt M a M'' c := ⟨Nat.le_trans h.1 k.1, fun i hi hm => by
  obtain ⟨e1, h1⟩ := h.2 i hi hm
  obtain ⟨e2, h2⟩ := k.2 i (Nat.lt_of_lt_of_le hi h.1) h1
  exact ⟨e2.trans e1, h2⟩⟩
theorem Xt.pre {M : List Nat} {st st' : Sto} (h : st <+: st') : Xt M st M st' := by
  obtain ⟨t, rfl⟩ := h
  exact ⟨by simp, fun i hi hm => ⟨List.getElem?_append_left hi, hm⟩⟩
theorem Xt.sub {M M' : List Nat} {st : Sto} (h : ∀ i, i ∈ M' → i < st.length → i ∈ M) : Xt M st M' st := ⟨Nat.le_refl _, fun i hi hm => ⟨rfl, fun q => hm (h i q hi)⟩⟩

structure Rel (τ : Type) where
  at_ : List Nat → Sto → D → τ → Prop
  ext : ∀ {M M' : List Nat} {st st' : Sto} {d : D} {v : τ}, Xt M st M' st' → at_ M st d v → at_ M' st' d v
/-- it asks the store nothing -/
class Free {τ : Type} (r : Rel τ) : Prop where
  free : ∀ {M M' : List Nat} {st st' : Sto} {d : D} {v : τ}, r.at_ M st d v → r.at_ M' st' d v

@[irreducible] def rI : Rel Int := ⟨fun _ _ d v => d = .int v, fun _ h => h⟩
@[irreducible] def rN : Rel Nat := ⟨fun _ _ d v => d = .int (v : Int), fun _ h => h⟩
@[irreducible] def rB : Rel Bool := ⟨fun _ _ d v => d = .bl v, fun _ h => h⟩
@[irreducible] def rU : Rel Unit := ⟨fun _ _ d _ => d = .non, fun _ h => h⟩
@[irreducible] def rS : Rel (List Nat) := ⟨fun _ _ d v => d = .str v ∧ okT v ∧ v.length ≤ lim, fun _ h => h⟩
/-- a value that is no cell: as it is -/
@[irreducible] def rX : Rel D := ⟨fun _ _ d v => d = v, fun _ h => h⟩
def ItAt (M : List Nat) (st : Sto) (d : D) (ds : List D) : Prop := d = .lst ds ∨ ∃ k, d = .cel k ∧ k ∉ M ∧ st[k]? = some (.lst ds)
theorem ItAt.ext {M M' : List Nat} {st st' : Sto} {d : D} {ds : List D} (e : Xt M st M' st') (h : ItAt M st d ds) : ItAt M' st' d ds := by
  rcases h with h | ⟨k, h1, h2, h3⟩
  · exact .inl h
  · have hk := (List.getElem?_eq_some_iff.mp h3).1
    obtain ⟨e1, e2⟩ := e.2 k hk h2
    exact .inr ⟨k, h1, e2, e1.trans h3⟩
@[irreducible] def rL {τ : Type} (r : Rel τ) : Rel (List τ) := ⟨fun M st d v => ∃ ds, ItAt M st d ds ∧ v.length ≤ lim ∧ A2 (r.at_ M st) ds v, fun e h => by
  obtain ⟨ds, h1, h2, h3⟩ := h
  exact ⟨ds, h1.ext e, h2, h3.imp fun d x => r.ext e⟩⟩
@[irreducible] def rP {α β : Type} (r : Rel α) (s : Rel β) : Rel (α × β) := ⟨fun M st d v => ∃ a b, d = .tup [a, b] ∧ r.at_ M st a v.1 ∧ s.at_ M st b v.2, fun e h => by
  obtain ⟨a, b, h1, h2, h3⟩ := h
  exact ⟨a, b, h1, r.ext e h2, s.ext e h3⟩⟩
@[irreducible] def rT {α β γ : Type} (r : Rel α) (s : Rel β) (t : Rel γ) : Rel (α × β × γ) := ⟨fun M st d v => ∃ a b c, d = .tup [a, b, c] ∧ r.at_ M st a v.1 ∧ s.at_ M st b v.2.1 ∧ t.at_ M st c v.2.2, fun e h => by
  obtain ⟨a, b, c, h1, h2, h3, h4⟩ := h
  exact ⟨a, b, c, h1, r.ext e h2, s.ext e h3, t.ext e h4⟩⟩
/-- a tuple of any size, all of one kind -/
@[irreducible] def rTL {τ : Type} (r : Rel τ) : Rel (List τ) := ⟨fun M st d v => ∃ ds, d = .tup ds ∧ v.length ≤ lim ∧ A2 (r.at_ M st) ds v, fun e h => by
  obtain ⟨ds, h1, h2, h3⟩ := h
  exact ⟨ds, h1, h2, h3.imp fun d x => r.ext e⟩⟩
@[irreducible] def rO {τ : Type} (r : Rel τ) : Rel (Option τ) := ⟨fun M st d v => match v with
  | none => d = .non
  | some x => d ≠ .non ∧ r.at_ M st d x, fun {M M' st st' d v} e h => by
  cases v with
  | none => exact h
  | some x => exact ⟨h.1, r.ext e h.2⟩⟩
/-- what a dict holds -/
def EnAt {α β : Type} (r : Rel α) (s : Rel β) (M : List Nat) (st : Sto) (e : D × D) (v : α × β) : Prop := r.at_ M st e.1 v.1 ∧ s.at_ M st e.2 v.2
def DcAt (M : List Nat) (st : Sto) (d : D) (es : List (D × D)) : Prop := d = .dct es ∨ ∃ k, d = .cel k ∧ k ∉ M ∧ st[k]? = some (.dct es)
theorem DcAt.ext {M M' : List Nat} {st st' : Sto} {d : D} {es : List (D × D)} (e : Xt M st M' st') (h : DcAt M st d es) : DcAt M' st' d es := by
  rcases h with h | ⟨k, h1, h2, h3⟩
  · exact .inl h
  · have hk := (List.getElem?_eq_some_iff.mp h3).1
    obtain ⟨e1, e2⟩ := e.2 k hk h2
    exact .inr ⟨k, h1, e2, e1.trans h3⟩
@[irreducible] def rD {α β : Type} (r : Rel α) (s : Rel β) : Rel (List (α × β)) := ⟨fun M st d v => ∃ es, DcAt M st d es ∧ v.length ≤ lim ∧ A2 (EnAt r s M st) es v, fun e h => by
  obtain ⟨es, h1, h2, h3⟩ := h
  exact ⟨es, h1.ext e, h2, h3.imp fun d x h => ⟨r.ext e h.1, s.ext e h.2⟩⟩⟩
section
variable {M M' : List Nat} {st st' : Sto} {d : D} {α β γ τ : Type}
theorem rI_at {v : Int} : rI.at_ M st d v ↔ d = .int v := by unfold rI; exact Iff.rfl
theorem rN_at {v : Nat} : rN.at_ M st d v ↔ d = .int (v : Int) := by unfold rN; exact Iff.rfl
theorem rB_at {v : Bool} : rB.at_ M st d v ↔ d = .bl v := by unfold rB; exact Iff.rfl
theorem rU_at {v : Unit} : rU.at_ M st d v ↔ d = .non := by unfold rU; exact Iff.rfl
theorem rS_at {v : List Nat} : rS.at_ M st d v ↔ d = .str v ∧ okT v ∧ v.length ≤ lim := by unfold rS; exact Iff.rfl
theorem rX_at {v : D} : rX.at_ M st d v ↔ d = v := by unfold rX; exact Iff.rfl
theorem rL_at {r : Rel τ} {v : List τ} : (rL r).at_ M st d v ↔ ∃ ds, ItAt M st d ds ∧ v.length ≤ lim ∧ A2 (r.at_ M st) ds v := by unfold rL; exact Iff.rfl
theorem rP_at {r : Rel α} {s : Rel β} {v : α × β} : (rP r s).at_ M st d v ↔ ∃ a b, d = .tup [a, b] ∧ r.at_ M st a v.1 ∧ s.at_ M st b v.2 := by unfold rP; exact Iff.rfl
theorem rT_at {r : Rel α} {s : Rel β} {t : Rel γ} {v : α × β × γ} : (rT r s t).at_ M st d v ↔ ∃ a b c, d = .tup [a, b, c] ∧ r.at_ M st a v.1 ∧ s.at_ M st b v.2.1 ∧ t.at_ M st c v.2.2 := by unfold rT; exact Iff.rfl
theorem rTL_at {r : Rel τ} {v : List τ} : (rTL r).at_ M st d v ↔ ∃ ds, d = .tup ds ∧ v.length ≤ lim ∧ A2 (r.at_ M st) ds v := by unfold rTL; exact Iff.rfl
theorem rO_none {r : Rel τ} : (rO r).at_ M st d none ↔ d = .non := by unfold rO; exact Iff.rfl
theorem rO_some {r : Rel τ} {x : τ} : (rO r).at_ M st d (some x) ↔ d ≠ .non ∧ r.at_ M st d x := by unfold rO; exact Iff.rfl
theorem rD_at {r : Rel α} {s : Rel β} {v : List (α × β)} : (rD r s).at_ M st d v ↔ ∃ es, DcAt M st d es ∧ v.length ≤ lim ∧ A2 (EnAt r s M st) es v := by unfold rD; exact Iff.rfl
theorem Rel.pre {r : Rel τ} {v : τ} (h : st <+: st') (k : r.at_ M st d v) : r.at_ M st' d v := r.ext (.pre h) k
theorem Rel.sub {r : Rel τ} {v : τ} (h : ∀ i, i ∈ M' → i < st.length → i ∈ M) (k : r.at_ M st d v) : r.at_ M' st d v := r.ext (.sub h) k
instance : Free rI := ⟨fun h => rI_at.mpr (rI_at.mp h)⟩
instance : Free rN := ⟨fun h => rN_at.mpr (rN_at.mp h)⟩
instance : Free rB := ⟨fun h => rB_at.mpr (rB_at.mp h)⟩
instance : Free rU := ⟨fun h => rU_at.mpr (rU_at.mp h)⟩
instance : Free rS := ⟨fun h => rS_at.mpr (rS_at.mp h)⟩
instance : Free rX := ⟨fun h => rX_at.mpr (rX_at.mp h)⟩
instance {r : Rel α} {s : Rel β} [Free r] [Free s] : Free (rP r s) := ⟨fun h => by
  obtain ⟨a, b, h1, h2, h3⟩ := rP_at.mp h
  exact rP_at.mpr ⟨a, b, h1, Free.free h2, Free.free h3⟩⟩
instance {r : Rel α} {s : Rel β} {t : Rel γ} [Free r] [Free s] [Free t] : Free (rT r s t) := ⟨fun h => by
  obtain ⟨a, b, c, h1, h2, h3, h4⟩ := rT_at.mp h
  exact rT_at.mpr ⟨a, b, c, h1, Free.free h2, Free.free h3, Free.free h4⟩⟩
instance {r : Rel τ} [Free r] : Free (rO r) := ⟨fun {_ _ _ _ _ v} h => by
  cases v with
  | none => exact rO_none.mpr (rO_none.mp h)
  | some x => exact rO_some.mpr ⟨(rO_some.mp h).1, Free.free (rO_some.mp h).2⟩⟩
theorem ItAt.items {ds : List D} (h : ItAt M st d ds) : items st d = some ds := by
  rcases h with rfl | ⟨k, rfl, _, h3⟩
  · rfl
  · exact items_cel h3
theorem ItAt.itemsR {ds : List D} (h : ItAt M st d ds) : itemsR st d = some ds := by
  rcases h with rfl | ⟨k, rfl, _, h3⟩
  · rfl
  · exact itemsR_cel h3
theorem ItAt.itemsS {ds : List D} (h : ItAt M st d ds) : itemsS st d = some ds := by
  rcases h with rfl | ⟨k, rfl, _, h3⟩
  · rfl
  · exact itemsS_cel h3
theorem ItAt.lst (ds : List D) : ItAt M st (.lst ds) ds := .inl rfl
/-! ### equality -/
class RelPy {τ : Type} (r : Rel τ) where
  py : τ → PyData
  dep : Nat
  to : ∀ {M : List Nat} {st : Sto} {d : D} {v : τ} {n : Nat}, r.at_ M st d v → toPy st (n + dep) d = some (py v)
  inj : ∀ a b, PyData.eqv (py a) (py b) = true ↔ a = b
instance : RelPy rI where
  py := .int
  dep := 0
  to h := by rw [rI_at.mp h]; exact toPy_int
  inj a b := by show (a == b) = true ↔ _; simp
instance : RelPy rN where
  py v := .int (v : Int)
  dep := 0
  to h := by rw [rN_at.mp h]; exact toPy_int
  inj a b := by show ((a : Int) == (b : Int)) = true ↔ _; simp; omega
instance : RelPy rB where
  py := .bool
  dep := 0
  to h := by rw [rB_at.mp h]; exact toPy_bl
  inj a b := by show (a == b) = true ↔ _; simp
instance : RelPy rU where
  py _ := .none
  dep := 0
  to h := by rw [rU_at.mp h]; exact toPy_non
  inj a b := by exact ⟨fun _ => rfl, fun _ => rfl⟩
instance : RelPy rS where
  py v := .str (sv v)
  dep := 0
  to h := by
    obtain ⟨rfl, h1, _⟩ := rS_at.mp h
    exact toPy_str h1
  inj a b := by rw [eqv_str]; simp
theorem mapM_A2 {f : D → Option PyData} {R : D → τ → Prop} {g : τ → PyData} (h : ∀ d x, R d x → f d = some (g x)) : ∀ {ds : List D} {xs : List τ}, A2 R ds xs → ds.mapM f = some (xs.map g)
  | _, _, .nil => by simp
  | _, _, .cons a k => by
    rw [List.mapM_cons, h _ _ a, mapM_A2 h k]
    rfl
theorem eqvAll_map {g : τ → PyData} (h : ∀ a b, PyData.eqv (g a) (g b) = true ↔ a = b) : ∀ {xs ys : List τ}, PyData.eqvAll (xs.map g) (ys.map g) = true ↔ xs = ys
  | [], [] => ⟨fun _ => rfl, fun _ => rfl⟩
  | [], _ :: _ => Iff.intro (fun h => by simp [PyData.eqvAll] at h) (fun h => by simp at h)
  | _ :: _, [] => Iff.intro (fun h => by simp [PyData.eqvAll] at h) (fun h => by simp at h)
  | x :: xs, y :: ys => by
    show (PyData.eqv (g x) (g y) && PyData.eqvAll (xs.map g) (ys.map g)) = true ↔ _
    rw [Bool.and_eq_true, h, eqvAll_map h (xs := xs) (ys := ys)]
    simp
instance {r : Rel τ} [RelPy r] : RelPy (rL r) where
  py v := .list (v.map (RelPy.py r))
  dep := RelPy.dep r + 1
  to {M st d v n} h := by
    obtain ⟨ds, h1, h2, h3⟩ := rL_at.mp h
    have e : ds.mapM (toPy st (n + RelPy.dep r)) = some (v.map (RelPy.py r)) := mapM_A2 (fun d x q => RelPy.to q) h3
    rcases h1 with rfl | ⟨k, rfl, _, hk⟩
    · rw [← Nat.add_assoc, toPy_lst, e]; rfl
    · rw [← Nat.add_assoc, toPy_cel hk, e]; rfl
  inj a b := eqvAll_map RelPy.inj
instance {r : Rel τ} [RelPy r] : RelPy (rTL r) where
  py v := .tuple (v.map (RelPy.py r))
  dep := RelPy.dep r + 1
  to {M st d v n} h := by
    obtain ⟨ds, rfl, h2, h3⟩ := rTL_at.mp h
    have e : ds.mapM (toPy st (n + RelPy.dep r)) = some (v.map (RelPy.py r)) := mapM_A2 (fun d x q => RelPy.to q) h3
    rw [← Nat.add_assoc, toPy_tup, e]; rfl
  inj a b := eqvAll_map RelPy.inj
instance {r : Rel α} {s : Rel β} [RelPy r] [RelPy s] : RelPy (rP r s) where
  py v := .tuple [RelPy.py r v.1, RelPy.py s v.2]
  dep := max (RelPy.dep r) (RelPy.dep s) + 1
  to {M st d v n} h := by
    obtain ⟨a, b, rfl, h2, h3⟩ := rP_at.mp h
    have e1 : toPy st (n + max (RelPy.dep r) (RelPy.dep s)) a = some (RelPy.py r v.1) := by
      have := RelPy.to (n := n + max (RelPy.dep r) (RelPy.dep s) - RelPy.dep r) h2
      rwa [show n + max (RelPy.dep r) (RelPy.dep s) - RelPy.dep r + RelPy.dep r = n + max (RelPy.dep r) (RelPy.dep s) from by omega] at this
    have e2 : toPy st (n + max (RelPy.dep r) (RelPy.dep s)) b = some (RelPy.py s v.2) := by
      have := RelPy.to (n := n + max (RelPy.dep r) (RelPy.dep s) - RelPy.dep s) h3
      rwa [show n + max (RelPy.dep r) (RelPy.dep s) - RelPy.dep s + RelPy.dep s = n + max (RelPy.dep r) (RelPy.dep s) from by omega] at this
    rw [← Nat.add_assoc, toPy_tup, List.mapM_cons, e1, List.mapM_cons, e2]; rfl
  inj a b := by
    show (PyData.eqv _ _ && (PyData.eqv _ _ && true)) = true ↔ _
    rw [Bool.and_true, Bool.and_eq_true, RelPy.inj, RelPy.inj, Prod.ext_iff]
instance {r : Rel α} {s : Rel β} {t : Rel γ} [RelPy r] [RelPy s] [RelPy t] : RelPy (rT r s t) where
  py v := .tuple [RelPy.py r v.1, RelPy.py s v.2.1, RelPy.py t v.2.2]
  dep := max (RelPy.dep r) (max (RelPy.dep s) (RelPy.dep t)) + 1
  to {M st d v n} h := by
    obtain ⟨a, b, c, rfl, h2, h3, h4⟩ := rT_at.mp h
    generalize hm : max (RelPy.dep r) (max (RelPy.dep s) (RelPy.dep t)) = m
    have e1 : toPy st (n + m) a = some (RelPy.py r v.1) := by
      have := RelPy.to (n := n + m - RelPy.dep r) h2
      rwa [show n + m - RelPy.dep r + RelPy.dep r = n + m from by omega] at this
    have e2 : toPy st (n + m) b = some (RelPy.py s v.2.1) := by
      have := RelPy.to (n := n + m - RelPy.dep s) h3
      rwa [show n + m - RelPy.dep s + RelPy.dep s = n + m from by omega] at this
    have e3 : toPy st (n + m) c = some (RelPy.py t v.2.2) := by
      have := RelPy.to (n := n + m - RelPy.dep t) h4
      rwa [show n + m - RelPy.dep t + RelPy.dep t = n + m from by omega] at this
    rw [← Nat.add_assoc, toPy_tup, List.mapM_cons, e1, List.mapM_cons, e2, List.mapM_cons, e3]; rfl
  inj a b := by
    show (PyData.eqv _ _ && (PyData.eqv _ _ && (PyData.eqv _ _ && true))) = true ↔ _
    rw [Bool.and_true, Bool.and_eq_true, Bool.and_eq_true, RelPy.inj, RelPy.inj, RelPy.inj, Prod.ext_iff, Prod.ext_iff]
end
end FL

/-! FVb: contexts of plain values; expressions that leave what is there -/
namespace FL
open PySem PySem.Spec PyProof.Rows L2

structure Ent : Type 1 where
  {τ : Type}
  r : Rel τ
  v : τ
abbrev Cn := List (Option Ent)
def look : Cn → Nat → Option Ent
  | [], _ => none
  | e :: _, 0 => e
  | _ :: Γ, i + 1 => look Γ i
theorem look_set : ∀ {Γ : Cn} {i j : Nat} {o : Option Ent} {e : Ent}, look (Γ.set i o) j = some e → (i = j ∧ o = some e ∧ i < Γ.length) ∨ (i ≠ j ∧ look Γ j = some e)
  | [], _, _, _, _, h => by cases h
  | x :: Γ, 0, 0, o, e, h => .inl ⟨rfl, h, by simp⟩
  | x :: Γ, 0, j + 1, o, e, h => .inr ⟨by omega, h⟩
  | x :: Γ, i + 1, 0, o, e, h => .inr ⟨by omega, h⟩
  | x :: Γ, i + 1, j + 1, o, e, h => by
    rcases look_set (Γ := Γ) (i := i) (j := j) (o := o) (e := e) h with ⟨h1, h2, h3⟩ | ⟨h1, h2⟩
    · exact .inl ⟨by omega, h2, by simp; omega⟩
    · exact .inr ⟨by omega, h2⟩
theorem look_lt : ∀ {Γ : Cn} {i : Nat} {e : Ent}, look Γ i = some e → i < Γ.length
  | [], _, _, h => by cases h
  | x :: Γ, 0, e, h => by simp
  | x :: Γ, i + 1, e, h => by have := look_lt (Γ := Γ) (i := i) h; simp; omega
structure Sat (M : List Nat) (Γ : Cn) (ρ : En) (st : Sto) : Prop where
  len : ρ.length = Γ.length
  mot : ∀ m ∈ M, m < st.length
  at_ : ∀ i e, look Γ i = some e → ∃ d, ρ[i]? = some (some d) ∧ e.r.at_ M st d e.v
section
variable {M : List Nat} {Γ : Cn} {ρ : En} {st st' : Sto} {τ α β γ δ : Type} {r : Rel τ} {v : τ} {d : D} {i : Nat}
theorem Sat.pre (h : Sat M Γ ρ st) (p : st <+: st') : Sat M Γ ρ st' := ⟨h.len, fun m hm => Nat.lt_of_lt_of_le (h.mot m hm) p.length_le, fun i e q => by
  obtain ⟨d, h1, h2⟩ := h.at_ i e q
  exact ⟨d, h1, e.r.pre p h2⟩⟩
theorem Sat.set (h : Sat M Γ ρ st) (a : r.at_ M st d v) : Sat M (Γ.set i (some ⟨r, v⟩)) (ρ.set i (some d)) st := ⟨by simp [h.len], h.mot, fun j e q => by
  rcases look_set q with ⟨rfl, h2, h3⟩ | ⟨h1, h2⟩
  · cases h2
    exact ⟨d, by rw [List.getElem?_set_self (by rw [h.len]; exact h3)], a⟩
  · obtain ⟨d', k1, k2⟩ := h.at_ j e h2
    exact ⟨d', by rw [List.getElem?_set_ne h1]; exact k1, k2⟩⟩
theorem Sat.unset (h : Sat M Γ ρ st) {o : Option D} : Sat M (Γ.set i none) (ρ.set i o) st := ⟨by simp [h.len], h.mot, fun j e q => by
  rcases look_set q with ⟨rfl, h2, h3⟩ | ⟨h1, h2⟩
  · cases h2
  · obtain ⟨d', k1, k2⟩ := h.at_ j e h2
    exact ⟨d', by rw [List.getElem?_set_ne h1]; exact k1, k2⟩⟩
def wipeC (Γ : Cn) : List Nat → Cn
  | [] => Γ
  | i :: is => (wipeC Γ is).set i none
theorem Sat.wipe (h : Sat M Γ ρ st) : ∀ is : List Nat, Sat M (wipeC Γ is) (wipeE ρ is) st
  | [] => h
  | i :: is => (h.wipe is).unset
/-- what a context asks less than another -/
def Sub (Γ Γ' : Cn) : Prop := Γ.length = Γ'.length ∧ ∀ i e, look Γ i = some e → look Γ' i = some e
theorem Sub.refl : Sub Γ Γ := ⟨rfl, fun _ _ h => h⟩
theorem Sub.nil : Sub [] [] := .refl
theorem Sub.keep {Γ Γ' : Cn} {o : Option Ent} (h : Sub Γ Γ') : Sub (o :: Γ) (o :: Γ') := ⟨by simp [h.1], fun i e q => by
  cases i with
  | zero => exact q
  | succ i => exact h.2 i e q⟩
theorem Sub.same {Γ Γ' : Cn} {r : Rel τ} {v v' : τ} (h : Sub Γ Γ') (e : v = v') : Sub (some ⟨r, v⟩ :: Γ) (some ⟨r, v'⟩ :: Γ') := e ▸ h.keep
theorem Sub.drop {Γ Γ' : Cn} {o : Option Ent} (h : Sub Γ Γ') : Sub (none :: Γ) (o :: Γ') := ⟨by simp [h.1], fun i e q => by
  cases i with
  | zero => cases q
  | succ i => exact h.2 i e q⟩
theorem Sat.sub {Γ Γ' : Cn} (h : Sat M Γ' ρ st) (s : Sub Γ Γ') : Sat M Γ ρ st := ⟨h.len.trans s.1.symm, h.mot, fun i e q => h.at_ i e (s.2 i e q)⟩

def Ex {τ : Type} (Γ : Cn) (f : FE) (r : Rel τ) (v : τ) : Prop := ∀ M ρ st, Sat M Γ ρ st → ∃ d st', f ρ st = .ok d st' ∧ st <+: st' ∧ r.at_ M st' d v
def ExT (Γ : Cn) (t : FT) (b : Bool) : Prop := ∀ M ρ st, Sat M Γ ρ st → ∃ st', t ρ st = .ok b st' ∧ st <+: st'
inductive SL (M : List Nat) (st : Sto) : List D → List Ent → Prop
  | nil : SL M st [] []
  | cons {d : D} {ds : List D} {e : Ent} {es : List Ent} : e.r.at_ M st d e.v → SL M st ds es → SL M st (d :: ds) (e :: es)
theorem SL.ext {M' : List Nat} (x : Xt M st M' st') : ∀ {ds : List D} {es : List Ent}, SL M st ds es → SL M' st' ds es
  | _, _, .nil => .nil
  | _, _, .cons (e := e) a h => .cons (e.r.ext x a) (SL.ext x h)
theorem SL.len : ∀ {ds : List D} {es : List Ent}, SL M st ds es → ds.length = es.length
  | _, _, .nil => rfl
  | _, _, .cons a h => by simp [SL.len h]
theorem SL.get : ∀ {ds : List D} {es : List Ent} {i : Nat} {e : Ent}, SL M st ds es → es[i]? = some e → ∃ d, ds[i]? = some d ∧ e.r.at_ M st d e.v
  | _, _, i, x, .nil, h => by simp at h
  | _, _, 0, x, .cons a h, e => by simp at e; subst e; exact ⟨_, rfl, a⟩
  | _, _, i + 1, x, .cons a h, e => by
    obtain ⟨d, h1, h2⟩ := SL.get (i := i) h (by simpa using e)
    exact ⟨d, by simpa using h1, h2⟩
def ExA (Γ : Cn) (fa : FA) (es : List Ent) : Prop := ∀ M ρ st, Sat M Γ ρ st → ∃ ds st', fa ρ st = .ok ds st' ∧ st <+: st' ∧ SL M st' ds es
def ExO (Γ : Cn) (fo : FO) (o : Option Int) : Prop := ∀ M ρ st, Sat M Γ ρ st → ∃ st', fo ρ st = .ok o st' ∧ st <+: st'
/-- a source tells these values, now and later -/
def SrcAt {τ : Type} (M : List Nat) (st : Sto) (s : Src) (r : Rel τ) (xs : List τ) : Prop := xs.length ≤ lim ∧ ∀ M' st', Xt M st M' st' → xs.length ≤ srcLen s st' ∧ ∀ i, match xs[i]? with
  | some x => ∃ d, nextS s st' i = some (some d) ∧ r.at_ M' st' d x
  | none => nextS s st' i = some none
def ExI {τ : Type} (Γ : Cn) (src : FI) (r : Rel τ) (xs : List τ) : Prop := ∀ M ρ st, Sat M Γ ρ st → ∃ s st', src ρ st = .ok s st' ∧ st <+: st' ∧ SrcAt M st' s r xs
/-- binding a value -/
def Bd {τ : Type} (h : FG) (Γ : Cn) (r : Rel τ) (x : τ) (Γ' : Cn) : Prop := ∀ M ρ st d, Sat M Γ ρ st → r.at_ M st d x → ∃ ρ', h d ρ st = .ok ρ' st ∧ Sat M Γ' ρ' st
/-- what a def (or built-in) does with values -/
def Rn {τ : Type} (F : F1) (es : List Ent) (r : Rel τ) (v : τ) : Prop := ∀ M st ds, (∀ m ∈ M, m < st.length) → SL M st ds es → ∃ d st', F ds st = .ok d st' ∧ st <+: st' ∧ r.at_ M st' d v
def Rn2 {α β γ : Type} (g : F2) (r : Rel α) (x : α) (s : Rel β) (y : β) (t : Rel γ) (z : γ) : Prop := ∀ M st d1 d2, r.at_ M st d1 x → s.at_ M st d2 y → ∃ d, g d1 d2 st = .ok d st ∧ t.at_ M st d z

/-! ### expressions -/
theorem Ex.var {τ : Type} {r : Rel τ} {v : τ} (h : look Γ i = some ⟨r, v⟩) : Ex Γ (fVar i) r v := fun M ρ st q => by
  obtain ⟨d, h1, h2⟩ := q.at_ i _ h
  exact ⟨d, st, by simp [h1], List.prefix_rfl, h2⟩
theorem Ex.cN (n : Nat) : Ex Γ (fC (.int (@OfNat.ofNat Int n _))) rN (@OfNat.ofNat Nat n _) := fun M ρ st q => ⟨_, st, rfl, List.prefix_rfl, rN_at.mpr rfl⟩
theorem Ex.cI (z : Int) : Ex Γ (fC (.int z)) rI z := fun M ρ st q => ⟨_, st, rfl, List.prefix_rfl, rI_at.mpr rfl⟩
theorem Ex.cB (b : Bool) : Ex Γ (fC (.bl b)) rB b := fun M ρ st q => ⟨_, st, rfl, List.prefix_rfl, rB_at.mpr rfl⟩
theorem Ex.cU : Ex Γ (fC .non) rU () := fun M ρ st q => ⟨_, st, rfl, List.prefix_rfl, rU_at.mpr rfl⟩
theorem Ex.cS (s : List Nat) (h : (s.all okCp && decide (s.length ≤ lim)) = true := by decide) : Ex Γ (fC (.str s)) rS s := fun M ρ st q => ⟨_, st, rfl, List.prefix_rfl, by
  rw [Bool.and_eq_true] at h
  exact rS_at.mpr ⟨rfl, h.1, of_decide_eq_true h.2⟩⟩
theorem Ex.cX (d : D) : Ex Γ (fC d) rX d := fun M ρ st q => ⟨_, st, rfl, List.prefix_rfl, rX_at.mpr rfl⟩
theorem Ex.up {f : FE} {n : Nat} (h : Ex Γ f rN n) : Ex Γ f rI (n : Int) := fun M ρ st q => by
  obtain ⟨d, st', h1, h2, h3⟩ := h M ρ st q
  exact ⟨d, st', h1, h2, rI_at.mpr (rN_at.mp h3)⟩
theorem Ex.down {f : FE} {z : Int} (h : Ex Γ f rI z) (h0 : 0 ≤ z) : Ex Γ f rN z.toNat := fun M ρ st q => by
  obtain ⟨d, st', h1, h2, h3⟩ := h M ρ st q
  exact ⟨d, st', h1, h2, rN_at.mpr (by rw [rI_at.mp h3, Int.toNat_of_nonneg h0])⟩
theorem Ex.eq {f : FE} {r : Rel τ} {v w : τ} (h : Ex Γ f r v) (e : v = w) : Ex Γ f r w := e ▸ h
theorem ExT.eq {f : FT} {v w : Bool} (h : ExT Γ f v) (e : v = w) : ExT Γ f w := e ▸ h
theorem ExI.eq {f : FI} {r : Rel τ} {v w : List τ} (h : ExI Γ f r v) (e : v = w) : ExI Γ f r w := e ▸ h
theorem Ex.sm {f : FE} {r : Rel τ} {v : τ} (h : Ex Γ f r v) (n : ∀ M st d, r.at_ M st d v → d ≠ .non) : Ex Γ f (rO r) (some v) := fun M ρ st q => by
  obtain ⟨d, st', h1, h2, h3⟩ := h M ρ st q
  exact ⟨d, st', h1, h2, rO_some.mpr ⟨n _ _ _ h3, h3⟩⟩
theorem Ex.nn {f : FE} {r : Rel τ} (h : Ex Γ f rU ()) : Ex Γ f (rO r) none := fun M ρ st q => by
  obtain ⟨d, st', h1, h2, h3⟩ := h M ρ st q
  exact ⟨d, st', h1, h2, rO_none.mpr (rU_at.mp h3)⟩
theorem Ex.bin {g : F2} {a b : FE} {r : Rel α} {s : Rel β} {t : Rel γ} {x : α} {y : β} {z : γ} (ha : Ex Γ a r x) (hb : Ex Γ b s y) (ho : Rn2 g r x s y t z) : Ex Γ (fBin g a b) t z := fun M ρ st h => by
  obtain ⟨d1, st1, e1, p1, a1⟩ := ha M ρ st h
  obtain ⟨d2, st2, e2, p2, a2⟩ := hb M ρ st1 (h.pre p1)
  obtain ⟨d3, e3, a3⟩ := ho M st2 d1 d2 (r.pre p2 a1) a2
  exact ⟨d3, st2, by simp [e1, e2, e3], p1.trans p2, a3⟩
theorem Ex.chain {f g : F2} {a b c : FE} {r : Rel α} {s : Rel β} {t : Rel γ} {x : α} {y : β} {z : γ} {p q : Bool} (ha : Ex Γ a r x) (hb : Ex Γ b s y) (ho : Rn2 f r x s y rB p) (hc : p = true → Ex Γ c t z) (ho' : p = true → Rn2 g s y t z rB q) : Ex Γ (fChain f g a b c) rB (p && q) := fun M ρ st h => by
  obtain ⟨d1, st1, e1, p1, a1⟩ := ha M ρ st h
  obtain ⟨d2, st2, e2, p2, a2⟩ := hb M ρ st1 (h.pre p1)
  obtain ⟨d3, e3, a3⟩ := ho M st2 d1 d2 (r.pre p2 a1) a2
  rw [rB_at.mp a3] at e3
  cases p with
  | false => exact ⟨_, st2, by simp [e1, e2, e3], p1.trans p2, rB_at.mpr rfl⟩
  | true =>
    obtain ⟨d4, st4, e4, p4, a4⟩ := hc rfl M ρ st2 (h.pre (p1.trans p2))
    obtain ⟨d5, e5, a5⟩ := ho' rfl M st4 d2 d4 (s.pre p4 a2) a4
    exact ⟨d5, st4, by simp [e1, e2, e3, e4, e5], (p1.trans p2).trans p4, by simpa using a5⟩
theorem ExT.test {f : FE} {b : Bool} (h : Ex Γ f rB b) : ExT Γ (fTest f) b := fun M ρ st q => by
  obtain ⟨d, st', e, p, a⟩ := h M ρ st q
  rw [rB_at.mp a] at e
  exact ⟨st', by simp [e], p⟩
theorem ExT.not {t : FT} {b : Bool} (h : ExT Γ t b) : ExT Γ (fNotT t) (!b) := fun M ρ st q => by
  obtain ⟨st', e, p⟩ := h M ρ st q
  exact ⟨st', by simp [e], p⟩
theorem ExT.and {t u : FT} {b c : Bool} (h : ExT Γ t b) (k : b = true → ExT Γ u c) : ExT Γ (fAndT t u) (b && c) := fun M ρ st q => by
  obtain ⟨st', e, p⟩ := h M ρ st q
  cases b with
  | false => exact ⟨st', by simp [e], p⟩
  | true =>
    obtain ⟨st2, e2, p2⟩ := k rfl M ρ st' (q.pre p)
    exact ⟨st2, by simp [e, e2], p.trans p2⟩
theorem ExT.or {t u : FT} {b c : Bool} (h : ExT Γ t b) (k : b = false → ExT Γ u c) : ExT Γ (fOrT t u) (b || c) := fun M ρ st q => by
  obtain ⟨st', e, p⟩ := h M ρ st q
  cases b with
  | true => exact ⟨st', by simp [e], p⟩
  | false =>
    obtain ⟨st2, e2, p2⟩ := k rfl M ρ st' (q.pre p)
    exact ⟨st2, by simp [e, e2], p.trans p2⟩
theorem ExT.yes : ExT Γ fYes true := fun M ρ st q => ⟨st, rfl, List.prefix_rfl⟩
theorem Ex.not {f : FE} {b : Bool} (h : Ex Γ f rB b) : Ex Γ (fNotE f) rB (!b) := fun M ρ st q => by
  obtain ⟨d, st', e, p, a⟩ := h M ρ st q
  rw [rB_at.mp a] at e
  exact ⟨_, st', by simp [e], p, rB_at.mpr rfl⟩
theorem Ex.and {f g : FE} {b c : Bool} (h : Ex Γ f rB b) (k : b = true → Ex Γ g rB c) : Ex Γ (fAndE f g) rB (b && c) := fun M ρ st q => by
  obtain ⟨d, st', e, p, a⟩ := h M ρ st q
  rw [rB_at.mp a] at e
  cases b with
  | false => exact ⟨_, st', by simp [e], p, rB_at.mpr rfl⟩
  | true =>
    obtain ⟨d2, st2, e2, p2, a2⟩ := k rfl M ρ st' (q.pre p)
    exact ⟨d2, st2, by simp [e, e2], p.trans p2, by simpa using a2⟩
theorem Ex.or {f g : FE} {b c : Bool} (h : Ex Γ f rB b) (k : b = false → Ex Γ g rB c) : Ex Γ (fOrE f g) rB (b || c) := fun M ρ st q => by
  obtain ⟨d, st', e, p, a⟩ := h M ρ st q
  rw [rB_at.mp a] at e
  cases b with
  | true => exact ⟨_, st', by simp [e], p, rB_at.mpr rfl⟩
  | false =>
    obtain ⟨d2, st2, e2, p2, a2⟩ := k rfl M ρ st' (q.pre p)
    exact ⟨d2, st2, by simp [e, e2], p.trans p2, by simpa using a2⟩
theorem Ex.ite {t : FT} {f g : FE} {r : Rel τ} {b : Bool} {x y : τ} (h : ExT Γ t b) (hf : b = true → Ex Γ f r x) (hg : b = false → Ex Γ g r y) : Ex Γ (fIfE t f g) r (if b = true then x else y) := fun M ρ st q => by
  obtain ⟨st', e, p⟩ := h M ρ st q
  cases b with
  | true =>
    obtain ⟨d2, st2, e2, p2, a2⟩ := hf rfl M ρ st' (q.pre p)
    exact ⟨d2, st2, by simp [e, e2], p.trans p2, by simpa using a2⟩
  | false =>
    obtain ⟨d2, st2, e2, p2, a2⟩ := hg rfl M ρ st' (q.pre p)
    exact ⟨d2, st2, by simp [e, e2], p.trans p2, by simpa using a2⟩
theorem ExA.nil : ExA Γ faNil [] := fun M ρ st q => ⟨[], st, rfl, List.prefix_rfl, .nil⟩
theorem ExA.cons {f : FE} {fa : FA} {r : Rel τ} {v : τ} {es : List Ent} (h : Ex Γ f r v) (k : ExA Γ fa es) : ExA Γ (faCons f fa) (⟨r, v⟩ :: es) := fun M ρ st q => by
  obtain ⟨d, st1, e1, p1, a1⟩ := h M ρ st q
  obtain ⟨ds, st2, e2, p2, a2⟩ := k M ρ st1 (q.pre p1)
  exact ⟨d :: ds, st2, by simp [e1, e2], p1.trans p2, .cons (r.pre p2 a1) a2⟩
/-- arguments all of one kind -/
def ExL {τ : Type} (Γ : Cn) (fa : FA) (r : Rel τ) (xs : List τ) : Prop := ∀ M ρ st, Sat M Γ ρ st → ∃ ds st', fa ρ st = .ok ds st' ∧ st <+: st' ∧ A2 (r.at_ M st') ds xs
theorem ExL.nil {r : Rel τ} : ExL Γ faNil r [] := fun M ρ st q => ⟨[], st, rfl, List.prefix_rfl, .nil⟩
theorem ExL.cons {f : FE} {fa : FA} {r : Rel τ} {v : τ} {vs : List τ} (h : Ex Γ f r v) (k : ExL Γ fa r vs) : ExL Γ (faCons f fa) r (v :: vs) := fun M ρ st q => by
  obtain ⟨d, st1, e1, p1, a1⟩ := h M ρ st q
  obtain ⟨ds, st2, e2, p2, a2⟩ := k M ρ st1 (q.pre p1)
  exact ⟨d :: ds, st2, by simp [e1, e2], p1.trans p2, .cons (r.pre p2 a1) a2⟩
theorem Ex.lst {fa : FA} {r : Rel τ} {xs : List τ} (h : ExL Γ fa r xs) (hl : xs.length ≤ lim := by simp only [List.length_cons, List.length_nil]; decide) : Ex Γ (fLst fa) (rL r) xs := fun M ρ st q => by
  obtain ⟨ds, st1, e1, p1, a1⟩ := h M ρ st q
  exact ⟨.lst ds, st1, by simp [e1, a1.len, hl], p1, rL_at.mpr ⟨ds, .inl rfl, hl, a1⟩⟩
theorem Ex.tupL {fa : FA} {r : Rel τ} {xs : List τ} (h : ExL Γ fa r xs) (hl : xs.length ≤ lim := by simp only [List.length_cons, List.length_nil]; decide) : Ex Γ (fTup fa) (rTL r) xs := fun M ρ st q => by
  obtain ⟨ds, st1, e1, p1, a1⟩ := h M ρ st q
  exact ⟨.tup ds, st1, by simp [e1, a1.len, hl], p1, rTL_at.mpr ⟨ds, rfl, hl, a1⟩⟩
theorem Ex.pair {f g : FE} {r : Rel α} {s : Rel β} {x : α} {y : β} (h : Ex Γ f r x) (k : Ex Γ g s y) : Ex Γ (fTup (faCons f (faCons g faNil))) (rP r s) (x, y) := fun M ρ st q => by
  obtain ⟨d, st1, e1, p1, a1⟩ := h M ρ st q
  obtain ⟨d2, st2, e2, p2, a2⟩ := k M ρ st1 (q.pre p1)
  exact ⟨.tup [d, d2], st2, by simp [e1, e2, lim], p1.trans p2, rP_at.mpr ⟨_, _, rfl, r.pre p2 a1, a2⟩⟩
theorem Ex.trip {f g h : FE} {r : Rel α} {s : Rel β} {t : Rel γ} {x : α} {y : β} {z : γ} (h1 : Ex Γ f r x) (k : Ex Γ g s y) (l : Ex Γ h t z) : Ex Γ (fTup (faCons f (faCons g (faCons h faNil)))) (rT r s t) (x, y, z) := fun M ρ st q => by
  obtain ⟨d, st1, e1, p1, a1⟩ := h1 M ρ st q
  obtain ⟨d2, st2, e2, p2, a2⟩ := k M ρ st1 (q.pre p1)
  obtain ⟨d3, st3, e3, p3, a3⟩ := l M ρ st2 (q.pre (p1.trans p2))
  exact ⟨.tup [d, d2, d3], st3, by simp [e1, e2, e3, lim], (p1.trans p2).trans p3, rT_at.mpr ⟨_, _, _, rfl, r.pre (p2.trans p3) a1, s.pre p3 a2, a3⟩⟩
/-- a list as a cell, only read from here on -/
theorem pre_snoc {c : Co} : st <+: st ++ [c] := List.prefix_append _ _
theorem cel_new (hM : ∀ m ∈ M, m < st.length) {ds : List D} {r : Rel τ} {xs : List τ} (a : A2 (r.at_ M st) ds xs) (hl : xs.length ≤ lim) : (rL r).at_ M (st ++ [.lst ds]) (.cel st.length) xs :=
  rL_at.mpr ⟨ds, .inr ⟨st.length, rfl, fun hm => Nat.lt_irrefl _ (hM _ hm), by simp⟩, hl, a.imp fun d x => r.pre pre_snoc⟩
theorem mot_pre {st st' : Sto} (h : ∀ m ∈ M, m < st.length) (p : st <+: st') : ∀ m ∈ M, m < st'.length := fun m hm => Nat.lt_of_lt_of_le (h m hm) p.length_le
theorem Ex.lstC {fa : FA} {r : Rel τ} {xs : List τ} (h : ExL Γ fa r xs) (hl : xs.length ≤ lim := by simp only [List.length_cons, List.length_nil]; decide) : Ex Γ (fLstC fa) (rL r) xs := fun M ρ st q => by
  obtain ⟨ds, st1, e1, p1, a1⟩ := h M ρ st q
  exact ⟨.cel st1.length, st1 ++ [.lst ds], by simp [e1, a1.len, hl], p1.trans pre_snoc, cel_new (mot_pre q.mot p1) a1 hl⟩
/-! ### calls -/
def LenIs (es : List Ent) (n : Nat) : Prop := es.length = n
theorem Ex.call {n : Nat} {F : F1} {fa : FA} {es : List Ent} {r : Rel τ} {v : τ} (ha : ExA Γ fa es) (hr : Rn F es r v) (hn : LenIs es n) : Ex Γ (fCall n F fa) r v := fun M ρ st q => by
  obtain ⟨ds, st1, e1, p1, a1⟩ := ha M ρ st q
  obtain ⟨d, st2, e2, p2, a2⟩ := hr M st1 ds (mot_pre q.mot p1) a1
  have hn : es.length = n := hn
  exact ⟨d, st2, by simp [e1, a1.len, hn, e2], p1.trans p2, a2⟩
def pickE (ix : List Nat) (es : List Ent) : List Ent := ix.filterMap fun i => es[i]?
theorem SL.pick {ds : List D} {es : List Ent} (h : SL M st ds es) : ∀ ix : List Nat, SL M st (FL.pick ix ds) (pickE ix es)
  | [] => .nil
  | i :: ix => by
    have ih := h.pick ix
    unfold FL.pick pickE at ih ⊢
    rw [List.filterMap_cons, List.filterMap_cons]
    cases e : es[i]? with
    | none =>
      have : ds[i]? = none := by rw [List.getElem?_eq_none_iff] at e ⊢; rw [h.len]; exact e
      rw [this]
      exact ih
    | some x =>
      obtain ⟨d, h1, h2⟩ := h.get e
      rw [h1]
      exact .cons h2 ih
structure PickIs (ix : List Nat) (es es' : List Ent) : Prop where
  mk :: is : pickE ix es = es'
theorem PickIs.nil {es : List Ent} : PickIs [] es [] := ⟨rfl⟩
theorem PickIs.cons {i : Nat} {ix : List Nat} {es es' : List Ent} {e : Ent} (h : es[i]? = some e) (k : PickIs ix es es') : PickIs (i :: ix) es (e :: es') := ⟨by
  unfold pickE
  rw [List.filterMap_cons, h]
  show e :: pickE ix es = _
  rw [k.is]⟩
theorem Ex.callK {ix : List Nat} {n : Nat} {F : F1} {fa : FA} {es es' : List Ent} {r : Rel τ} {v : τ} (ha : ExA Γ fa es) (hp : PickIs ix es es') (hr : Rn F es' r v) (hn : LenIs es n) : Ex Γ (fCallK ix n F fa) r v := fun M ρ st q => by
  obtain ⟨ds, st1, e1, p1, a1⟩ := ha M ρ st q
  have hn : es.length = n := hn
  obtain ⟨d, st2, e2, p2, a2⟩ := hr M st1 (pick ix ds) (mot_pre q.mot p1) (hp.is ▸ a1.pick ix)
  exact ⟨d, st2, by simp [e1, a1.len, hn, e2], p1.trans p2, a2⟩
theorem Ex.cb {F : F1} {fa : FA} {es : List Ent} {r : Rel τ} {v : τ} (ha : ExA Γ fa es) (hr : Rn F es r v) : Ex Γ (fCB F fa) r v := fun M ρ st q => by
  obtain ⟨ds, st1, e1, p1, a1⟩ := ha M ρ st q
  obtain ⟨d, st2, e2, p2, a2⟩ := hr M st1 ds (mot_pre q.mot p1) a1
  exact ⟨d, st2, by simp [e1, e2], p1.trans p2, a2⟩
/-! ### binding -/
theorem Bd.name {r : Rel τ} {x : τ} : Bd (hName i) Γ r x (Γ.set i (some ⟨r, x⟩)) := fun M ρ st d h a => ⟨_, rfl, h.set a⟩
theorem Bd.pair {h k : FG} {r : Rel α} {s : Rel β} {x : α × β} {Γ1 Γ2 : Cn} (h1 : Bd h Γ r x.1 Γ1) (h2 : Bd k Γ1 s x.2 Γ2) : Bd (hTup 2 (hCons h (hCons k hNil))) Γ (rP r s) x Γ2 := fun M ρ st d q aa => by
  obtain ⟨a, b, rfl, a1, a2⟩ := rP_at.mp aa
  obtain ⟨ρ1, e1, q1⟩ := h1 M ρ st a q a1
  obtain ⟨ρ2, e2, q2⟩ := h2 M ρ1 st b q1 a2
  exact ⟨ρ2, by simp [e1, e2], q2⟩
theorem Bd.trip {h k l : FG} {r : Rel α} {s : Rel β} {t : Rel γ} {x : α × β × γ} {Γ1 Γ2 Γ3 : Cn} (h1 : Bd h Γ r x.1 Γ1) (h2 : Bd k Γ1 s x.2.1 Γ2) (h3 : Bd l Γ2 t x.2.2 Γ3) : Bd (hTup 3 (hCons h (hCons k (hCons l hNil)))) Γ (rT r s t) x Γ3 := fun M ρ st d q aa => by
  obtain ⟨a, b, c, rfl, a1, a2, a3⟩ := rT_at.mp aa
  obtain ⟨ρ1, e1, q1⟩ := h1 M ρ st a q a1
  obtain ⟨ρ2, e2, q2⟩ := h2 M ρ1 st b q1 a2
  obtain ⟨ρ3, e3, q3⟩ := h3 M ρ2 st c q2 a3
  exact ⟨ρ3, by simp [e1, e2, e3], q3⟩
/-! ### sources -/
theorem srcAt_fix {ds : List D} {r : Rel τ} {xs : List τ} (a : A2 (r.at_ M st) ds xs) (hl : xs.length ≤ lim) : SrcAt M st (.fix ds) r xs := ⟨hl, fun M' st' x => ⟨by show _ ≤ ds.length; rw [a.len]; exact Nat.le_refl _, fun i => by
  cases e : xs[i]? with
  | none =>
    have : ds[i]? = none := by rw [List.getElem?_eq_none_iff] at e ⊢; rw [a.len]; exact e
    show some ds[i]? = _
    rw [this]
  | some y =>
    obtain ⟨d, h1, h2⟩ := a.get e
    exact ⟨d, by show some ds[i]? = _; rw [h1], r.ext x h2⟩⟩⟩
theorem srcAt_cel {k : Nat} {ds : List D} {r : Rel τ} {xs : List τ} (hk : k ∉ M) (h : st[k]? = some (.lst ds)) (a : A2 (r.at_ M st) ds xs) (hl : xs.length ≤ lim) : SrcAt M st (.cel k) r xs := ⟨hl, fun M' st' x => by
  have h' : st'[k]? = some (.lst ds) := (x.2 k (List.getElem?_eq_some_iff.mp h).1 hk).1.trans h
  refine ⟨by unfold srcLen celLen; simp only [h']; rw [a.len]; exact Nat.le_refl _, fun i => ?_⟩
  cases e : xs[i]? with
  | none =>
    have : ds[i]? = none := by rw [List.getElem?_eq_none_iff] at e ⊢; rw [a.len]; exact e
    unfold nextS
    simp only [h', this]
  | some y =>
    obtain ⟨d, h1, h2⟩ := a.get e
    exact ⟨d, by unfold nextS; simp only [h', h1], r.ext x h2⟩⟩
theorem ExI.list {f : FE} {r : Rel τ} {xs : List τ} (h : Ex Γ f (rL r) xs) : ExI Γ (iList f) r xs := fun M ρ st q => by
  obtain ⟨d, st1, e1, p1, a1⟩ := h M ρ st q
  obtain ⟨ds, h1, h2, h3⟩ := rL_at.mp a1
  rcases h1 with rfl | ⟨k, rfl, hk, hc⟩
  · exact ⟨.fix ds, st1, by simp [e1, itemsR, items], p1, srcAt_fix h3 h2⟩
  · exact ⟨.cel k, st1, by simp [e1, hc], p1, srcAt_cel hk hc h3 h2⟩
theorem ExI.tup {f : FE} {r : Rel τ} {xs : List τ} (h : Ex Γ f (rTL r) xs) : ExI Γ (iList f) r xs := fun M ρ st q => by
  obtain ⟨d, st1, e1, p1, a1⟩ := h M ρ st q
  obtain ⟨ds, rfl, h2, h3⟩ := rTL_at.mp a1
  exact ⟨.fix ds, st1, by simp [e1], p1, srcAt_fix h3 h2⟩
theorem okT_one {c : Nat} {s : List Nat} (h : okT s) (hc : c ∈ s) : okT [c] := List.all_eq_true.mpr fun x hx => by
  rw [List.mem_singleton.mp hx]
  exact List.all_eq_true.mp h c hc
theorem ExI.str {f : FE} {s : List Nat} (h : Ex Γ f rS s) : ExI Γ (iList f) rS (s.map fun c => [c]) := fun M ρ st q => by
  obtain ⟨d, st1, e1, p1, a1⟩ := h M ρ st q
  obtain ⟨rfl, h1, h2⟩ := rS_at.mp a1
  refine ⟨.fix (s.map fun c => .str [c]), st1, by simp [e1], p1, srcAt_fix (A2.map fun c hc => rS_at.mpr ⟨rfl, okT_one h1 hc, by unfold lim; simp⟩) (by simpa using h2)⟩
theorem ExI.range1 {f : FE} {n : Nat} (h : Ex Γ f rN n) (hl : n ≤ lim) : ExI Γ (iRange1 f) rN (List.range n) := fun M ρ st q => by
  obtain ⟨d, st1, e1, p1, a1⟩ := h M ρ st q
  rw [rN_at.mp a1] at e1
  have ok : okR (n : Int) = true := by unfold okR; unfold lim at hl; simp; omega
  refine ⟨.fix ((rng 0 (n : Int)).map D.int), st1, by simp [e1, ok], p1, srcAt_fix ?_ (by simpa using hl)⟩
  have : (rng 0 (n : Int)).map D.int = (List.range n).map fun i : Nat => D.int (i : Int) := by unfold rng; simp
  rw [this]
  exact A2.map_l fun i _ => rN_at.mpr rfl
theorem ExI.range2 {f g : FE} {m n : Nat} (h : Ex Γ f rN m) (k : Ex Γ g rN n) (hl : n ≤ lim) (hm : m ≤ lim) : ExI Γ (iRange2 f g) rN (List.range' m (n - m)) := fun M ρ st q => by
  obtain ⟨d, st1, e1, p1, a1⟩ := h M ρ st q
  obtain ⟨d2, st2, e2, p2, a2⟩ := k M ρ st1 (q.pre p1)
  rw [rN_at.mp a1] at e1
  rw [rN_at.mp a2] at e2
  unfold lim at hl hm
  have ok : okR (n : Int) = true := by unfold okR; simp; omega
  have ok2 : okR (m : Int) = true := by unfold okR; simp; omega
  refine ⟨.fix ((rng (m : Int) (n : Int)).map D.int), st2, by simp [e1, e2, ok, ok2], p1.trans p2, srcAt_fix ?_ (by unfold lim; simp; omega)⟩
  have : (rng (m : Int) (n : Int)).map D.int = (List.range' m (n - m)).map fun i : Nat => D.int (i : Int) := by
    unfold rng
    rw [List.range'_eq_map_range, List.map_map, List.map_map, show ((n : Int) - m).toNat = n - m from by omega]
    refine List.map_congr_left fun i _ => ?_
    simp
  rw [this]
  exact A2.map_l fun i _ => rN_at.mpr rfl
theorem sdOf_at {d : D} {r : Rel τ} {xs : List τ} (a : (rL r).at_ M st d xs) : ∃ s, sdOf st d = some s ∧ ∀ M' st', Xt M st M' st' → sdLen s st' = xs.length ∧ ∀ i, match xs[i]? with
  | some x => ∃ d, sdAt s st' i = some (some d) ∧ r.at_ M' st' d x
  | none => sdAt s st' i = some none := by
  obtain ⟨ds, h1, h2, h3⟩ := rL_at.mp a
  rcases h1 with rfl | ⟨k, rfl, hk, hc⟩
  · refine ⟨.fix ds, rfl, fun M' st' x => ⟨h3.len, fun i => ?_⟩⟩
    cases e : xs[i]? with
    | none =>
      have : ds[i]? = none := by rw [List.getElem?_eq_none_iff] at e ⊢; rw [h3.len]; exact e
      show some ds[i]? = _
      rw [this]
    | some y =>
      obtain ⟨d, h1, h2⟩ := h3.get e
      exact ⟨d, by show some ds[i]? = _; rw [h1], r.ext x h2⟩
  · refine ⟨.cel k, by unfold sdOf; simp only [hc], fun M' st' x => ?_⟩
    have h' : st'[k]? = some (.lst ds) := (x.2 k (List.getElem?_eq_some_iff.mp hc).1 hk).1.trans hc
    refine ⟨by unfold sdLen celLen; simp only [h']; exact h3.len, fun i => ?_⟩
    cases e : xs[i]? with
    | none =>
      have : ds[i]? = none := by rw [List.getElem?_eq_none_iff] at e ⊢; rw [h3.len]; exact e
      unfold sdAt
      simp only [h', this]
    | some y =>
      obtain ⟨d, h1, h2⟩ := h3.get e
      exact ⟨d, by unfold sdAt; simp only [h', h1], r.ext x h2⟩
theorem ExI.zip {f g : FE} {r : Rel α} {s : Rel β} {xs : List α} {ys : List β} (h : Ex Γ f (rL r) xs) (k : Ex Γ g (rL s) ys) : ExI Γ (iZip (faCons f (faCons g faNil))) (rP r s) (xs.zip ys) := fun M ρ st q => by
  obtain ⟨d, st1, e1, p1, a1⟩ := h M ρ st q
  obtain ⟨d2, st2, e2, p2, a2⟩ := k M ρ st1 (q.pre p1)
  obtain ⟨s1, s2, s3⟩ := sdOf_at ((rL r).pre p2 a1)
  obtain ⟨t1, t2, t3⟩ := sdOf_at a2
  have hz : zipS st2 [d, d2] = .some (.zip s1 t1) := by
    have nt : ∀ {τ : Type} {r : Rel τ} {d : D} {xs : List τ} {st : Sto}, (rL r).at_ M st d xs → ∀ ds, d ≠ .tup ds := fun h ds e => by
      obtain ⟨_, h1, _⟩ := rL_at.mp h
      rcases h1 with rfl | ⟨k, rfl, _⟩ <;> cases e
    have n1 := nt a1
    have n2 := nt a2
    unfold zipS
    split
    · rename_i e
      simp only [List.cons.injEq, and_true] at e
      exact absurd e.1 (n1 _)
    · rename_i e
      simp only [List.cons.injEq, and_true] at e
      obtain ⟨rfl, rfl⟩ := e
      simp only [s2, t2]
    · rename_i e1 e2
      exact absurd rfl (e2 _ _)
  obtain ⟨xs', hx⟩ := rL_at.mp a1
  obtain ⟨ys', hy⟩ := rL_at.mp a2
  refine ⟨.zip s1 t1, st2, by simp [e1, e2, hz], p1.trans p2, by simp; omega, fun M' st' x => ?_⟩
  obtain ⟨u1, u2⟩ := s3 M' st' x
  obtain ⟨w1, w2⟩ := t3 M' st' x
  refine ⟨by show _ ≤ sdLen s1 st'; rw [u1]; simp; omega, fun i => ?_⟩
  have v1 := u2 i
  have v2 := w2 i
  have ez : (xs.zip ys)[i]? = match xs[i]?, ys[i]? with
    | .some a, .some b => .some (a, b)
    | _, _ => .none := by rw [List.zip, List.getElem?_zipWith]; cases xs[i]? <;> cases ys[i]? <;> rfl
  rw [ez]
  cases ex : xs[i]? with
  | none =>
    rw [ex] at v1
    cases ey : ys[i]? with
    | none => rw [ey] at v2; show nextS _ _ _ = _; unfold nextS; simp only [v1, v2]
    | some y =>
      rw [ey] at v2
      obtain ⟨b, v2, _⟩ := v2
      show nextS _ _ _ = _; unfold nextS; simp only [v1, v2]
  | some a =>
    rw [ex] at v1
    obtain ⟨b, v1, k1⟩ := v1
    cases ey : ys[i]? with
    | none => rw [ey] at v2; show nextS _ _ _ = _; unfold nextS; simp only [v1, v2]
    | some y =>
      rw [ey] at v2
      obtain ⟨b2, v2, k2⟩ := v2
      exact ⟨.tup [b, b2], by unfold nextS; simp only [v1, v2], rP_at.mpr ⟨_, _, rfl, k1, k2⟩⟩
end
end FL

/-! FVc: comprehensions, operators, built-ins -/
namespace FL
open PySem PySem.Spec PyProof.Rows L2
section
variable {M : List Nat} {Γ : Cn} {ρ : En} {st st' : Sto} {τ α β γ δ : Type} {r : Rel τ} {v : τ} {d : D} {i : Nat}
theorem runL_lcN (s : Src) (T : D → Sto → R (Option D)) (st : Sto) : runL s T st = lcN s T (srcLen s st + 1) 0 st := by
  cases s with
  | fix ds =>
    have := lcN_fix T ds ds.length 0 st (by omega)
    rw [List.drop_zero] at this
    exact this.symm
  | cel n => rfl
  | zip a b => rfl
  | enm a => rfl
theorem SrcAt.ext {s : Src} {r : Rel τ} {xs : List τ} {M' : List Nat} (h : SrcAt M st s r xs) (x : Xt M st M' st') : SrcAt M' st' s r xs := ⟨h.1, fun M'' st'' y => h.2 M'' st'' (x.trans y)⟩
theorem lcN_at {s : Src} {T : D → Sto → R (Option D)} {r : Rel α} {r2 : Rel β} {xs : List α} {c : α → Bool} {f : α → β} (hT : ∀ x ∈ xs, ∀ st1 d, st <+: st1 → r.at_ M st1 d x → ∃ o st2, T d st1 = .ok o st2 ∧ st1 <+: st2 ∧ if c x = true then ∃ d2, o = some d2 ∧ r2.at_ M st2 d2 (f x) else o = none) :
    ∀ (m i : Nat) (st1 : Sto), st <+: st1 → SrcAt M st1 s r xs → i ≤ xs.length → xs.length - i < m → ∃ ys st2, lcN s T m i st1 = .ok ys st2 ∧ st1 <+: st2 ∧ A2 (r2.at_ M st2) ys (((xs.drop i).filter c).map f)
  | 0, i, st1, _, _, _, h => by omega
  | m + 1, i, st1, p1, hs, hi, hm => by
    have h1 := (hs.2 M st1 .refl).2 i
    rw [lcN]
    by_cases hl : i < xs.length
    · rw [List.getElem?_eq_getElem hl] at h1
      obtain ⟨d, e1, a1⟩ := h1
      obtain ⟨o, st2, e2, p2, k⟩ := hT xs[i] (List.getElem_mem hl) st1 d p1 a1
      obtain ⟨ys, st3, e3, p3, k3⟩ := lcN_at hT m (i + 1) st2 (p1.trans p2) (hs.ext (.pre p2)) hl (by omega)
      refine ⟨consO o ys, st3, by rw [e1]; simp only [e2, R.bind_ok, e3], p2.trans p3, ?_⟩
      rw [List.drop_eq_getElem_cons hl]
      by_cases hc : c xs[i] = true
      · rw [if_pos hc] at k
        obtain ⟨d2, rfl, a2⟩ := k
        rw [List.filter_cons_of_pos hc, List.map_cons]
        exact .cons (r2.pre p3 a2) k3
      · rw [if_neg hc] at k
        subst k
        rw [List.filter_cons_of_neg hc]
        exact k3
    · rw [List.getElem?_eq_none (by omega)] at h1
      refine ⟨[], st1, by rw [h1], List.prefix_rfl, ?_⟩
      rw [List.drop_eq_nil_of_le (by omega)]
      exact .nil
theorem lc_run {src : FI} {h : FG} {t : FT} {e : FE} {vs : List Nat} {r : Rel α} {s : Rel β} {xs : List α} {c : α → Bool} {q : α → β} {Γx : α → Cn} (hs : ExI Γ src r xs) (hb : ∀ x, x ∈ xs → Bd h (wipeC Γ vs) r x (Γx x))
    (ht : ∀ x, x ∈ xs → ExT (Γx x) t (c x)) (he : ∀ x, x ∈ xs → c x = true → Ex (Γx x) e s (q x)) (sat : Sat M Γ ρ st) :
    ∃ z st1 ys st2, src ρ st = .ok z st1 ∧ runL z (turnL h t e vs ρ) st1 = .ok ys st2 ∧ st <+: st2 ∧ ys.length ≤ lim ∧ ((xs.filter c).map q).length ≤ lim ∧ A2 (s.at_ M st2) ys ((xs.filter c).map q) := by
  obtain ⟨z, st1, e1, p1, a1⟩ := hs M ρ st sat
  have sat1 := sat.pre p1
  have key := lcN_at (M := M) (st := st1) (s := z) (T := turnL h t e vs ρ) (r := r) (r2 := s) (xs := xs) (c := c) (f := q) (fun x hx st2 d p2 a2 => by
    obtain ⟨ρ2, e2, q2⟩ := hb x hx M (wipeE ρ vs) st2 d ((sat1.pre p2).wipe vs) a2
    obtain ⟨st3, e3, p3⟩ := ht x hx M ρ2 st2 q2
    by_cases hc : c x = true
    · obtain ⟨d4, st4, e4, p4, a4⟩ := he x hx hc M ρ2 st3 (q2.pre p3)
      exact ⟨some d4, st4, by simp [ev_turn, e2, e3, hc, e4], p3.trans p4, by rw [if_pos hc]; exact ⟨d4, rfl, a4⟩⟩
    · exact ⟨none, st3, by simp [ev_turn, e2, e3, hc], p3, by rw [if_neg hc]⟩) (srcLen z st1 + 1) 0 st1 List.prefix_rfl a1 (Nat.zero_le _) (by have := (a1.2 M st1 .refl).1; omega)
  obtain ⟨ys, st2, e2, p2, a2⟩ := key
  rw [List.drop_zero] at a2
  have hl : ((xs.filter c).map q).length ≤ lim := by
    have := List.length_filter_le c xs
    rw [List.length_map]
    exact Nat.le_trans this a1.1
  exact ⟨z, st1, ys, st2, e1, by rw [runL_lcN]; exact e2, p1.trans p2, by rw [a2.len]; exact hl, hl, a2⟩
theorem Ex.lc {src : FI} {h : FG} {t : FT} {e : FE} {vs : List Nat} {r : Rel α} {s : Rel β} {xs : List α} {c : α → Bool} {q : α → β} {Γx : α → Cn} (hs : ExI Γ src r xs) (hb : ∀ x, x ∈ xs → Bd h (wipeC Γ vs) r x (Γx x))
    (ht : ∀ x, x ∈ xs → ExT (Γx x) t (c x)) (he : ∀ x, x ∈ xs → c x = true → Ex (Γx x) e s (q x)) : Ex Γ (fLc false src h t e vs) (rL s) ((xs.filter c).map q) := fun M ρ st sat => by
  obtain ⟨z, st1, ys, st2, e1, e2, p, hl, hl2, a⟩ := lc_run hs hb ht he sat
  exact ⟨.lst ys, st2, by simp [e1, e2, endL, hl], p, rL_at.mpr ⟨ys, .inl rfl, hl2, a⟩⟩
theorem Ex.lcY {src : FI} {h : FG} {e : FE} {vs : List Nat} {r : Rel α} {s : Rel β} {xs : List α} {q : α → β} {Γx : α → Cn} (hs : ExI Γ src r xs) (hb : ∀ x, x ∈ xs → Bd h (wipeC Γ vs) r x (Γx x))
    (he : ∀ x, x ∈ xs → Ex (Γx x) e s (q x)) : Ex Γ (fLc false src h fYes e vs) (rL s) (xs.map q) := by
  have := Ex.lc (c := fun _ => true) hs hb (fun _ _ => ExT.yes) fun x hx _ => he x hx
  rwa [List.filter_eq_self.mpr fun _ _ => rfl] at this
/-- .. that yields its items -/
theorem Ex.lcC {src : FI} {h : FG} {t : FT} {e : FE} {vs : List Nat} {r : Rel α} {s : Rel β} {xs : List α} {c : α → Bool} {q : α → β} {Γx : α → Cn} (hs : ExI Γ src r xs) (hb : ∀ x, x ∈ xs → Bd h (wipeC Γ vs) r x (Γx x))
    (ht : ∀ x, x ∈ xs → ExT (Γx x) t (c x)) (he : ∀ x, x ∈ xs → c x = true → Ex (Γx x) e s (q x)) : Ex Γ (fLc true src h t e vs) (rL s) ((xs.filter c).map q) := fun M ρ st sat => by
  obtain ⟨z, st1, ys, st2, e1, e2, p, hl, hl2, a⟩ := lc_run hs hb ht he sat
  exact ⟨.cel st2.length, st2 ++ [.lst ys], by simp [e1, e2, endL, hl], p.trans pre_snoc, cel_new (mot_pre sat.mot p) a hl2⟩
theorem Ex.lcCY {src : FI} {h : FG} {e : FE} {vs : List Nat} {r : Rel α} {s : Rel β} {xs : List α} {q : α → β} {Γx : α → Cn} (hs : ExI Γ src r xs) (hb : ∀ x, x ∈ xs → Bd h (wipeC Γ vs) r x (Γx x))
    (he : ∀ x, x ∈ xs → Ex (Γx x) e s (q x)) : Ex Γ (fLc true src h fYes e vs) (rL s) (xs.map q) := by
  have := Ex.lcC (c := fun _ => true) hs hb (fun _ _ => ExT.yes) fun x hx _ => he x hx
  rwa [List.filter_eq_self.mpr fun _ _ => rfl] at this

/-! ### operators -/
theorem r2_addI {x y : Int} : Rn2 gAdd rI x rI y rI (x + y) := fun M st d1 d2 h k => by
  rw [rI_at.mp h, rI_at.mp k]; exact ⟨_, rfl, rI_at.mpr rfl⟩
theorem r2_addN {x y : Nat} : Rn2 gAdd rN x rN y rN (x + y) := fun M st d1 d2 h k => by
  rw [rN_at.mp h, rN_at.mp k]; exact ⟨_, rfl, rN_at.mpr (by simp)⟩
theorem okT_app {a b : List Nat} (h : okT a) (k : okT b) : okT (a ++ b) := by
  unfold okT at *
  rw [List.all_append, h, k]; rfl
theorem r2_addS {x y : List Nat} (hl : x.length + y.length ≤ lim) : Rn2 gAdd rS x rS y rS (x ++ y) := fun M st d1 d2 h k => by
  obtain ⟨rfl, h1, h2⟩ := rS_at.mp h
  obtain ⟨rfl, k1, k2⟩ := rS_at.mp k
  exact ⟨_, gAdd_str hl, rS_at.mpr ⟨rfl, okT_app h1 k1, by simpa using hl⟩⟩
theorem gAdd_at {a b : D} {as bs : List D} (h : ItAt M st a as) (k : ItAt M st b bs) (hl : as.length + bs.length ≤ lim) : gAdd a b st = .ok (.lst (as ++ bs)) st := by
  have e1 := h.items
  have e2 := k.items
  rcases h with rfl | ⟨i, rfl, _⟩ <;> rcases k with rfl | ⟨j, rfl, _⟩ <;> (unfold gAdd; simp only [e1, e2, hl, if_true])
theorem r2_addL {x y : List τ} {r : Rel τ} (hl : x.length + y.length ≤ lim) : Rn2 gAdd (rL r) x (rL r) y (rL r) (x ++ y) := fun M st d1 d2 h k => by
  obtain ⟨a, h1, h2, h3⟩ := rL_at.mp h
  obtain ⟨b, k1, k2, k3⟩ := rL_at.mp k
  exact ⟨_, gAdd_at h1 k1 (by rw [h3.len, k3.len]; exact hl), rL_at.mpr ⟨_, .inl rfl, by simpa using hl, h3.app k3⟩⟩
theorem r2_subI {x y : Int} : Rn2 gSub rI x rI y rI (x - y) := fun M st d1 d2 h k => by
  rw [rI_at.mp h, rI_at.mp k]; exact ⟨_, rfl, rI_at.mpr rfl⟩
theorem r2_subN {x y : Nat} (h : y ≤ x) : Rn2 gSub rN x rN y rN (x - y) := fun M st d1 d2 q k => by
  rw [rN_at.mp q, rN_at.mp k]; exact ⟨_, rfl, rN_at.mpr (by show D.int ((x : Int) - (y : Int)) = D.int ((x - y : Nat) : Int); congr 1; omega)⟩
theorem r2_mulI {x y : Int} (h : cMul x y = true) : Rn2 gMul rI x rI y rI (x * y) := fun M st d1 d2 q k => by
  rw [rI_at.mp q, rI_at.mp k]; exact ⟨_, gMul_int h, rI_at.mpr rfl⟩
theorem r2_mulN {x y : Nat} (h : x < 18446744073709551616 ∨ y < 18446744073709551616) : Rn2 gMul rN x rN y rN (x * y) := fun M st d1 d2 q k => by
  rw [rN_at.mp q, rN_at.mp k]
  refine ⟨_, gMul_int ?_, rN_at.mpr (by simp)⟩
  rcases h with h | h
  · exact cMul_l (by omega)
  · exact cMul_r (by omega)
theorem repL_nat {α : Type} {n : Nat} {xs : List α} : repL (n : Int) xs = (List.replicate n xs).flatten := by unfold repL; simp
theorem rep_len {α : Type} {n : Nat} {xs : List α} : ((List.replicate n xs).flatten).length = n * xs.length := by
  induction n with
  | zero => simp
  | succ n ih => rw [List.replicate_succ, List.flatten_cons, List.length_append, ih, Nat.succ_mul, Nat.add_comm]
theorem rep_mem {α : Type} {n : Nat} {xs : List α} {x : α} (h : x ∈ (List.replicate n xs).flatten) : x ∈ xs := by
  obtain ⟨l, h1, h2⟩ := List.mem_flatten.mp h
  rw [(List.mem_replicate.mp h1).2] at h2
  exact h2
theorem okT_mem {s t : List Nat} (h : okT s) (k : ∀ c ∈ t, c ∈ s) : okT t := List.all_eq_true.mpr fun c hc => List.all_eq_true.mp h c (k c hc)
theorem r2_mulS {x : List Nat} {y : Nat} (h : y < 1000000) (hl : x.length * y ≤ lim) : Rn2 gMul rS x rN y rS (List.replicate y x).flatten := fun M st d1 d2 q k => by
  obtain ⟨rfl, h1, h2⟩ := rS_at.mp q
  rw [rN_at.mp k]
  refine ⟨_, gMul_str (by omega) (by simpa using hl), rS_at.mpr ⟨by rw [repL_nat], okT_mem h1 fun c hc => rep_mem hc, by rw [rep_len, Nat.mul_comm]; exact hl⟩⟩
theorem r2_mulL {x : List τ} {y : Nat} {r : Rel τ} (h : y < 1000000) (hl : x.length * y ≤ lim) : Rn2 gMul (rL r) x rN y (rL r) (List.replicate y x).flatten := fun M st d1 d2 q k => by
  obtain ⟨a, h1, h2, h3⟩ := rL_at.mp q
  rw [rN_at.mp k]
  have e1 := h1.items
  have g : gMul d1 (.int (y : Int)) st = .ok (.lst (List.replicate y a).flatten) st := by
    have hc : (y : Int).natAbs < 1000000 ∧ a.length * (y : Int).toNat ≤ lim := ⟨by omega, by rw [h3.len]; simpa using hl⟩
    rcases h1 with rfl | ⟨i, rfl, _⟩
    · unfold gMul; simp only [e1]; rw [if_pos hc, repL_nat]
    · unfold gMul; simp only [e1]; rw [if_pos hc, repL_nat]
  exact ⟨_, g, rL_at.mpr ⟨_, .inl rfl, by rw [rep_len, Nat.mul_comm]; exact hl, h3.rep y⟩⟩
theorem r2_divN {x y : Nat} (h : 0 < y) (h2 : y < 18446744073709551616) : Rn2 gDiv rN x rN y rN (x / y) := fun M st d1 d2 q k => by
  rw [rN_at.mp q, rN_at.mp k]
  exact ⟨_, gDiv_int (by omega) (by omega), rN_at.mpr (by simp)⟩
theorem r2_modN {x y : Nat} (h : 0 < y) : Rn2 gMod rN x rN y rN (x % y) := fun M st d1 d2 q k => by
  rw [rN_at.mp q, rN_at.mp k]
  exact ⟨_, gMod_int (by omega), rN_at.mpr (by simp)⟩
theorem r2_divI {x y : Int} (h : 0 < y) (h2 : y < 18446744073709551616) : Rn2 gDiv rI x rI y rI (x / y) := fun M st d1 d2 q k => by
  rw [rI_at.mp q, rI_at.mp k]
  exact ⟨_, gDiv_int h h2, rI_at.mpr rfl⟩
theorem r2_modI {x y : Int} (h : 0 < y) : Rn2 gMod rI x rI y rI (x % y) := fun M st d1 d2 q k => by
  rw [rI_at.mp q, rI_at.mp k]
  exact ⟨_, gMod_int h, rI_at.mpr rfl⟩
theorem r2_ltN {x y : Nat} : Rn2 gLt rN x rN y rB (decide (x < y)) := fun M st d1 d2 q k => by
  rw [rN_at.mp q, rN_at.mp k]; exact ⟨_, rfl, rB_at.mpr (by simp)⟩
theorem r2_leN {x y : Nat} : Rn2 gLe rN x rN y rB (decide (x ≤ y)) := fun M st d1 d2 q k => by
  rw [rN_at.mp q, rN_at.mp k]; exact ⟨_, rfl, rB_at.mpr (by simp)⟩
theorem r2_gtN {x y : Nat} : Rn2 gGt rN x rN y rB (decide (y < x)) := fun M st d1 d2 q k => by
  rw [rN_at.mp q, rN_at.mp k]; exact ⟨_, rfl, rB_at.mpr (by simp)⟩
theorem r2_geN {x y : Nat} : Rn2 gGe rN x rN y rB (decide (y ≤ x)) := fun M st d1 d2 q k => by
  rw [rN_at.mp q, rN_at.mp k]; exact ⟨_, rfl, rB_at.mpr (by simp)⟩
theorem r2_ltI {x y : Int} : Rn2 gLt rI x rI y rB (decide (x < y)) := fun M st d1 d2 q k => by
  rw [rI_at.mp q, rI_at.mp k]; exact ⟨_, rfl, rB_at.mpr rfl⟩
theorem r2_leI {x y : Int} : Rn2 gLe rI x rI y rB (decide (x ≤ y)) := fun M st d1 d2 q k => by
  rw [rI_at.mp q, rI_at.mp k]; exact ⟨_, rfl, rB_at.mpr rfl⟩
theorem r2_gtI {x y : Int} : Rn2 gGt rI x rI y rB (decide (y < x)) := fun M st d1 d2 q k => by
  rw [rI_at.mp q, rI_at.mp k]; exact ⟨_, rfl, rB_at.mpr rfl⟩
theorem r2_geI {x y : Int} : Rn2 gGe rI x rI y rB (decide (y ≤ x)) := fun M st d1 d2 q k => by
  rw [rI_at.mp q, rI_at.mp k]; exact ⟨_, rfl, rB_at.mpr rfl⟩
theorem r2_ltS {x y : List Nat} : Rn2 gLt rS x rS y rB (decide (x < y)) := fun M st d1 d2 q k => by
  rw [(rS_at.mp q).1, (rS_at.mp k).1]; exact ⟨_, rfl, rB_at.mpr rfl⟩
theorem r2_leS {x y : List Nat} : Rn2 gLe rS x rS y rB (!decide (y < x)) := fun M st d1 d2 q k => by
  rw [(rS_at.mp q).1, (rS_at.mp k).1]; exact ⟨_, rfl, rB_at.mpr rfl⟩
theorem r2_gtS {x y : List Nat} : Rn2 gGt rS x rS y rB (decide (y < x)) := fun M st d1 d2 q k => by
  rw [(rS_at.mp q).1, (rS_at.mp k).1]; exact ⟨_, rfl, rB_at.mpr rfl⟩
theorem r2_geS {x y : List Nat} : Rn2 gGe rS x rS y rB (!decide (x < y)) := fun M st d1 d2 q k => by
  rw [(rS_at.mp q).1, (rS_at.mp k).1]; exact ⟨_, rfl, rB_at.mpr rfl⟩
theorem eqv_dec {r : Rel τ} [RelPy r] [DecidableEq τ] (a b : τ) : PyData.eqv (RelPy.py r a) (RelPy.py r b) = decide (a = b) := by
  have := RelPy.inj (r := r) a b
  by_cases h : a = b
  · rw [decide_eq_true h]; exact this.mpr h
  · rw [decide_eq_false h]
    cases e : PyData.eqv (RelPy.py r a) (RelPy.py r b) with
    | false => rfl
    | true => exact absurd (this.mp e) h
theorem to40 {r : Rel τ} [p : RelPy r] {v : τ} (hd : RelPy.dep r ≤ 40) (h : r.at_ M st d v) : toPy st 40 d = some (RelPy.py r v) := by
  have := RelPy.to (n := 40 - RelPy.dep r) h
  rwa [Nat.sub_add_cancel hd] at this
theorem r2_eq {r : Rel τ} [RelPy r] [DecidableEq τ] {x y : τ} (hd : RelPy.dep r ≤ 40 := by decide) : Rn2 gEq r x r y rB (decide (x = y)) := fun M st d1 d2 q k => by
  refine ⟨.bl (decide (x = y)), ?_, rB_at.mpr rfl⟩
  unfold gEq gEqN
  rw [to40 hd q, to40 hd k]
  show R.ok (D.bl (false != PyData.eqv _ _)) st = _
  rw [eqv_dec]
  simp
theorem r2_ne {r : Rel τ} [RelPy r] [DecidableEq τ] {x y : τ} (hd : RelPy.dep r ≤ 40 := by decide) : Rn2 gNe r x r y rB (!decide (x = y)) := fun M st d1 d2 q k => by
  refine ⟨.bl (!decide (x = y)), ?_, rB_at.mpr rfl⟩
  unfold gNe gEqN
  rw [to40 hd q, to40 hd k]
  show R.ok (D.bl (true != PyData.eqv _ _)) st = _
  rw [eqv_dec]
  simp
/-- with a bare list -/
theorem toNil : toPy st 40 (.lst []) = some (.list []) := rfl
theorem any_eqv {r : Rel τ} [RelPy r] [DecidableEq τ] {x : τ} : ∀ {xs : List τ}, ((xs.map (RelPy.py r)).any fun z => PyData.eqv z (RelPy.py r x)) = decide (x ∈ xs)
  | [] => by simp
  | y :: ys => by
    rw [List.map_cons, List.any_cons, eqv_dec, any_eqv (xs := ys)]
    by_cases h : y = x
    · simp [h]
    · simp [h, Ne.symm h]
theorem inD_at {r : Rel τ} [RelPy r] [DecidableEq τ] {x : τ} {xs : List τ} {d1 d2 : D} (hd : RelPy.dep r ≤ 39) (q : r.at_ M st d1 x) (k : (rL r).at_ M st d2 xs) : inD st d1 d2 = some (decide (x ∈ xs)) := by
  have e1 := to40 (Nat.le_succ_of_le hd) q
  have e2 := to40 (r := rL r) (by show RelPy.dep r + 1 ≤ 40; omega) k
  have e3 : (match toPy st 40 d1, toPy st 40 d2 with
    | some p, some (.list ds) => some (ds.any fun z => PyData.eqv z p)
    | _, _ => none) = some (decide (x ∈ xs)) := by
    rw [e1, e2]
    show some _ = _
    rw [any_eqv]
  obtain ⟨ds, h1, _, _⟩ := rL_at.mp k
  rcases h1 with rfl | ⟨i, rfl, _⟩ <;> (unfold inD; split <;> first
    | (rename_i e; cases e)
    | exact e3)
theorem r2_in {r : Rel τ} [RelPy r] [DecidableEq τ] {x : τ} {xs : List τ} (hd : RelPy.dep r ≤ 39 := by decide) : Rn2 gIn r x (rL r) xs rB (decide (x ∈ xs)) := fun M st d1 d2 q k => by
  refine ⟨_, ?_, rB_at.mpr rfl⟩
  unfold gIn
  rw [inD_at hd q k]
theorem r2_notIn {r : Rel τ} [RelPy r] [DecidableEq τ] {x : τ} {xs : List τ} (hd : RelPy.dep r ≤ 39 := by decide) : Rn2 gNotIn r x (rL r) xs rB (!decide (x ∈ xs)) := fun M st d1 d2 q k => by
  refine ⟨_, ?_, rB_at.mpr rfl⟩
  unfold gNotIn
  rw [inD_at hd q k]
/-- a sign of a text -/
theorem r2_inC {c : Nat} {s : List Nat} : Rn2 gIn rS [c] rS s rB (decide (c ∈ s)) := fun M st d1 d2 q k => by
  rw [(rS_at.mp q).1, (rS_at.mp k).1]; exact ⟨_, rfl, rB_at.mpr rfl⟩
theorem r2_notInC {c : Nat} {s : List Nat} : Rn2 gNotIn rS [c] rS s rB (!decide (c ∈ s)) := fun M st d1 d2 q k => by
  rw [(rS_at.mp q).1, (rS_at.mp k).1]; exact ⟨_, rfl, rB_at.mpr rfl⟩
/-! ### places and pieces -/
theorem r2_ixS {s : List Nat} {k : Nat} {c : Nat} (h : s[k]? = some c) : Rn2 gIx rS s rN k rS [c] := fun M st d1 d2 q p => by
  obtain ⟨rfl, h1, h2⟩ := rS_at.mp q
  rw [rN_at.mp p]
  exact ⟨_, gIx_str h2 (by rw [atI_nat, h]), rS_at.mpr ⟨rfl, okT_one h1 (List.mem_of_getElem? h), by unfold lim; simp⟩⟩
theorem gIx_at {xs : List D} {y : Int} {e : D} (h : ItAt M st d xs) (hy : atI xs y = some e) : gIx d (.int y) st = .ok e st := by
  rcases h with rfl | ⟨k, rfl, _, hk⟩
  · exact gIx_lst hy
  · exact gIx_cel hk hy
theorem r2_ixL {xs : List τ} {r : Rel τ} {k : Nat} {x : τ} (h : xs[k]? = some x) : Rn2 gIx (rL r) xs rN k r x := fun M st d1 d2 q p => by
  obtain ⟨ds, h1, h2, h3⟩ := rL_at.mp q
  rw [rN_at.mp p]
  obtain ⟨e, e1, e2⟩ := h3.get h
  exact ⟨e, gIx_at h1 (by rw [atI_nat, e1]), e2⟩
theorem r2_ixTL {xs : List τ} {r : Rel τ} {k : Nat} {x : τ} (h : xs[k]? = some x) : Rn2 gIx (rTL r) xs rN k r x := fun M st d1 d2 q p => by
  obtain ⟨ds, rfl, h2, h3⟩ := rTL_at.mp q
  rw [rN_at.mp p]
  obtain ⟨e, e1, e2⟩ := h3.get h
  exact ⟨e, gIx_tup (by rw [atI_nat, e1]), e2⟩
theorem A2.last {R : D → τ → Prop} {ds : List D} {xs : List τ} {x : τ} (h : A2 R ds xs) (e : xs.getLast? = some x) : ∃ d, ds.getLast? = some d ∧ R d x := by
  rw [List.getLast?_eq_getElem?] at e ⊢
  rw [h.len]
  exact h.get e
theorem r2_lastL {xs : List τ} {r : Rel τ} {x : τ} (h : xs.getLast? = some x) : Rn2 gIx (rL r) xs rI (-1) r x := fun M st d1 d2 q p => by
  obtain ⟨ds, h1, h2, h3⟩ := rL_at.mp q
  rw [rI_at.mp p]
  obtain ⟨e, e1, e2⟩ := h3.last h
  exact ⟨e, gIx_at h1 (by rw [atI_last, e1]), e2⟩
theorem r2_lastS {s : List Nat} {c : Nat} (h : s.getLast? = some c) : Rn2 gIx rS s rI (-1) rS [c] := fun M st d1 d2 q p => by
  obtain ⟨rfl, h1, h2⟩ := rS_at.mp q
  rw [rI_at.mp p]
  exact ⟨_, gIx_str h2 (by rw [atI_last, h]), rS_at.mpr ⟨rfl, okT_one h1 (List.mem_of_getLast? h), by unfold lim; simp⟩⟩
theorem r2_fst {r : Rel α} {s : Rel β} {x : α × β} : Rn2 gIx (rP r s) x rN 0 r x.1 := fun M st d1 d2 q p => by
  obtain ⟨a, b, rfl, a1, a2⟩ := rP_at.mp q
  rw [rN_at.mp p]
  exact ⟨a, rfl, a1⟩
theorem r2_snd {r : Rel α} {s : Rel β} {x : α × β} : Rn2 gIx (rP r s) x rN 1 s x.2 := fun M st d1 d2 q p => by
  obtain ⟨a, b, rfl, a1, a2⟩ := rP_at.mp q
  rw [rN_at.mp p]
  exact ⟨b, rfl, a2⟩
theorem r2_t0 {r : Rel α} {s : Rel β} {t : Rel γ} {x : α × β × γ} : Rn2 gIx (rT r s t) x rN 0 r x.1 := fun M st d1 d2 q p => by
  obtain ⟨a, b, c, rfl, a1, a2, a3⟩ := rT_at.mp q
  rw [rN_at.mp p]
  exact ⟨a, rfl, a1⟩
theorem r2_t1 {r : Rel α} {s : Rel β} {t : Rel γ} {x : α × β × γ} : Rn2 gIx (rT r s t) x rN 1 s x.2.1 := fun M st d1 d2 q p => by
  obtain ⟨a, b, c, rfl, a1, a2, a3⟩ := rT_at.mp q
  rw [rN_at.mp p]
  exact ⟨b, rfl, a2⟩
theorem r2_t2 {r : Rel α} {s : Rel β} {t : Rel γ} {x : α × β × γ} : Rn2 gIx (rT r s t) x rN 2 t x.2.2 := fun M st d1 d2 q p => by
  obtain ⟨a, b, c, rfl, a1, a2, a3⟩ := rT_at.mp q
  rw [rN_at.mp p]
  exact ⟨c, rfl, a3⟩
theorem Ex.neg {f : FE} {n : Int} (h : Ex Γ f rI n) : Ex Γ (fNeg f) rI (-n) := fun M ρ st q => by
  obtain ⟨d, st1, e1, p1, a1⟩ := h M ρ st q
  rw [rI_at.mp a1] at e1
  exact ⟨_, st1, by simp [e1], p1, rI_at.mpr rfl⟩
theorem ExO.no : ExO Γ foNone none := fun M ρ st q => ⟨st, rfl, List.prefix_rfl⟩
theorem ExO.nat {f : FE} {n : Nat} (h : Ex Γ f rN n) : ExO Γ (foSome f) (some (n : Int)) := fun M ρ st q => by
  obtain ⟨d, st1, e1, p1, a1⟩ := h M ρ st q
  rw [rN_at.mp a1] at e1
  exact ⟨st1, by simp [e1], p1⟩
theorem ExO.int {f : FE} {n : Int} (h : Ex Γ f rI n) : ExO Γ (foSome f) (some n) := fun M ρ st q => by
  obtain ⟨d, st1, e1, p1, a1⟩ := h M ρ st q
  rw [rI_at.mp a1] at e1
  exact ⟨st1, by simp [e1], p1⟩
theorem cut_mem {α : Type} {xs : List α} {lo hi : Option Int} {x : α} (h : x ∈ cut xs lo hi) : x ∈ xs := List.mem_of_mem_drop (List.mem_of_mem_take h)
theorem cut_len {α : Type} {xs : List α} {lo hi : Option Int} : (cut xs lo hi).length ≤ xs.length := by unfold cut; rw [List.length_take, List.length_drop]; omega
theorem Ex.cutS {f : FE} {l u : FO} {s : List Nat} {lo hi : Option Int} (h : Ex Γ f rS s) (k : ExO Γ l lo) (k2 : ExO Γ u hi) : Ex Γ (fCut f l u) rS (cut s lo hi) := fun M ρ st q => by
  obtain ⟨d, st1, e1, p1, a1⟩ := h M ρ st q
  obtain ⟨st2, e2, p2⟩ := k M ρ st1 (q.pre p1)
  obtain ⟨st3, e3, p3⟩ := k2 M ρ st2 (q.pre (p1.trans p2))
  obtain ⟨rfl, h1, h2⟩ := rS_at.mp a1
  exact ⟨_, st3, by simp [e1, e2, e3, gCut_str h2], (p1.trans p2).trans p3, rS_at.mpr ⟨rfl, okT_mem h1 fun c hc => cut_mem hc, Nat.le_trans cut_len h2⟩⟩
theorem A2.cut {R : D → τ → Prop} {ds : List D} {xs : List τ} (h : A2 R ds xs) {lo hi : Option Int} : A2 R (FL.cut ds lo hi) (FL.cut xs lo hi) := by
  unfold FL.cut
  rw [h.len]
  exact (h.drop _).take _
theorem Ex.cutL {f : FE} {l u : FO} {r : Rel τ} {s : List τ} {lo hi : Option Int} (h : Ex Γ f (rL r) s) (k : ExO Γ l lo) (k2 : ExO Γ u hi) : Ex Γ (fCut f l u) (rL r) (cut s lo hi) := fun M ρ st q => by
  obtain ⟨d, st1, e1, p1, a1⟩ := h M ρ st q
  obtain ⟨st2, e2, p2⟩ := k M ρ st1 (q.pre p1)
  obtain ⟨st3, e3, p3⟩ := k2 M ρ st2 (q.pre (p1.trans p2))
  obtain ⟨ds, h1, h2, h3⟩ := rL_at.mp ((rL r).pre (p2.trans p3) a1)
  have g : gCut d lo hi st3 = .ok (.lst (cut ds lo hi)) st3 := by
    have e := h1.itemsR
    rcases h1 with rfl | ⟨i, rfl, _⟩ <;> (unfold gCut; simp only [e])
  exact ⟨_, st3, by simp [e1, e2, e3, g], (p1.trans p2).trans p3, rL_at.mpr ⟨_, .inl rfl, Nat.le_trans cut_len h2, h3.cut⟩⟩
theorem Ex.drS {f : FE} {u : FE} {s : List Nat} {n : Nat} (h : Ex Γ f rS s) (k : Ex Γ u rN n) : Ex Γ (fCut f (foSome u) foNone) rS (s.drop n) := by
  have := Ex.cutS h (ExO.nat k) ExO.no
  rwa [cut_drop] at this
theorem Ex.tkS {f : FE} {u : FE} {s : List Nat} {n : Nat} (h : Ex Γ f rS s) (k : Ex Γ u rN n) : Ex Γ (fCut f foNone (foSome u)) rS (s.take n) := by
  have := Ex.cutS h ExO.no (ExO.nat k)
  rwa [cut_take] at this
theorem Ex.mdS {f : FE} {u w : FE} {s : List Nat} {m n : Nat} (h : Ex Γ f rS s) (k : Ex Γ u rN m) (k2 : Ex Γ w rN n) : Ex Γ (fCut f (foSome u) (foSome w)) rS ((s.drop m).take (n - m)) := by
  have := Ex.cutS h (ExO.nat k) (ExO.nat k2)
  rwa [cut_mid] at this
theorem Ex.drL {f : FE} {u : FE} {r : Rel τ} {s : List τ} {n : Nat} (h : Ex Γ f (rL r) s) (k : Ex Γ u rN n) : Ex Γ (fCut f (foSome u) foNone) (rL r) (s.drop n) := by
  have := Ex.cutL h (ExO.nat k) ExO.no
  rwa [cut_drop] at this
theorem Ex.tkL {f : FE} {u : FE} {r : Rel τ} {s : List τ} {n : Nat} (h : Ex Γ f (rL r) s) (k : Ex Γ u rN n) : Ex Γ (fCut f foNone (foSome u)) (rL r) (s.take n) := by
  have := Ex.cutL h ExO.no (ExO.nat k)
  rwa [cut_take] at this
theorem Ex.mdL {f : FE} {u w : FE} {r : Rel τ} {s : List τ} {m n : Nat} (h : Ex Γ f (rL r) s) (k : Ex Γ u rN m) (k2 : Ex Γ w rN n) : Ex Γ (fCut f (foSome u) (foSome w)) (rL r) ((s.drop m).take (n - m)) := by
  have := Ex.cutL h (ExO.nat k) (ExO.nat k2)
  rwa [cut_mid] at this
theorem Ex.revS {f : FE} {s : List Nat} (h : Ex Γ f rS s) : Ex Γ (fRev f) rS s.reverse := fun M ρ st q => by
  obtain ⟨d, st1, e1, p1, a1⟩ := h M ρ st q
  obtain ⟨rfl, h1, h2⟩ := rS_at.mp a1
  have g : gRev (.str s) st1 = .ok (.str s.reverse) st1 := by
    show (if s.length ≤ lim then _ else _) = _
    rw [if_pos h2]
  exact ⟨_, st1, by simp [e1, g], p1, rS_at.mpr ⟨rfl, okT_mem h1 fun c hc => List.mem_reverse.mp hc, by simpa using h2⟩⟩
theorem Ex.revL {f : FE} {r : Rel τ} {s : List τ} (h : Ex Γ f (rL r) s) : Ex Γ (fRev f) (rL r) s.reverse := fun M ρ st q => by
  obtain ⟨d, st1, e1, p1, a1⟩ := h M ρ st q
  obtain ⟨ds, h1, h2, h3⟩ := rL_at.mp a1
  have g : gRev d st1 = .ok (.lst ds.reverse) st1 := by
    have e := h1.itemsR
    rcases h1 with rfl | ⟨i, rfl, _⟩ <;> (unfold gRev; simp only [e])
  exact ⟨_, st1, by simp [e1, g], p1, rL_at.mpr ⟨_, .inl rfl, by simpa using h2, h3.rev⟩⟩
/-! ### built-ins -/
theorem SL.one {ds : List D} {r : Rel τ} {v : τ} (h : SL M st ds [⟨r, v⟩]) : ∃ d, ds = [d] ∧ r.at_ M st d v := by
  cases h with
  | cons a h => cases h; exact ⟨_, rfl, a⟩
theorem SL.two {ds : List D} {r : Rel α} {x : α} {s : Rel β} {y : β} (h : SL M st ds [⟨r, x⟩, ⟨s, y⟩]) : ∃ d e, ds = [d, e] ∧ r.at_ M st d x ∧ s.at_ M st e y := by
  cases h with
  | cons a h =>
    obtain ⟨e, rfl, b⟩ := h.one
    exact ⟨_, _, rfl, a, b⟩
theorem SL.three {ds : List D} {r : Rel α} {x : α} {s : Rel β} {y : β} {t : Rel γ} {z : γ} (h : SL M st ds [⟨r, x⟩, ⟨s, y⟩, ⟨t, z⟩]) : ∃ d e f, ds = [d, e, f] ∧ r.at_ M st d x ∧ s.at_ M st e y ∧ t.at_ M st f z := by
  cases h with
  | cons a h =>
    obtain ⟨e, f, rfl, b, c⟩ := h.two
    exact ⟨_, _, _, rfl, a, b, c⟩
theorem SL.four {ds : List D} {r : Rel α} {x : α} {s : Rel β} {y : β} {t : Rel γ} {z : γ} {u : Rel δ} {w : δ} (h : SL M st ds [⟨r, x⟩, ⟨s, y⟩, ⟨t, z⟩, ⟨u, w⟩]) : ∃ d e f g, ds = [d, e, f, g] ∧ r.at_ M st d x ∧ s.at_ M st e y ∧ t.at_ M st f z ∧ u.at_ M st g w := by
  cases h with
  | cons a h =>
    obtain ⟨e, f, g, rfl, b, c, d⟩ := h.three
    exact ⟨_, _, _, _, rfl, a, b, c, d⟩
theorem run_lenS {s : List Nat} : Rn kLen [⟨rS, s⟩] rN s.length := fun M st ds hm h => by
  obtain ⟨d, rfl, a⟩ := h.one
  obtain ⟨rfl, h1, h2⟩ := rS_at.mp a
  exact ⟨_, st, kLen_str h2, List.prefix_rfl, rN_at.mpr rfl⟩
theorem run_lenL {xs : List τ} {r : Rel τ} : Rn kLen [⟨rL r, xs⟩] rN xs.length := fun M st ds hm h => by
  obtain ⟨d, rfl, a⟩ := h.one
  obtain ⟨es, h1, h2, h3⟩ := rL_at.mp a
  refine ⟨.int es.length, st, ?_, List.prefix_rfl, rN_at.mpr (by rw [h3.len])⟩
  rcases h1 with rfl | ⟨i, rfl, _, hk⟩
  · rfl
  · exact kLen_cel hk
theorem run_lenTL {xs : List τ} {r : Rel τ} : Rn kLen [⟨rTL r, xs⟩] rN xs.length := fun M st ds hm h => by
  obtain ⟨d, rfl, a⟩ := h.one
  obtain ⟨es, rfl, h2, h3⟩ := rTL_at.mp a
  exact ⟨.int es.length, st, rfl, List.prefix_rfl, rN_at.mpr (by rw [h3.len])⟩
theorem run_lenD {r : Rel α} {s : Rel β} {xs : List (α × β)} : Rn kLen [⟨rD r s, xs⟩] rN xs.length := fun M st ds hm h => by
  obtain ⟨d, rfl, a⟩ := h.one
  obtain ⟨es, h1, h2, h3⟩ := rD_at.mp a
  refine ⟨.int es.length, st, ?_, List.prefix_rfl, rN_at.mpr (by rw [h3.len])⟩
  rcases h1 with rfl | ⟨i, rfl, _, hk⟩
  · rfl
  · unfold kLen
    have : itemsS st (.cel i) = none := by
      unfold itemsS itemsR items
      simp only [hk]
    simp only [this, hk]
theorem run_listS {s : List Nat} : Rn kList [⟨rS, s⟩] (rL rS) (s.map fun c => [c]) := fun M st ds hm h => by
  obtain ⟨d, rfl, a⟩ := h.one
  obtain ⟨rfl, h1, h2⟩ := rS_at.mp a
  exact ⟨_, st, kList_str' h2, List.prefix_rfl, rL_at.mpr ⟨_, .inl rfl, by simpa using h2, A2.map fun c hc => rS_at.mpr ⟨rfl, okT_one h1 hc, by unfold lim; simp⟩⟩⟩
where
  kList_str' {st : Sto} {s : List Nat} (h : s.length ≤ lim) : kList [.str s] st = .ok (.lst (s.map fun c => .str [c])) st := by
    show (if s.length ≤ lim then _ else _) = _
    rw [if_pos h]
theorem run_listL {xs : List τ} {r : Rel τ} : Rn kList [⟨rL r, xs⟩] (rL r) xs := fun M st ds hm h => by
  obtain ⟨d, rfl, a⟩ := h.one
  obtain ⟨es, h1, h2, h3⟩ := rL_at.mp a
  refine ⟨.lst es, st, ?_, List.prefix_rfl, rL_at.mpr ⟨_, .inl rfl, h2, h3⟩⟩
  have e := h1.itemsS
  rcases h1 with rfl | ⟨i, rfl, _, hk⟩ <;> (unfold kList; simp only [e])
theorem run_sumN {xs : List Nat} : Rn kSum [⟨rL rN, xs⟩] rN xs.sum := fun M st ds hm h => by
  obtain ⟨d, rfl, a⟩ := h.one
  obtain ⟨es, h1, h2, h3⟩ := rL_at.mp a
  have e : es = (xs.map fun n : Nat => (n : Int)).map D.int := by
    rw [List.map_map]; exact h3.eq_map fun d x q => rN_at.mp q
  refine ⟨_, st, ?_, List.prefix_rfl, rN_at.mpr rfl⟩
  have hs : (xs.map fun n : Nat => (n : Int)).sum = (xs.sum : Nat) := by
    clear h h2 h3 e a
    induction xs with
    | nil => rfl
    | cons x xs ih => rw [List.map_cons, List.sum_cons, List.sum_cons, ih]; simp
  unfold kSum
  simp only [h1.itemsR, Option.bind_some, e, intsOf_map, hs]
theorem run_sumI {xs : List Int} : Rn kSum [⟨rL rI, xs⟩] rI xs.sum := fun M st ds hm h => by
  obtain ⟨d, rfl, a⟩ := h.one
  obtain ⟨es, h1, h2, h3⟩ := rL_at.mp a
  have e : es = xs.map D.int := h3.eq_map fun d x q => rI_at.mp q
  refine ⟨_, st, ?_, List.prefix_rfl, rI_at.mpr rfl⟩
  unfold kSum
  simp only [h1.itemsR, Option.bind_some, e, intsOf_map]
theorem run_all {xs : List Bool} : Rn kAll [⟨rL rB, xs⟩] rB (xs.all id) := fun M st ds hm h => by
  obtain ⟨d, rfl, a⟩ := h.one
  obtain ⟨es, h1, h2, h3⟩ := rL_at.mp a
  have e : es = xs.map D.bl := h3.eq_map fun d x q => rB_at.mp q
  refine ⟨_, st, ?_, List.prefix_rfl, rB_at.mpr rfl⟩
  unfold kAll
  simp only [h1.itemsR, Option.bind_some, e, blsOf_map]
theorem run_any {xs : List Bool} : Rn kAny [⟨rL rB, xs⟩] rB (xs.any id) := fun M st ds hm h => by
  obtain ⟨d, rfl, a⟩ := h.one
  obtain ⟨es, h1, h2, h3⟩ := rL_at.mp a
  have e : es = xs.map D.bl := h3.eq_map fun d x q => rB_at.mp q
  refine ⟨_, st, ?_, List.prefix_rfl, rB_at.mpr rfl⟩
  unfold kAny
  simp only [h1.itemsR, Option.bind_some, e, blsOf_map]
theorem run_maxN {x y : Nat} : Rn kMax [⟨rN, x⟩, ⟨rN, y⟩] rN (max x y) := fun M st ds hm h => by
  obtain ⟨d, e, rfl, a, b⟩ := h.two
  rw [rN_at.mp a, rN_at.mp b]
  exact ⟨_, st, rfl, List.prefix_rfl, rN_at.mpr (by congr 1; omega)⟩
theorem run_minN {x y : Nat} : Rn kMin [⟨rN, x⟩, ⟨rN, y⟩] rN (min x y) := fun M st ds hm h => by
  obtain ⟨d, e, rfl, a, b⟩ := h.two
  rw [rN_at.mp a, rN_at.mp b]
  exact ⟨_, st, rfl, List.prefix_rfl, rN_at.mpr (by congr 1; omega)⟩
theorem run_minAN {x y : Nat} : Rn kMinA [⟨rN, x⟩, ⟨rN, y⟩] rN (min x y) := fun M st ds hm h => by
  obtain ⟨d, e, rfl, a, b⟩ := h.two
  rw [rN_at.mp a, rN_at.mp b]
  exact ⟨_, st, rfl, List.prefix_rfl, rN_at.mpr (by congr 1; omega)⟩
theorem A2.strs {ds : List D} {xs : List (List Nat)} (h : A2 (rS.at_ M st) ds xs) : ds = xs.map D.str := A2.eq_map (p := D.str) (fun d x q => (rS_at.mp q).1) h
theorem A2.oks {ds : List D} {xs : List (List Nat)} (h : A2 (rS.at_ M st) ds xs) : ∀ s ∈ xs, okT s ∧ s.length ≤ lim := fun s hs => by
  obtain ⟨d, _, a⟩ := h.memr s hs
  exact (rS_at.mp a).2
theorem strs_A2 {xs : List (List Nat)} (h : ∀ s ∈ xs, okT s ∧ s.length ≤ lim) : A2 (rS.at_ M st) (xs.map D.str) xs := A2.map_l fun s hs => rS_at.mpr ⟨rfl, h s hs⟩
theorem run_sortS {xs : List (List Nat)} : Rn kSorted [⟨rL rS, xs⟩] (rL rS) (srt leS xs) := fun M st ds hm h => by
  obtain ⟨d, rfl, a⟩ := h.one
  obtain ⟨es, h1, h2, h3⟩ := rL_at.mp a
  refine ⟨.lst ((srt leS xs).map D.str), st, ?_, List.prefix_rfl, rL_at.mpr ⟨_, .inl rfl, by rw [(srt_perm xs).length_eq]; exact h2, strs_A2 fun s hs => h3.oks s ((srt_perm xs).mem_iff.mp hs)⟩⟩
  unfold kSorted
  simp only [h1.itemsR, h3.strs, strsOf_map]
theorem run_sortSC {xs : List (List Nat)} : Rn (kCell kSorted) [⟨rL rS, xs⟩] (rL rS) (srt leS xs) := fun M st ds hm h => by
  obtain ⟨d, rfl, a⟩ := h.one
  obtain ⟨es, h1, h2, h3⟩ := rL_at.mp a
  refine ⟨.cel st.length, st ++ [.lst ((srt leS xs).map D.str)], ?_, pre_snoc, cel_new hm (strs_A2 fun s hs => h3.oks s ((srt_perm xs).mem_iff.mp hs)) (by rw [(srt_perm xs).length_eq]; exact h2)⟩
  unfold kCell kSorted
  simp only [h1.itemsR, h3.strs, strsOf_map]
theorem run_listLC {xs : List τ} {r : Rel τ} : Rn (kCell kList) [⟨rL r, xs⟩] (rL r) xs := fun M st ds hm h => by
  obtain ⟨d, rfl, a⟩ := h.one
  obtain ⟨es, h1, h2, h3⟩ := rL_at.mp a
  refine ⟨.cel st.length, st ++ [.lst es], ?_, pre_snoc, cel_new hm h3 h2⟩
  have e := h1.itemsS
  rcases h1 with rfl | ⟨i, rfl, _, hk⟩ <;> (unfold kCell kList; simp only [e])
theorem run_minS {s : List Nat} {ss : List (List Nat)} : Rn kMinA [⟨rL rS, s :: ss⟩] rS (minL s ss) := fun M st ds hm h => by
  obtain ⟨d, rfl, a⟩ := h.one
  obtain ⟨es, h1, h2, h3⟩ := rL_at.mp a
  have mem : ∀ (ss : List (List Nat)) (s : List Nat), minL s ss ∈ s :: ss := fun ss => by
    induction ss with
    | nil => intro s; exact List.mem_cons_self
    | cons t ts ih =>
      intro s
      show minL (if t < s then t else s) ts ∈ _
      have := ih (if t < s then t else s)
      rcases List.mem_cons.mp this with e | e
      · rw [e]; split
        · exact List.mem_cons_of_mem _ List.mem_cons_self
        · exact List.mem_cons_self
      · exact List.mem_cons_of_mem _ (List.mem_cons_of_mem _ e)
  refine ⟨.str (minL s ss), st, ?_, List.prefix_rfl, rS_at.mpr ⟨rfl, h3.oks _ (mem ss s)⟩⟩
  have e := h1.itemsR
  unfold kMinA
  rw [h3.strs] at e
  rcases h1 with rfl | ⟨i, rfl, _, hk⟩ <;> simp only [e, strsOf_map]
theorem mapM_items {r : Rel τ} {ds : List D} {xss : List (List τ)} (h : A2 ((rL r).at_ M st) ds xss) : ∃ zss, ds.mapM (items st) = some zss ∧ A2 (A2 (r.at_ M st)) zss xss := by
  induction h with
  | nil => exact ⟨[], rfl, .nil⟩
  | cons a h ih =>
    obtain ⟨zss, e, k⟩ := ih
    obtain ⟨es, h1, h2, h3⟩ := rL_at.mp a
    exact ⟨es :: zss, by rw [List.mapM_cons, h1.items, e]; rfl, .cons h3 k⟩
theorem run_sumL {r : Rel τ} {xss : List (List τ)} {ys : List τ} (hl : (ys ++ xss.flatten).length ≤ lim) : Rn kSumA [⟨rL (rL r), xss⟩, ⟨rL r, ys⟩] (rL r) (ys ++ xss.flatten) := fun M st ds hm h => by
  obtain ⟨d, e, rfl, a, b⟩ := h.two
  obtain ⟨es, h1, h2, h3⟩ := rL_at.mp a
  obtain ⟨fs, k1, k2, k3⟩ := rL_at.mp b
  obtain ⟨zss, e1, e2⟩ := mapM_items h3
  have hz : (fs ++ zss.flatten).length ≤ lim := by rw [(k3.app e2.flat).len]; exact hl
  by_cases h0 : zss = []
  · subst h0
    cases e2
    refine ⟨e, st, ?_, List.prefix_rfl, by simpa using b⟩
    unfold kSumA
    simp only [h1.itemsR, Option.bind_some, e1, k1.items]
    rw [if_pos hz]
    rfl
  · refine ⟨.lst (fs ++ zss.flatten), st, ?_, List.prefix_rfl, rL_at.mpr ⟨_, .inl rfl, hl, k3.app e2.flat⟩⟩
    unfold kSumA
    simp only [h1.itemsR, Option.bind_some, e1, k1.items]
    rw [if_pos hz, if_neg (by simpa using h0)]
theorem run_sumAN {xs : List Nat} : Rn kSumA [⟨rL rN, xs⟩] rN xs.sum := fun M st ds hm h => by
  obtain ⟨d, st', e, p, a⟩ := run_sumN M st ds hm h
  obtain ⟨d1, rfl, _⟩ := h.one
  exact ⟨d, st', e, p, a⟩
theorem run_sumAI {xs : List Int} : Rn kSumA [⟨rL rI, xs⟩] rI xs.sum := fun M st ds hm h => by
  obtain ⟨d, st', e, p, a⟩ := run_sumI M st ds hm h
  obtain ⟨d1, rfl, _⟩ := h.one
  exact ⟨d, st', e, p, a⟩
theorem joinS_len (s : List Nat) : ∀ ss : List (List Nat), (joinS s ss).length ≤ (ss.map List.length).sum + ss.length * s.length
  | [] => by simp [joinS]
  | [a] => by simp [joinS]
  | a :: b :: r => by
    have ih := joinS_len s (b :: r)
    rw [joinS]
    simp only [List.length_append, List.map_cons, List.sum_cons, List.length_cons, Nat.add_mul] at ih ⊢
    omega
theorem joinS_mem {s : List Nat} {c : Nat} : ∀ {ss : List (List Nat)}, c ∈ joinS s ss → c ∈ s ∨ ∃ t ∈ ss, c ∈ t
  | [], h => by cases h
  | [a], h => .inr ⟨a, List.mem_cons_self, h⟩
  | a :: b :: r, h => by
    rw [joinS] at h
    rcases List.mem_append.mp h with h | h
    · rcases List.mem_append.mp h with h | h
      · exact .inr ⟨a, List.mem_cons_self, h⟩
      · exact .inl h
    · rcases joinS_mem (ss := b :: r) h with h | ⟨t, h1, h2⟩
      · exact .inl h
      · exact .inr ⟨t, List.mem_cons_of_mem _ h1, h2⟩
theorem Ex.join {f g : FE} {s : List Nat} {ss : List (List Nat)} (h : Ex Γ f rS s) (k : Ex Γ g (rL rS) ss) (hl : (ss.map List.length).sum + ss.length * s.length ≤ lim) : Ex Γ (fBm .str mJoin f (faCons g faNil)) rS (joinS s ss) := fun M ρ st q => by
  obtain ⟨d, st1, e1, p1, a1⟩ := h M ρ st q
  obtain ⟨d2, st2, e2, p2, a2⟩ := k M ρ st1 (q.pre p1)
  obtain ⟨rfl, h1, h2⟩ := rS_at.mp a1
  obtain ⟨es, k1, k2, k3⟩ := rL_at.mp a2
  have g : mJoin (.str s) [d2] st2 = .ok (.str (joinS s ss)) st2 := by
    unfold mJoin
    simp only [k1.itemsS, Option.bind_some, k3.strs, strsOf_map]
    rw [if_pos hl]
  refine ⟨_, st2, by simp [e1, e2, g, tyIs], p1.trans p2, rS_at.mpr ⟨rfl, ?_, Nat.le_trans (joinS_len s ss) hl⟩⟩
  refine List.all_eq_true.mpr fun c hc => ?_
  rcases joinS_mem hc with hc | ⟨t, ht, hc⟩
  · exact List.all_eq_true.mp h1 c hc
  · exact List.all_eq_true.mp (k3.oks t ht).1 c hc
theorem Ex.bits {f : FE} {n : Nat} (h : Ex Γ f rN n) : Ex Γ (fBits f) rN (Builtin.Int.intBits (n : Int)) := fun M ρ st q => by
  obtain ⟨d, st1, e1, p1, a1⟩ := h M ρ st q
  rw [rN_at.mp a1] at e1
  exact ⟨_, st1, by simp [e1], p1, rN_at.mpr rfl⟩
/-! ### dicts -/
class KeyRel {κ : Type} (r : Rel κ) where
  kd : κ → D
  inj : ∀ a b, sameK (kd a) (kd b) = true ↔ a = b
  key : ∀ a, isKey (kd a) = true
  to : ∀ {M : List Nat} {st : Sto} {d : D} {v : κ}, r.at_ M st d v → d = kd v
instance : KeyRel rS where
  kd := .str
  inj a b := by show decide (a = b) = true ↔ _; simp
  key a := rfl
  to h := (rS_at.mp h).1
instance : KeyRel rN where
  kd n := .int (n : Int)
  inj a b := by show decide ((a : Int) = (b : Int)) = true ↔ _; simp; omega
  key a := rfl
  to h := rN_at.mp h
instance : KeyRel rI where
  kd := .int
  inj a b := by show decide (a = b) = true ↔ _; simp
  key a := rfl
  to h := rI_at.mp h
/-- the value of a key -/
def dget {κ : Type} [DecidableEq κ] (es : List (κ × β)) (k : κ) : Option β := (es.find? fun e => decide (e.1 = k)).map (·.2)
/-- a key put -/
def dput {κ : Type} [DecidableEq κ] (es : List (κ × β)) (k : κ) (v : β) : List (κ × β) := if (es.any fun e => decide (e.1 = k)) = true then es.map fun e => if e.1 = k then (e.1, v) else e else es ++ [(k, v)]
theorem sameK_dec {κ : Type} [DecidableEq κ] {r : Rel κ} [KeyRel r] (a b : κ) : sameK (KeyRel.kd r a) (KeyRel.kd r b) = decide (a = b) := by
  have := KeyRel.inj (r := r) a b
  by_cases h : a = b
  · rw [decide_eq_true h]; exact this.mpr h
  · rw [decide_eq_false h]
    cases e : sameK (KeyRel.kd r a) (KeyRel.kd r b) with
    | false => rfl
    | true => exact absurd (this.mp e) h
theorem look_at {κ : Type} [DecidableEq κ] {r : Rel κ} [KeyRel r] {s : Rel β} {k : κ} {x : β} {es : List (D × D)} {xs : List (κ × β)} (h : A2 (EnAt r s M st) es xs) (e : dget xs k = some x) : ∃ d, lookK es (KeyRel.kd r k) = some d ∧ s.at_ M st d x := by
  induction h with
  | nil => cases e
  | @cons d y ds ys a h ih =>
    have hk := KeyRel.to a.1
    unfold dget at e
    rw [List.find?_cons] at e
    unfold lookK
    rw [List.find?_cons, hk, sameK_dec]
    by_cases hy : y.1 = k
    · rw [decide_eq_true hy] at e ⊢
      simp at e
      subst e
      exact ⟨d.2, rfl, a.2⟩
    · rw [decide_eq_false hy] at e ⊢
      exact ih e
theorem dcAt_ents {es : List (D × D)} (h : DcAt M st d es) : ents st d = some es ∧ itemsS st d = none := by
  rcases h with rfl | ⟨k, rfl, _, hk⟩
  · exact ⟨rfl, rfl⟩
  · unfold ents itemsS itemsR items
    simp only [hk]
    exact ⟨trivial, trivial⟩
theorem gIx_kd {κ : Type} {r : Rel κ} [KeyRel r] {k : κ} {es : List (D × D)} {e : D} (h : DcAt M st d es) (q : lookK es (KeyRel.kd r k) = some e) : gIx d (KeyRel.kd r k) st = .ok e st := by
  obtain ⟨h1, h2⟩ := dcAt_ents h
  have hk := KeyRel.key (r := r) k
  generalize KeyRel.kd r k = y at *
  have nd : ∀ s, d ≠ .str s := fun s e => by rcases h with rfl | ⟨k, rfl, _⟩ <;> cases e
  cases y with
  | int i =>
    unfold gIx
    split
    · exact absurd rfl (nd _)
    · simp only [h1, h2, q, R.opt_some]
  | str s =>
    unfold gIx
    simp only [h1, h2, q, R.opt_some]
  | _ => cases hk
theorem r2_ixD {κ : Type} [DecidableEq κ] {r : Rel κ} [KeyRel r] {s : Rel β} {xs : List (κ × β)} {k : κ} {x : β} (h : dget xs k = some x) : Rn2 gIx (rD r s) xs r k s x := fun M st d1 d2 q p => by
  obtain ⟨es, h1, h2, h3⟩ := rD_at.mp q
  obtain ⟨e, e1, e2⟩ := look_at h3 h
  rw [KeyRel.to p]
  exact ⟨e, gIx_kd h1 e1, e2⟩
end
end FL

/-! FVd: statements on plain values; lists and dicts in motion -/
namespace FL
open PySem PySem.Spec PyProof.Rows L2

theorem nodup_at' {α : Type} {l : List α} (h : l.Nodup) {i j : Nat} {a : α} (hi : l[i]? = some a) (hj : l[j]? = some a) : i = j := by
  obtain ⟨li, ei⟩ := List.getElem?_eq_some_iff.mp hi
  obtain ⟨lj, ej⟩ := List.getElem?_eq_some_iff.mp hj
  have hp := List.pairwise_iff_getElem.mp h
  rcases Nat.lt_trichotomy i j with q | q | q
  · exact absurd (ei.trans ej.symm) (hp i j li lj q)
  · exact q
  · exact absurd (ej.trans ei.symm) (hp j i lj li q)
/-- what a cell in motion holds -/
structure CRel (τ : Type) where
  co : List Nat → Sto → Co → τ → Prop
  ext : ∀ {M M' : List Nat} {st st' : Sto} {c : Co} {v : τ}, Xt M st M' st' → co M st c v → co M' st' c v
  fz : Rel τ
  frz : ∀ {M : List Nat} {st : Sto} {k : Nat} {c : Co} {v : τ}, k ∉ M → st[k]? = some c → co M st c v → fz.at_ M st (.cel k) v
def oL {τ : Type} (r : Rel τ) : CRel (List τ) where
  co M st c v := ∃ ds, c = .lst ds ∧ v.length ≤ lim ∧ A2 (r.at_ M st) ds v
  ext e h := by
    obtain ⟨ds, h1, h2, h3⟩ := h
    exact ⟨ds, h1, h2, h3.imp fun d x => r.ext e⟩
  fz := rL r
  frz hk hc h := by
    obtain ⟨ds, rfl, h2, h3⟩ := h
    exact rL_at.mpr ⟨ds, .inr ⟨_, rfl, hk, hc⟩, h2, h3⟩
def oD {α β : Type} (r : Rel α) (s : Rel β) : CRel (List (α × β)) where
  co M st c v := ∃ es, c = .dct es ∧ v.length ≤ lim ∧ A2 (EnAt r s M st) es v
  ext e h := by
    obtain ⟨ds, h1, h2, h3⟩ := h
    exact ⟨ds, h1, h2, h3.imp fun d x h => ⟨r.ext e h.1, s.ext e h.2⟩⟩
  fz := rD r s
  frz hk hc h := by
    obtain ⟨ds, rfl, h2, h3⟩ := h
    exact rD_at.mpr ⟨ds, .inr ⟨_, rfl, hk, hc⟩, h2, h3⟩
/-- a variable whose cell is in motion -/
structure Own : Type 1 where
  i : Nat
  {τ : Type}
  c : CRel τ
  v : τ
structure SatS (M ks : List Nat) (Γ : Cn) (Ω : List Own) (ρ : En) (st : Sto) : Prop where
  sat : Sat (ks ++ M) Γ ρ st
  len : ks.length = Ω.length
  nd : ks.Nodup
  dis : ∀ k ∈ ks, k ∉ M
  own : ∀ (j : Nat) (o : Own) (k : Nat), Ω[j]? = some o → ks[j]? = some k → ρ[o.i]? = some (some (.cel k)) ∧ look Γ o.i = none ∧ ∃ c, st[k]? = some c ∧ o.c.co (ks ++ M) st c o.v
structure Post where
  nx : Cn → List Own → Prop
  rt : ∀ {τ : Type}, Rel τ → τ → Prop
  bk : Cn → List Own → Prop
  ct : Cn → List Own → Prop
structure Fra (ks : List Nat) (st : Sto) (ks' : List Nat) (st' : Sto) : Prop where
  len : st.length ≤ st'.length
  keep : ∀ i, i < st.length → i ∉ ks → st'[i]? = st[i]?
  new : ∀ k ∈ ks', k ∈ ks ∨ st.length ≤ k
def Oc (M ks : List Nat) (st : Sto) (Φ : Post) (o : O) : Prop := match o with
  | .nx ρ' st' => ∃ ks' Γ' Ω', Fra ks st ks' st' ∧ SatS M ks' Γ' Ω' ρ' st' ∧ Φ.nx Γ' Ω'
  | .bk ρ' st' => ∃ ks' Γ' Ω', Fra ks st ks' st' ∧ SatS M ks' Γ' Ω' ρ' st' ∧ Φ.bk Γ' Ω'
  | .ct ρ' st' => ∃ ks' Γ' Ω', Fra ks st ks' st' ∧ SatS M ks' Γ' Ω' ρ' st' ∧ Φ.ct Γ' Ω'
  | .rt d st' => ∃ (ks' : List Nat) (τ : Type) (r : Rel τ) (v : τ), Fra ks st ks' st' ∧ r.at_ M st' d v ∧ Φ.rt r v
  | _ => False
def W (Γ : Cn) (Ω : List Own) (s : FS) (Φ : Post) : Prop := ∀ M ks ρ st, SatS M ks Γ Ω ρ st → Oc M ks st Φ (s ρ st)
/-- all lists in motion, only read -/
def Froz (Γ : Cn) : List Own → Cn
  | [] => Γ
  | o :: Ω => (Froz Γ Ω).set o.i (some ⟨o.c.fz, o.v⟩)
section
variable {M ks ks' : List Nat} {Γ Γ' : Cn} {Ω Ω' : List Own} {ρ ρ' : En} {st st' st'' : Sto} {τ α β γ : Type} {r : Rel τ} {v : τ} {Φ Φ' : Post} {s s2 : FS} {i : Nat}
theorem Fra.refl : Fra ks st ks st := ⟨Nat.le_refl _, fun _ _ _ => rfl, fun _ h => .inl h⟩
theorem Fra.pre (p : st <+: st') : Fra ks st ks st' := ⟨p.length_le, fun i hi _ => by
  obtain ⟨t, rfl⟩ := p
  exact List.getElem?_append_left hi, fun _ h => .inl h⟩
theorem Fra.trans {ks'' : List Nat} (h : Fra ks st ks' st') (k : Fra ks' st' ks'' st'') : Fra ks st ks'' st'' := ⟨Nat.le_trans h.len k.len, fun i hi hn => by
  have : i ∉ ks' := fun q => by
    rcases h.new i q with q | q
    · exact hn q
    · omega
  exact (k.keep i (Nat.lt_of_lt_of_le hi h.len) this).trans (h.keep i hi hn), fun x hx => by
  rcases k.new x hx with q | q
  · exact h.new x q
  · exact .inr (Nat.le_trans h.len q)⟩
theorem Fra.xt (h : Fra ks st ks' st') : Xt (ks ++ M) st (ks' ++ M) st' := ⟨h.len, fun i hi hn => by
  rw [List.mem_append, not_or] at hn
  refine ⟨h.keep i hi hn.1, fun q => ?_⟩
  rcases List.mem_append.mp q with q | q
  · rcases h.new i q with q | q
    · exact hn.1 q
    · omega
  · exact hn.2 q⟩
/-- the rest, from a later store -/
theorem Oc.later {o : O} (f : Fra ks st ks' st') (h : Oc M ks' st' Φ o) : Oc M ks st Φ o := by
  cases o with
  | no => exact h
  | exc c x ρ s => exact h
  | nx ρ s => obtain ⟨k, Γ, Ω, h1, h2, h3⟩ := h; exact ⟨k, Γ, Ω, f.trans h1, h2, h3⟩
  | bk ρ s => obtain ⟨k, Γ, Ω, h1, h2, h3⟩ := h; exact ⟨k, Γ, Ω, f.trans h1, h2, h3⟩
  | ct ρ s => obtain ⟨k, Γ, Ω, h1, h2, h3⟩ := h; exact ⟨k, Γ, Ω, f.trans h1, h2, h3⟩
  | rt d s => obtain ⟨k, τ, r, v, h1, h2, h3⟩ := h; exact ⟨k, τ, r, v, f.trans h1, h2, h3⟩
theorem SatS.pre (h : SatS M ks Γ Ω ρ st) (p : st <+: st') : SatS M ks Γ Ω ρ st' := ⟨h.sat.pre p, h.len, h.nd, h.dis, fun j o k h1 h2 => by
  obtain ⟨q1, q2, c, q3, q4⟩ := h.own j o k h1 h2
  refine ⟨q1, q2, c, ?_, o.c.ext (.pre p) q4⟩
  obtain ⟨t, rfl⟩ := p
  rw [List.getElem?_append_left (List.getElem?_eq_some_iff.mp q3).1]
  exact q3⟩
theorem SatS.klt (h : SatS M ks Γ Ω ρ st) : ∀ k ∈ ks, k < st.length := fun k hk => h.sat.mot k (List.mem_append_left _ hk)
theorem SatS.mlt (h : SatS M ks Γ Ω ρ st) : ∀ k ∈ M, k < st.length := fun k hk => h.sat.mot k (List.mem_append_right _ hk)
/-- all in motion is read only: every cell but the ambient ones rests -/
theorem SatS.froz (h : SatS M ks Γ Ω ρ st) : Sat M (Froz Γ Ω) ρ st := by
  have base : Sat M Γ ρ st := ⟨h.sat.len, h.mlt, fun i e q => by
    obtain ⟨d, h1, h2⟩ := h.sat.at_ i e q
    exact ⟨d, h1, e.r.sub (fun i hi _ => List.mem_append_right _ hi) h2⟩⟩
  have key : ∀ (Ω' : List Own) (m : Nat), Ω.drop m = Ω' → Sat M (Froz Γ Ω') ρ st := fun Ω' => by
    induction Ω' with
    | nil => intro m _; exact base
    | cons o Ω' ih =>
      intro m hm
      have hlt : m < Ω.length := by
        by_cases q : m < Ω.length
        · exact q
        · rw [List.drop_eq_nil_of_le (by omega)] at hm; cases hm
      rw [List.drop_eq_getElem_cons hlt] at hm
      injection hm with h1 h2
      have sm := ih (m + 1) h2
      have hlk : m < ks.length := by rw [h.len]; exact hlt
      obtain ⟨q1, q2, c, q3, q4⟩ := h.own m o ks[m] (by rw [List.getElem?_eq_getElem hlt, h1]) (List.getElem?_eq_getElem (by rw [h.len]; exact hlt))
      have a : o.c.fz.at_ M st (.cel ks[m]) o.v := o.c.frz (h.dis _ (List.getElem_mem _)) q3 (o.c.ext (.sub fun i hi _ => List.mem_append_right _ hi) q4)
      have := sm.set (i := o.i) a
      have e : ρ.set o.i (some (.cel ks[m])) = ρ := by
        refine List.ext_getElem? fun j => ?_
        by_cases hj : o.i = j
        · subst hj
          rw [q1, List.getElem?_set_self (List.getElem?_eq_some_iff.mp q1).1]
        · rw [List.getElem?_set_ne hj]
      rw [e] at this
      exact this
  exact key Ω 0 rfl
/-- what is free may be taken into motion again -/
theorem Ex.own [Free r] {f : FE} (h : Ex (Froz Γ Ω) f r v) (sat : SatS M ks Γ Ω ρ st) : ∃ d st', f ρ st = .ok d st' ∧ st <+: st' ∧ r.at_ (ks ++ M) st' d v := by
  obtain ⟨d, st', h1, h2, h3⟩ := h M ρ st sat.froz
  exact ⟨d, st', h1, h2, Free.free h3⟩
theorem SatS.put (h : SatS M ks Γ Ω ρ st) {d : D} (a : r.at_ (ks ++ M) st d v) (hi : ∀ o ∈ Ω, o.i ≠ i) : SatS M ks (Γ.set i (some ⟨r, v⟩)) Ω (ρ.set i (some d)) st := ⟨h.sat.set a, h.len, h.nd, h.dis, fun j o k h1 h2 => by
  obtain ⟨q1, q2, c, q3, q4⟩ := h.own j o k h1 h2
  have hne := hi o (List.mem_of_getElem? h1)
  refine ⟨by rw [List.getElem?_set_ne (Ne.symm hne)]; exact q1, ?_, c, q3, q4⟩
  cases e : look (Γ.set i (some ⟨r, v⟩)) o.i with
  | none => rfl
  | some x =>
    rcases look_set e with ⟨z, _⟩ | ⟨_, z⟩
    · exact absurd z.symm hne
    · rw [q2] at z; cases z⟩
/-! ### rules -/
theorem W.seq (h : W Γ Ω s { Φ with nx := fun Γ' Ω' => W Γ' Ω' s2 Φ }) : W Γ Ω (fSeq s s2) Φ := fun M ks ρ st sat => by
  have h := h M ks ρ st sat
  unfold fSeq
  revert h
  cases s ρ st with
  | no => intro h; exact h
  | exc c x ρ s => intro h; exact h
  | nx ρ1 st1 =>
    intro h
    obtain ⟨k1, Γ1, Ω1, f1, sat1, w⟩ := h
    exact (w M k1 ρ1 st1 sat1).later f1
  | bk ρ1 st1 => intro h; exact h
  | ct ρ1 st1 => intro h; exact h
  | rt d st1 => intro h; exact h
theorem W.next (h : Φ.nx Γ Ω) : W Γ Ω fNext Φ := fun M ks ρ st sat => ⟨ks, Γ, Ω, .refl, sat, h⟩
theorem W.brk (h : Φ.bk Γ Ω) : W Γ Ω fBrk Φ := fun M ks ρ st sat => ⟨ks, Γ, Ω, .refl, sat, h⟩
theorem W.cnt (h : Φ.ct Γ Ω) : W Γ Ω fCnt Φ := fun M ks ρ st sat => ⟨ks, Γ, Ω, .refl, sat, h⟩
theorem W.ret {f : FE} (h : Ex (Froz Γ Ω) f r v) (k : Φ.rt r v) : W Γ Ω (fRet f) Φ := fun M ks ρ st sat => by
  obtain ⟨d, st', h1, h2, h3⟩ := h M ρ st sat.froz
  unfold fRet
  rw [h1]
  exact ⟨ks, τ, r, v, .pre h2, h3, k⟩
theorem W.retN (k : Φ.rt rU ()) : W Γ Ω fRetN Φ := fun M ks ρ st sat => ⟨ks, _, rU, (), .refl, rU_at.mpr rfl, k⟩
theorem W.ite {t : FT} {b : Bool} (h : ExT (Froz Γ Ω) t b) (h1 : b = true → W Γ Ω s Φ) (h2 : b = false → W Γ Ω s2 Φ) : W Γ Ω (fIf t s s2) Φ := fun M ks ρ st sat => by
  obtain ⟨st', e, p⟩ := h M ρ st sat.froz
  unfold fIf
  rw [e]
  cases b with
  | true => exact (h1 rfl M ks ρ st' (sat.pre p)).later (.pre p)
  | false => exact (h2 rfl M ks ρ st' (sat.pre p)).later (.pre p)
theorem W.asg {f : FE} (h : Ex Γ f r v) (k : Φ.nx (Γ.set i (some ⟨r, v⟩)) Ω) (hi : ∀ o ∈ Ω, o.i ≠ i := by simp) : W Γ Ω (fAsg f (hName i)) Φ := fun M ks ρ st sat => by
  obtain ⟨d, st', h1, h2, h3⟩ := h _ ρ st sat.sat
  unfold fAsg
  rw [h1]
  exact ⟨ks, _, Ω, .pre h2, (sat.pre h2).put h3 hi, k⟩
/-- a plain value, out of what is in motion too -/
theorem W.asgF {f : FE} [Free r] (h : Ex (Froz Γ Ω) f r v) (k : Φ.nx (Γ.set i (some ⟨r, v⟩)) Ω) (hi : ∀ o ∈ Ω, o.i ≠ i := by simp) : W Γ Ω (fAsg f (hName i)) Φ := fun M ks ρ st sat => by
  obtain ⟨d, st', h1, h2, h3⟩ := h.own sat
  unfold fAsg
  rw [h1]
  exact ⟨ks, _, Ω, .pre h2, (sat.pre h2).put h3 hi, k⟩
/-- a tuple taken apart, nothing in motion -/
theorem W.asgB {f : FE} {h : FG} (he : Ex Γ f r v) (hb : Bd h Γ r v Γ') (k : Φ.nx Γ' []) : W Γ [] (fAsg f h) Φ := fun M ks ρ st sat => by
  obtain ⟨d, st', h1, h2, h3⟩ := he _ ρ st sat.sat
  obtain ⟨ρ', e, q⟩ := hb _ ρ st' d (sat.sat.pre h2) h3
  unfold fAsg
  rw [h1]
  show Oc M ks st Φ ((h d ρ st').toO ρ _)
  rw [e]
  exact ⟨ks, Γ', [], .pre h2, ⟨q, sat.len, sat.nd, sat.dis, fun j o k z => by simp at z⟩, k⟩
theorem W.par {i j : Nat} {f g : FE} {r : Rel α} {s : Rel β} {x : α} {y : β} (h : Ex Γ f r x) (h2 : Ex Γ g s y) (k : Φ.nx ((Γ.set i (some ⟨r, x⟩)).set j (some ⟨s, y⟩)) Ω) (hi : ∀ o ∈ Ω, o.i ≠ i := by simp) (hj : ∀ o ∈ Ω, o.i ≠ j := by simp) : W Γ Ω (fPar i j (faCons f (faCons g faNil))) Φ := fun M ks ρ st sat => by
  obtain ⟨d, st1, e1, p1, a1⟩ := h _ ρ st sat.sat
  obtain ⟨d2, st2, e2, p2, a2⟩ := h2 _ ρ st1 (sat.sat.pre p1)
  have e : fPar i j (faCons f (faCons g faNil)) ρ st = .nx ((ρ.set i (some d)).set j (some d2)) st2 := by simp [e1, e2]
  rw [e]
  exact ⟨ks, _, Ω, .pre (p1.trans p2), ((sat.pre (p1.trans p2)).put (r.pre p2 a1) hi).put a2 hj, k⟩
theorem W.par3 {i j l : Nat} {f g h : FE} {r : Rel α} {s : Rel β} {t : Rel γ} {x : α} {y : β} {z : γ} (h1 : Ex Γ f r x) (h2 : Ex Γ g s y) (h3 : Ex Γ h t z) (k : Φ.nx (((Γ.set i (some ⟨r, x⟩)).set j (some ⟨s, y⟩)).set l (some ⟨t, z⟩)) Ω) (hi : ∀ o ∈ Ω, o.i ≠ i := by simp) (hj : ∀ o ∈ Ω, o.i ≠ j := by simp) (hl : ∀ o ∈ Ω, o.i ≠ l := by simp) : W Γ Ω (fPar3 i j l (faCons f (faCons g (faCons h faNil)))) Φ := fun M ks ρ st sat => by
  obtain ⟨d, st1, e1, p1, a1⟩ := h1 _ ρ st sat.sat
  obtain ⟨d2, st2, e2, p2, a2⟩ := h2 _ ρ st1 (sat.sat.pre p1)
  obtain ⟨d3, st3, e3, p3, a3⟩ := h3 _ ρ st2 (sat.sat.pre (p1.trans p2))
  have e : fPar3 i j l (faCons f (faCons g (faCons h faNil))) ρ st = .nx (((ρ.set i (some d)).set j (some d2)).set l (some d3)) st3 := by simp [e1, e2, e3]
  rw [e]
  exact ⟨ks, _, Ω, .pre ((p1.trans p2).trans p3), (((sat.pre ((p1.trans p2).trans p3)).put (r.pre (p2.trans p3) a1) hi).put (s.pre p3 a2) hj).put a3 hl, k⟩
theorem W.drop {f : FE} (h : Ex (Froz Γ Ω) f r v) (k : Φ.nx Γ Ω) : W Γ Ω (fDrop f) Φ := fun M ks ρ st sat => by
  obtain ⟨d, st', h1, h2, h3⟩ := h M ρ st sat.froz
  unfold fDrop
  rw [h1]
  exact ⟨ks, _, Ω, .pre h2, sat.pre h2, k⟩
/-- one thing more in motion -/
theorem SatS.more (h : SatS M ks Γ Ω ρ st) {c : Co} {C : CRel τ} (hc : C.co (ks ++ M) st c v) (hi : ∀ o ∈ Ω, o.i ≠ i) (hl : i < ρ.length) : SatS M (ks ++ [st.length]) (Γ.set i none) (Ω ++ [⟨i, C, v⟩]) (ρ.set i (some (.cel st.length))) (st ++ [c]) ∧ Fra ks st (ks ++ [st.length]) (st ++ [c]) := by
  have x : Xt (ks ++ M) st ((ks ++ [st.length]) ++ M) (st ++ [c]) := ⟨by simp, fun j hj hm => ⟨List.getElem?_append_left hj, fun q => by
    rw [List.append_assoc, List.mem_append, List.mem_append, List.mem_singleton] at q
    rw [List.mem_append, not_or] at hm
    rcases q with q | q | q
    · exact hm.1 q
    · omega
    · exact hm.2 q⟩⟩
  refine ⟨⟨⟨by simp [h.sat.len], fun m hm => ?_, fun j e q => ?_⟩, by simp [h.len], ?_, fun k hk => ?_, fun j o k h1 h2 => ?_⟩, by simp, fun j hj _ => List.getElem?_append_left hj, fun k hk => ?_⟩
  · rw [List.append_assoc, List.mem_append, List.mem_append, List.mem_singleton] at hm
    rw [List.length_append]
    rcases hm with q | q | q
    · have := h.klt m q; simp; omega
    · simp; omega
    · have := h.mlt m q; simp; omega
  · rcases look_set q with ⟨_, z, _⟩ | ⟨z1, z2⟩
    · cases z
    · obtain ⟨d, q1, q2⟩ := h.sat.at_ j e z2
      exact ⟨d, by rw [List.getElem?_set_ne z1]; exact q1, e.r.ext x q2⟩
  · rw [List.nodup_append]
    refine ⟨h.nd, by simp, fun a ha b hb e => ?_⟩
    rw [List.mem_singleton.mp hb] at e
    have := h.klt a ha
    omega
  · rcases List.mem_append.mp hk with hk | hk
    · exact h.dis k hk
    · rw [List.mem_singleton.mp hk]
      exact fun hm => Nat.lt_irrefl _ (h.mlt _ hm)
  · by_cases hj : j < ks.length
    · rw [List.getElem?_append_left hj] at h2
      rw [List.getElem?_append_left (by rw [← h.len]; exact hj)] at h1
      obtain ⟨q1, q2, c', q3, q4⟩ := h.own j o k h1 h2
      have hne := hi o (List.mem_of_getElem? h1)
      refine ⟨by rw [List.getElem?_set_ne (Ne.symm hne)]; exact q1, ?_, c', ?_, o.c.ext x q4⟩
      · cases e : look (Γ.set i none) o.i with
        | none => rfl
        | some y =>
          rcases look_set e with ⟨z, _⟩ | ⟨_, z⟩
          · exact absurd z.symm hne
          · rw [q2] at z; cases z
      · rw [List.getElem?_append_left (List.getElem?_eq_some_iff.mp q3).1]
        exact q3
    · rw [List.getElem?_append_right (by omega)] at h2
      rw [List.getElem?_append_right (by rw [← h.len]; omega)] at h1
      rw [h.len] at h2
      cases e : j - Ω.length with
      | zero =>
        rw [e] at h1 h2
        simp at h1 h2
        subst h1
        subst h2
        refine ⟨List.getElem?_set_self hl, ?_, c, by simp, C.ext x hc⟩
        cases e : look (Γ.set i none) i with
        | none => rfl
        | some y =>
          rcases look_set e with ⟨_, z, _⟩ | ⟨z, _⟩
          · cases z
          · exact absurd rfl z
      | succ n => rw [e] at h1; simp at h1
  · rcases List.mem_append.mp hk with hk | hk
    · exact .inl hk
    · rw [List.mem_singleton.mp hk]; exact .inr (Nat.le_refl _)
/-- a new cell -/
def ExC {τ : Type} (Γ : Cn) (f : FE) (C : CRel τ) (v : τ) : Prop := ∀ M ρ st, Sat M Γ ρ st → ∃ c st', f ρ st = .ok (.cel st'.length) (st' ++ [c]) ∧ st <+: st' ∧ C.co M st' c v
theorem ExC.lstC {fa : FA} {r : Rel τ} {xs : List τ} (h : ExL Γ fa r xs) (hl : xs.length ≤ lim := by simp only [List.length_cons, List.length_nil]; decide) : ExC Γ (fLstC fa) (oL r) xs := fun M ρ st q => by
  obtain ⟨ds, st1, e1, p1, a1⟩ := h M ρ st q
  exact ⟨.lst ds, st1, by simp [e1, a1.len, hl], p1, ds, rfl, hl, a1⟩
theorem ExC.dnew {r : Rel α} {s : Rel β} : ExC Γ fDctC (oD r s) [] := fun M ρ st q => ⟨.dct [], st, rfl, List.prefix_rfl, [], rfl, Nat.zero_le _, .nil⟩
theorem ExC.lc {src : FI} {h : FG} {t : FT} {e : FE} {vs : List Nat} {r : Rel α} {s : Rel β} {xs : List α} {c : α → Bool} {q : α → β} {Γx : α → Cn} (hs : ExI Γ src r xs) (hb : ∀ x, x ∈ xs → Bd h (wipeC Γ vs) r x (Γx x))
    (ht : ∀ x, x ∈ xs → ExT (Γx x) t (c x)) (he : ∀ x, x ∈ xs → c x = true → Ex (Γx x) e s (q x)) : ExC Γ (fLc true src h t e vs) (oL s) ((xs.filter c).map q) := fun M ρ st sat => by
  obtain ⟨z, st1, ys, st2, e1, e2, p, hl, hl2, a⟩ := lc_run hs hb ht he sat
  exact ⟨.lst ys, st2, by simp [e1, e2, endL, hl], p, ys, rfl, hl2, a⟩
theorem ExC.lcY {src : FI} {h : FG} {e : FE} {vs : List Nat} {r : Rel α} {s : Rel β} {xs : List α} {q : α → β} {Γx : α → Cn} (hs : ExI Γ src r xs) (hb : ∀ x, x ∈ xs → Bd h (wipeC Γ vs) r x (Γx x))
    (he : ∀ x, x ∈ xs → Ex (Γx x) e s (q x)) : ExC Γ (fLc true src h fYes e vs) (oL s) (xs.map q) := by
  have := ExC.lc (c := fun _ => true) hs hb (fun _ _ => ExT.yes) fun x hx _ => he x hx
  rwa [List.filter_eq_self.mpr fun _ _ => rfl] at this
theorem ExC.list {f : FE} {r : Rel τ} {xs : List τ} (h : Ex Γ f (rL r) xs) : ExC Γ (fCB (kCell kList) (faCons f faNil)) (oL r) xs := fun M ρ st q => by
  obtain ⟨d, st1, e1, p1, a1⟩ := h M ρ st q
  obtain ⟨es, h1, h2, h3⟩ := rL_at.mp a1
  refine ⟨.lst es, st1, ?_, p1, es, rfl, h2, h3⟩
  have e := h1.itemsS
  have : kCell kList [d] st1 = .ok (.cel st1.length) (st1 ++ [.lst es]) := by
    rcases h1 with rfl | ⟨i, rfl, _, hk⟩ <;> (unfold kCell kList; simp only [e])
  simp [e1, this]
theorem ExC.listS {f : FE} {s : List Nat} (h : Ex Γ f rS s) : ExC Γ (fCB (kCell kList) (faCons f faNil)) (oL rS) (s.map fun c => [c]) := fun M ρ st q => by
  obtain ⟨d, st1, e1, p1, a1⟩ := h M ρ st q
  obtain ⟨rfl, h1, h2⟩ := rS_at.mp a1
  refine ⟨.lst (s.map fun c => .str [c]), st1, ?_, p1, _, rfl, by simpa using h2, A2.map fun c hc => rS_at.mpr ⟨rfl, okT_one h1 hc, by unfold lim; simp⟩⟩
  have : kCell kList [.str s] st1 = .ok (.cel st1.length) (st1 ++ [.lst (s.map fun c => .str [c])]) := by
    unfold kCell kList
    simp only [h2, if_true]
  simp [e1, this]
theorem W.own {f : FE} {C : CRel τ} (h : ExC Γ f C v) (k : Φ.nx (Γ.set i none) (Ω ++ [⟨i, C, v⟩])) (hi : ∀ o ∈ Ω, o.i ≠ i := by simp) (hl : i < Γ.length := by simp) : W Γ Ω (fAsg f (hName i)) Φ := fun M ks ρ st sat => by
  obtain ⟨c, st', h1, h2, h3⟩ := h _ ρ st sat.sat
  obtain ⟨q1, q2⟩ := (sat.pre h2).more (i := i) h3 hi (by rw [sat.sat.len]; exact hl)
  unfold fAsg
  rw [h1]
  exact ⟨_, _, _, (Fra.pre h2).trans q2, q1, k⟩
theorem W.parO {i j : Nat} {f g : FE} {C : CRel α} {s : Rel β} {x : α} {y : β} (h : ExC Γ f C x) (h2 : Ex Γ g s y) (k : Φ.nx ((Γ.set i none).set j (some ⟨s, y⟩)) (Ω ++ [⟨i, C, x⟩])) (hi : ∀ o ∈ Ω, o.i ≠ i := by simp) (hj : ∀ o ∈ Ω, o.i ≠ j := by simp) (hij : i ≠ j := by decide) (hl : i < Γ.length := by simp) : W Γ Ω (fPar i j (faCons f (faCons g faNil))) Φ := fun M ks ρ st sat => by
  obtain ⟨c, st1, e1, p1, a1⟩ := h _ ρ st sat.sat
  obtain ⟨q1, q2⟩ := (sat.pre p1).more (i := i) a1 hi (by rw [sat.sat.len]; exact hl)
  have f1 := (Fra.pre p1).trans q2
  obtain ⟨d2, st2, e2, p2, a2⟩ := h2 _ ρ (st1 ++ [c]) ⟨sat.sat.len, fun m hm => Nat.lt_of_lt_of_le (sat.sat.mot m hm) f1.len, fun i e q => by
    obtain ⟨d, z1, z2⟩ := sat.sat.at_ i e q
    exact ⟨d, z1, e.r.ext (.pre (p1.trans pre_snoc)) z2⟩⟩
  have a2 : s.at_ ((ks ++ [st1.length]) ++ M) st2 d2 y := by
    obtain ⟨d3, st3, e3, p3, a3⟩ := h2 ((ks ++ [st1.length]) ++ M) ρ (st1 ++ [c]) ⟨sat.sat.len, q1.sat.mot, fun i e q => by
      obtain ⟨d, z1, z2⟩ := sat.sat.at_ i e q
      exact ⟨d, z1, e.r.ext f1.xt z2⟩⟩
    rw [e2] at e3
    cases e3
    exact a3
  have e : fPar i j (faCons f (faCons g faNil)) ρ st = .nx ((ρ.set i (some (.cel st1.length))).set j (some d2)) st2 := by simp [e1, e2]
  rw [e]
  refine ⟨_, _, _, f1.trans (.pre p2), (q1.pre p2).put a2 (fun o ho => ?_), k⟩
  rcases List.mem_append.mp ho with ho | ho
  · exact hj o ho
  · rw [List.mem_singleton.mp ho]; exact hij
/-- one of the things in motion changes -/
theorem SatS.chg (h : SatS M ks Γ Ω ρ st) {C : CRel τ} {j : Nat} {o : Own} {k : Nat} {c : Co} (hj : Ω[j]? = some o) (hk : ks[j]? = some k) (hc : C.co (ks ++ M) st c v) : SatS M ks Γ (Ω.set j ⟨o.i, C, v⟩) ρ (st.set k c) ∧ Fra ks st ks (st.set k c) := by
  obtain ⟨u1, u2, c0, u3, u4⟩ := h.own j o k hj hk
  have kl : k < st.length := (List.getElem?_eq_some_iff.mp u3).1
  have km : k ∈ ks := List.mem_of_getElem? hk
  have x : Xt (ks ++ M) st (ks ++ M) (st.set k c) := ⟨by simp, fun i hi hm => ⟨by
    rw [List.getElem?_set_ne]
    intro z
    subst z
    exact hm (List.mem_append_left _ km), hm⟩⟩
  refine ⟨⟨⟨h.sat.len, fun m hm => by rw [List.length_set]; exact h.sat.mot m hm, fun i e q => ?_⟩, by simp [h.len], h.nd, h.dis, fun j' o' k' h1 h2 => ?_⟩, by simp, fun i hi hm => ?_, fun _ h => .inl h⟩
  · obtain ⟨d, q1, q2⟩ := h.sat.at_ i e q
    exact ⟨d, q1, e.r.ext x q2⟩
  · by_cases e : j = j'
    · subst e
      rw [hk] at h2
      cases h2
      rw [List.getElem?_set_self (by rw [← h.len]; exact (List.getElem?_eq_some_iff.mp hk).1)] at h1
      cases h1
      exact ⟨u1, u2, c, List.getElem?_set_self kl, C.ext x hc⟩
    · rw [List.getElem?_set_ne e] at h1
      obtain ⟨w1, w2, c', w3, w4⟩ := h.own j' o' k' h1 h2
      have kne : k ≠ k' := fun z => by
        subst z
        have p1 := List.getElem?_eq_some_iff.mp hk
        have p2 := List.getElem?_eq_some_iff.mp h2
        exact e (nodup_at' h.nd hk h2)
      exact ⟨w1, w2, c', by rw [List.getElem?_set_ne kne]; exact w3, o'.c.ext x w4⟩
  · rw [List.getElem?_set_ne]
    intro z
    subst z
    exact hm km
theorem W.append {j : Nat} {e : FE} {xs : List τ} {x : τ} (hj : Ω[j]? = some ⟨i, oL r, xs⟩) (he : Ex Γ e r x) (hl : xs.length < lim) (k : Φ.nx Γ (Ω.set j ⟨i, oL r, xs ++ [x]⟩)) : W Γ Ω (fDrop (fBm .list mAppend (fVar i) (faCons e faNil))) Φ := fun M ks ρ st sat => by
  obtain ⟨d, st', h1, h2, h3⟩ := he _ ρ st sat.sat
  have hlt : j < ks.length := by rw [sat.len]; exact (List.getElem?_eq_some_iff.mp hj).1
  have hk := List.getElem?_eq_getElem hlt
  have sat2 := sat.pre h2
  obtain ⟨u1, u2, c0, u3, ds, rfl, u5, u6⟩ := sat2.own j _ _ hj hk
  obtain ⟨z1, z2⟩ := sat2.chg (C := oL r) (v := xs ++ [x]) (c := .lst (ds ++ [d])) hj hk ⟨_, rfl, by simp; omega, u6.app (.cons h3 .nil)⟩
  have ap : mAppend (.cel ks[j]) [d] st' = .ok .non (st'.set ks[j] (.lst (ds ++ [d]))) := by
    unfold mAppend
    simp only [u3]
    rw [if_pos (by rw [u6.len]; exact hl)]
  obtain ⟨v1, v2, c1, v3, ds1, rfl, v5, v6⟩ := sat.own j _ _ hj hk
  have ty : tyIs .list st (.cel ks[j]) = true := by
    unfold tyIs
    simp only [itemsR_cel v3]
    rfl
  have ev : fDrop (fBm .list mAppend (fVar i) (faCons e faNil)) ρ st = .nx ρ (st'.set ks[j] (.lst (ds ++ [d]))) := by
    simp [v1, ty, h1, ap]
  rw [ev]
  exact ⟨_, _, _, (Fra.pre h2).trans z2, z1, k⟩
/-- .. by something free, told by what is in motion -/
theorem W.appendF {j : Nat} {e : FE} {r : Rel τ} [Free r] {xs : List τ} {x : τ} (hj : Ω[j]? = some ⟨i, oL r, xs⟩) (he : Ex (Froz Γ Ω) e r x) (hl : xs.length < lim) (k : Φ.nx Γ (Ω.set j ⟨i, oL r, xs ++ [x]⟩)) : W Γ Ω (fDrop (fBm .list mAppend (fVar i) (faCons e faNil))) Φ := fun M ks ρ st sat => by
  obtain ⟨d, st', h1, h2, h3⟩ := he.own sat
  have hlt : j < ks.length := by rw [sat.len]; exact (List.getElem?_eq_some_iff.mp hj).1
  have hk := List.getElem?_eq_getElem hlt
  have sat2 := sat.pre h2
  obtain ⟨u1, u2, c0, u3, ds, rfl, u5, u6⟩ := sat2.own j _ _ hj hk
  obtain ⟨z1, z2⟩ := sat2.chg (C := oL r) (v := xs ++ [x]) (c := .lst (ds ++ [d])) hj hk ⟨_, rfl, by simp; omega, u6.app (.cons h3 .nil)⟩
  have ap : mAppend (.cel ks[j]) [d] st' = .ok .non (st'.set ks[j] (.lst (ds ++ [d]))) := by
    unfold mAppend
    simp only [u3]
    rw [if_pos (by rw [u6.len]; exact hl)]
  obtain ⟨v1, v2, c1, v3, ds1, rfl, v5, v6⟩ := sat.own j _ _ hj hk
  have ty : tyIs .list st (.cel ks[j]) = true := by
    unfold tyIs
    simp only [itemsR_cel v3]
    rfl
  have ev : fDrop (fBm .list mAppend (fVar i) (faCons e faNil)) ρ st = .nx ρ (st'.set ks[j] (.lst (ds ++ [d]))) := by
    simp [v1, ty, h1, ap]
  rw [ev]
  exact ⟨_, _, _, (Fra.pre h2).trans z2, z1, k⟩
/-! ### loops -/
theorem SatS.sub {Ω : List Own} (h : SatS M ks Γ' Ω ρ st) (s : Sub Γ Γ') : SatS M ks Γ Ω ρ st := ⟨h.sat.sub s, h.len, h.nd, h.dis, fun j o k h1 h2 => by
  obtain ⟨q1, q2, c, q3, q4⟩ := h.own j o k h1 h2
  refine ⟨q1, ?_, c, q3, q4⟩
  cases e : look Γ o.i with
  | none => rfl
  | some x => have := s.2 _ _ e; rw [q2] at this; cases this⟩
theorem SatS.bind {Ω : List Own} {h : FG} {d : D} (sat : SatS M ks Γ Ω ρ st) {ρ' : En} (q : Sat (ks ++ M) Γ' ρ' st) (ho : ∀ o ∈ Ω, look Γ' o.i = none ∧ ρ'[o.i]? = ρ[o.i]?) : SatS M ks Γ' Ω ρ' st := ⟨q, sat.len, sat.nd, sat.dis, fun j o k h1 h2 => by
  obtain ⟨q1, q2, c, q3, q4⟩ := sat.own j o k h1 h2
  obtain ⟨z1, z2⟩ := ho o (List.mem_of_getElem? h1)
  exact ⟨z2.trans q1, z1, c, q3, q4⟩⟩
/-- a binding that touches these names alone -/
def BdI {τ : Type} (h : FG) (Γ : Cn) (r : Rel τ) (x : τ) (Γ' : Cn) (is : List Nat) : Prop := ∀ M ρ st d, Sat M Γ ρ st → r.at_ M st d x → ∃ ρ', h d ρ st = .ok ρ' st ∧ Sat M Γ' ρ' st ∧ ∀ i, i ∉ is → ρ'[i]? = ρ[i]? ∧ look Γ' i = look Γ i
theorem look_ne : ∀ {Γ : Cn} {i j : Nat} {o : Option Ent}, i ≠ j → look (Γ.set i o) j = look Γ j
  | [], _, _, _, _ => rfl
  | x :: Γ, 0, 0, o, h => absurd rfl h
  | x :: Γ, 0, j + 1, o, h => rfl
  | x :: Γ, i + 1, 0, o, h => rfl
  | x :: Γ, i + 1, j + 1, o, h => look_ne (Γ := Γ) (i := i) (j := j) (by omega)
theorem BdI.name {r : Rel τ} {x : τ} : BdI (hName i) Γ r x (Γ.set i (some ⟨r, x⟩)) [i] := fun M ρ st d h a => ⟨_, rfl, h.set a, fun j hj => by
  have : i ≠ j := fun e => hj (by rw [e]; exact List.mem_cons_self)
  exact ⟨List.getElem?_set_ne this, look_ne this⟩⟩
theorem BdI.pair {h k : FG} {r : Rel α} {s : Rel β} {x : α × β} {Γ1 Γ2 : Cn} {is js : List Nat} (h1 : BdI h Γ r x.1 Γ1 is) (h2 : BdI k Γ1 s x.2 Γ2 js) : BdI (hTup 2 (hCons h (hCons k hNil))) Γ (rP r s) x Γ2 (is ++ js) := fun M ρ st d q aa => by
  obtain ⟨a, b, rfl, a1, a2⟩ := rP_at.mp aa
  obtain ⟨ρ1, e1, q1, n1⟩ := h1 M ρ st a q a1
  obtain ⟨ρ2, e2, q2, n2⟩ := h2 M ρ1 st b q1 a2
  refine ⟨ρ2, by simp [e1, e2], q2, fun i hi => ?_⟩
  rw [List.mem_append, not_or] at hi
  exact ⟨(n2 i hi.2).1.trans (n1 i hi.1).1, (n2 i hi.2).2.trans (n1 i hi.1).2⟩
theorem BdI.trip {h k l : FG} {r : Rel α} {s : Rel β} {t : Rel γ} {x : α × β × γ} {Γ1 Γ2 Γ3 : Cn} {is js ls : List Nat} (h1 : BdI h Γ r x.1 Γ1 is) (h2 : BdI k Γ1 s x.2.1 Γ2 js) (h3 : BdI l Γ2 t x.2.2 Γ3 ls) : BdI (hTup 3 (hCons h (hCons k (hCons l hNil)))) Γ (rT r s t) x Γ3 (is ++ (js ++ ls)) := fun M ρ st d q aa => by
  obtain ⟨a, b, c, rfl, a1, a2, a3⟩ := rT_at.mp aa
  obtain ⟨ρ1, e1, q1, n1⟩ := h1 M ρ st a q a1
  obtain ⟨ρ2, e2, q2, n2⟩ := h2 M ρ1 st b q1 a2
  obtain ⟨ρ3, e3, q3, n3⟩ := h3 M ρ2 st c q2 a3
  refine ⟨ρ3, by simp [e1, e2, e3], q3, fun i hi => ?_⟩
  rw [List.mem_append, List.mem_append, not_or, not_or] at hi
  exact ⟨((n3 i hi.2.2).1.trans (n2 i hi.2.1).1).trans (n1 i hi.1).1, ((n3 i hi.2.2).2.trans (n2 i hi.2.1).2).trans (n1 i hi.1).2⟩
theorem fFor_N {src : FI} {h : FG} {b : FS} {z : Src} {st1 : Sto} (e : src ρ st = .ok z st1) : fFor src h b ρ st = loopN z h b (srcLen z st1 + 1) 0 ρ st1 := by
  unfold fFor
  rw [e]
  cases z with
  | fix ds =>
    have := loopN_fix (h := h) (b := b) ds ds.length 0 ρ st1 (by omega)
    rw [List.drop_zero] at this
    exact this.symm
  | cel n => rfl
  | zip a b => rfl
  | enm a => rfl
/-- a loop with a promise for each turn: S i tells what holds ahead of the turn i -/
theorem W.for_ {src : FI} {h : FG} {b : FS} {r : Rel α} {xs : List α} {is : List Nat} (S : Nat → Cn × List Own) (I : Nat → Prop) (hs : ExI Γ src r xs)
    (h0 : Sub (S 0).1 Γ ∧ (S 0).2 = Ω) (i0 : I 0) (hB : ∀ j (hj : j < xs.length), I j → ∃ Γ', BdI h (S j).1 r xs[j] Γ' is ∧ (∀ o ∈ (S j).2, o.i ∉ is) ∧
      W Γ' (S j).2 b { nx := fun Γ2 Ω2 => I (j + 1) ∧ Sub (S (j + 1)).1 Γ2 ∧ (S (j + 1)).2 = Ω2, ct := fun Γ2 Ω2 => I (j + 1) ∧ Sub (S (j + 1)).1 Γ2 ∧ (S (j + 1)).2 = Ω2, bk := Φ.nx, rt := Φ.rt })
    (hE : I xs.length → Φ.nx (S xs.length).1 (S xs.length).2) : W Γ Ω (fFor src h b) Φ := fun M ks ρ st sat => by
  obtain ⟨z, st1, e1, p1, a1⟩ := hs _ ρ st sat.sat
  rw [fFor_N e1]
  have sat1 := sat.pre p1
  have key : ∀ (m i : Nat) (ks' : List Nat) (ρ' : En) (st' : Sto), SatS M ks' (S i).1 (S i).2 ρ' st' → SrcAt (ks' ++ M) st' z r xs → I i → i ≤ xs.length → xs.length - i < m → Oc M ks' st' Φ (loopN z h b m i ρ' st') := by
    intro m
    induction m with
    | zero => intro i ks' ρ' st' _ _ _ _ hm; omega
    | succ m ih =>
      intro i ks' ρ' st' sat' a' hI hi hm
      have h1 := (a'.2 _ st' .refl).2 i
      rw [loopN]
      by_cases hl : i < xs.length
      · rw [List.getElem?_eq_getElem hl] at h1
        obtain ⟨d, e1, d1⟩ := h1
        obtain ⟨Γ', hb, ho, w⟩ := hB i hl hI
        obtain ⟨ρ2, e2, q2, n2⟩ := hb _ ρ' st' d sat'.sat d1
        have sat2 : SatS M ks' Γ' (S i).2 ρ2 st' := by
          refine ⟨q2, sat'.len, sat'.nd, sat'.dis, fun j o k z1 z2 => ?_⟩
          obtain ⟨y1, y2, y3⟩ := sat'.own j o k z1 z2
          have := n2 o.i (ho o (List.mem_of_getElem? z1))
          exact ⟨this.1.trans y1, this.2.trans y2, y3⟩
        have oc := w M ks' ρ2 st' sat2
        rw [e1]
        show Oc M ks' st' Φ ((h d ρ' st').toO ρ' _)
        rw [e2]
        show Oc M ks' st' Φ (stepO (b ρ2 st') _)
        revert oc
        cases b ρ2 st' with
        | no => intro oc; exact oc
        | exc c x ρ s => intro oc; exact oc
        | nx ρ3 st3 =>
          intro oc
          obtain ⟨ks3, Γ3, Ω3, f3, sat3, i3, s3, rfl⟩ := oc
          exact (ih (i + 1) ks3 ρ3 st3 (sat3.sub s3) (a'.ext f3.xt) i3 hl (by omega)).later f3
        | ct ρ3 st3 =>
          intro oc
          obtain ⟨ks3, Γ3, Ω3, f3, sat3, i3, s3, rfl⟩ := oc
          exact (ih (i + 1) ks3 ρ3 st3 (sat3.sub s3) (a'.ext f3.xt) i3 hl (by omega)).later f3
        | bk ρ3 st3 => intro oc; exact oc
        | rt d3 st3 => intro oc; exact oc
      · rw [List.getElem?_eq_none (by omega)] at h1
        rw [h1]
        have : i = xs.length := by omega
        subst this
        exact ⟨ks', _, _, .refl, sat', hE hI⟩
  have sat2 : SatS M ks (S 0).1 (S 0).2 ρ st1 := by rw [h0.2]; exact sat1.sub h0.1
  exact (key _ 0 ks ρ st1 sat2 a1 i0 (Nat.zero_le _) (by have := (a1.2 _ st1 .refl).1; omega)).later (.pre p1)
/-- a loop as a fold -/
theorem W.fold {σ : Type} {src : FI} {h : FG} {b : FS} {r : Rel α} {xs : List α} {is : List Nat} (S : σ → Cn × List Own) (g : σ → α → σ) (a0 : σ) (hs : ExI Γ src r xs)
    (h0 : Sub (S a0).1 Γ ∧ (S a0).2 = Ω) (hB : ∀ a x, x ∈ xs → ∃ Γ', BdI h (S a).1 r x Γ' is ∧ (∀ o ∈ (S a).2, o.i ∉ is) ∧
      W Γ' (S a).2 b { nx := fun Γ2 Ω2 => Sub (S (g a x)).1 Γ2 ∧ (S (g a x)).2 = Ω2, ct := fun Γ2 Ω2 => Sub (S (g a x)).1 Γ2 ∧ (S (g a x)).2 = Ω2, bk := Φ.nx, rt := Φ.rt })
    (hE : Φ.nx (S (xs.foldl g a0)).1 (S (xs.foldl g a0)).2) : W Γ Ω (fFor src h b) Φ := by
  refine W.for_ (is := is) (fun i => S ((xs.take i).foldl g a0)) (fun _ => True) hs (by simpa using h0) trivial (fun j hj _ => ?_) (fun _ => by simpa using hE)
  obtain ⟨Γ', h1, h2, h3⟩ := hB ((xs.take j).foldl g a0) xs[j] (List.getElem_mem hj)
  refine ⟨Γ', h1, h2, ?_⟩
  have e : (xs.take (j + 1)).foldl g a0 = g ((xs.take j).foldl g a0) xs[j] := by
    rw [List.take_add_one, List.getElem?_eq_getElem hj, List.foldl_append]
    rfl
  simp only [e, true_and]
  exact h3
theorem W.while_ {σ : Type} {n : Nat} {t : FT} {b : FS} (S : σ → Cn × List Own) (P : σ → Prop) (μ : σ → Nat) (c : σ → Bool) (a0 : σ) (h0 : Sub (S a0).1 Γ ∧ (S a0).2 = Ω) (p0 : P a0) (hn : μ a0 < n)
    (ht : ∀ a, P a → ExT (Froz (S a).1 (S a).2) t (c a)) (hB : ∀ a, P a → c a = true → W (S a).1 (S a).2 b { nx := fun Γ2 Ω2 => ∃ a', P a' ∧ μ a' < μ a ∧ Sub (S a').1 Γ2 ∧ (S a').2 = Ω2, ct := fun Γ2 Ω2 => ∃ a', P a' ∧ μ a' < μ a ∧ Sub (S a').1 Γ2 ∧ (S a').2 = Ω2, bk := Φ.nx, rt := Φ.rt })
    (hE : ∀ a, P a → c a = false → Φ.nx (S a).1 (S a).2) : W Γ Ω (fWhile n t b) Φ := fun M ks ρ st sat => by
  have key : ∀ (m : Nat) (a : σ) (ks' : List Nat) (ρ' : En) (st' : Sto), SatS M ks' (S a).1 (S a).2 ρ' st' → P a → μ a < m → Oc M ks' st' Φ (whileF t b m ρ' st') := by
    intro m
    induction m with
    | zero => intro a ks' ρ' st' _ _ hm; omega
    | succ m ih =>
      intro a ks' ρ' st' sat' pa hm
      obtain ⟨st2, e2, p2⟩ := ht a pa M ρ' st' sat'.froz
      rw [whileF, e2]
      show Oc M ks' st' Φ (if c a = true then _ else _)
      by_cases hc : c a = true
      · rw [if_pos hc]
        have oc := hB a pa hc M ks' ρ' st2 (sat'.pre p2)
        revert oc
        cases b ρ' st2 with
        | no => intro oc; exact oc
        | exc c x ρ s => intro oc; exact oc
        | nx ρ3 st3 =>
          intro oc
          obtain ⟨ks3, Γ3, Ω3, f3, sat3, a', pa', hlt, s3, rfl⟩ := oc
          exact (ih a' ks3 ρ3 st3 (sat3.sub s3) pa' (by omega)).later ((Fra.pre p2).trans f3)
        | ct ρ3 st3 =>
          intro oc
          obtain ⟨ks3, Γ3, Ω3, f3, sat3, a', pa', hlt, s3, rfl⟩ := oc
          exact (ih a' ks3 ρ3 st3 (sat3.sub s3) pa' (by omega)).later ((Fra.pre p2).trans f3)
        | bk ρ3 st3 => intro oc; exact Oc.later (.pre p2) oc
        | rt d3 st3 => intro oc; exact Oc.later (Φ := Φ) (.pre p2) oc
      · rw [if_neg hc]
        exact ⟨ks', _, _, .pre p2, sat'.pre p2, hE a pa (by simpa using hc)⟩
  have sat2 : SatS M ks (S a0).1 (S a0).2 ρ st := by rw [h0.2]; exact sat.sub h0.1
  exact key n a0 ks ρ st sat2 p0 hn
/-- what was in motion rests from here on -/
theorem W.freeze {o : Own} (h : W (Γ.set o.i (some ⟨o.c.fz, o.v⟩)) Ω s Φ) (ho : ∀ q ∈ Ω, q.i ≠ o.i := by simp) : W Γ (Ω ++ [o]) s Φ := fun M ks ρ st sat => by
  have hl : ks.length = Ω.length + 1 := by rw [sat.len]; simp
  obtain ⟨ks, k, rfl⟩ : ∃ a b, ks = a ++ [b] := by
    refine ⟨ks.dropLast, ks.getLast (by intro e; rw [e] at hl; simp at hl), ?_⟩
    rw [List.dropLast_concat_getLast]
  have hl : ks.length = Ω.length := by simpa using hl
  obtain ⟨q1, q2, c, q3, q4⟩ := sat.own Ω.length o k (by simp) (by rw [← hl]; simp)
  have nk : k ∉ ks ++ M := fun z => by
    rcases List.mem_append.mp z with z | z
    · have := sat.nd
      rw [List.nodup_append] at this
      exact this.2.2 k z k (by simp) rfl
    · exact sat.dis k (by simp) z
  have sub : ∀ i, i ∈ ks ++ M → i < st.length → i ∈ (ks ++ [k]) ++ M := fun i hi _ => by
    rcases List.mem_append.mp hi with z | z
    · exact List.mem_append_left _ (List.mem_append_left _ z)
    · exact List.mem_append_right _ z
  have a : o.c.fz.at_ (ks ++ M) st (.cel k) o.v := o.c.frz nk q3 (o.c.ext (.sub sub) q4)
  have e : ρ.set o.i (some (.cel k)) = ρ := by
    refine List.ext_getElem? fun j => ?_
    by_cases hj : o.i = j
    · subst hj
      rw [q1, List.getElem?_set_self (List.getElem?_eq_some_iff.mp q1).1]
    · rw [List.getElem?_set_ne hj]
  have base : Sat (ks ++ M) Γ ρ st := ⟨sat.sat.len, fun m hm => sat.sat.mot m (by
    rcases List.mem_append.mp hm with z | z
    · exact List.mem_append_left _ (List.mem_append_left _ z)
    · exact List.mem_append_right _ z), fun i e q => by
    obtain ⟨d, h1, h2⟩ := sat.sat.at_ i e q
    exact ⟨d, h1, e.r.sub sub h2⟩⟩
  have s2 := base.set (i := o.i) a
  rw [e] at s2
  have satS : SatS M ks (Γ.set o.i (some ⟨o.c.fz, o.v⟩)) Ω ρ st := ⟨s2, hl, (List.nodup_append.mp sat.nd).1, fun x hx => sat.dis x (List.mem_append_left _ hx), fun j o' k' h1 h2 => by
    have hj := (List.getElem?_eq_some_iff.mp h1).1
    obtain ⟨w1, w2, c', w3, w4⟩ := sat.own j o' k' (by rw [List.getElem?_append_left hj]; exact h1) (by rw [List.getElem?_append_left (by rw [hl]; exact hj)]; exact h2)
    refine ⟨w1, ?_, c', w3, o'.c.ext (.sub sub) w4⟩
    have := ho o' (List.mem_of_getElem? h1)
    rw [look_ne (Ne.symm this)]
    exact w2⟩
  have oc := h M ks ρ st satS
  have fr : Fra (ks ++ [k]) st ks st := ⟨Nat.le_refl _, fun _ _ _ => rfl, fun x hx => .inl (List.mem_append_left _ hx)⟩
  exact oc.later fr
/-! ### defs -/
def ret {τ : Type} (r : Rel τ) (v : τ) : Post where
  nx _ _ := (⟨rU, ()⟩ : Ent) = ⟨r, v⟩
  rt r' v' := (⟨r', v'⟩ : Ent) = ⟨r, v⟩
  bk _ _ := False
  ct _ _ := False
theorem ret_rt {v' : τ} (e : v' = v) : (ret r v).rt r v' := by subst e; rfl
theorem ret_nx {Γ : Cn} {Ω : List Own} : (ret rU ()).nx Γ Ω := rfl
theorem sl_map {ds : List D} {es : List Ent} (h : SL M st ds es) : ∀ (i n m : Nat) (e : Ent), look (es.map some ++ List.replicate n none) i = some e → ∃ d, (ds.map some ++ List.replicate m none)[i]? = some (some d) ∧ e.r.at_ M st d e.v := by
  induction h with
  | nil =>
    intro i n m e q
    exfalso
    rw [List.map_nil, List.nil_append] at q
    induction n generalizing i with
    | zero => cases q
    | succ n ih =>
      rw [List.replicate_succ] at q
      cases i with
      | zero => cases q
      | succ i => exact ih i q
  | cons a h ih =>
    intro i n m e q
    cases i with
    | zero =>
      cases q
      exact ⟨_, rfl, a⟩
    | succ i => exact ih i n m e q
theorem Rn.of {N : List Str} {np : Nat} {fb : FS} {es : List Ent} (h : W (es.map some ++ List.replicate (N.length - np) none) [] fb (ret r v)) (hn : es.length = np := by rfl) : Rn (genF0 N np fb) es r v := fun M st ds hm sl => by
  have hl : ds.length = np := sl.len.trans hn
  have sat : SatS M [] (es.map some ++ List.replicate (N.length - np) none) [] (startE N ds) st := ⟨⟨by simp [startE, hl, hn], hm, fun i e q => by
    obtain ⟨d, h1, h2⟩ := sl_map sl i _ (N.length - ds.length) e q
    exact ⟨d, h1, h2⟩⟩, rfl, List.nodup_nil, fun k hk => by simp at hk, fun j o k h1 h2 => by simp at h1⟩
  have oc := h M [] _ st sat
  rw [ev_gen0, ev_gen, if_pos hl]
  revert oc
  cases fb (startE N ds) st with
  | no => intro oc; exact oc.elim
  | exc c x ρ s => intro oc; exact oc.elim
  | bk ρ s => intro oc; obtain ⟨_, _, _, _, _, q⟩ := oc; exact q.elim
  | ct ρ s => intro oc; obtain ⟨_, _, _, _, _, q⟩ := oc; exact q.elim
  | nx ρ s =>
    intro oc
    obtain ⟨ks', Γ', Ω', f, sat', q⟩ := oc
    have q : (⟨rU, ()⟩ : Ent) = ⟨r, v⟩ := q
    cases q
    refine ⟨.non, s, rfl, ?_, rU_at.mpr rfl⟩
    rw [List.prefix_iff_eq_take]
    refine List.ext_getElem? fun i => ?_
    by_cases hi : i < st.length
    · rw [List.getElem?_take_of_lt hi, f.keep i hi (by simp)]
    · rw [List.getElem?_eq_none (by omega), List.getElem?_eq_none (by rw [List.length_take]; omega)]
  | rt d s =>
    intro oc
    obtain ⟨ks', τ', r', v', f, a, q⟩ := oc
    have q : (⟨r', v'⟩ : Ent) = ⟨r, v⟩ := q
    cases q
    refine ⟨d, s, rfl, ?_, a⟩
    rw [List.prefix_iff_eq_take]
    refine List.ext_getElem? fun i => ?_
    by_cases hi : i < st.length
    · rw [List.getElem?_take_of_lt hi, f.keep i hi (by simp)]
    · rw [List.getElem?_eq_none (by omega), List.getElem?_eq_none (by rw [List.length_take]; omega)]
end
end FL

/-! FVe: more rules; the common helpers as runs -/
namespace FL
open PySem PySem.Spec PyProof.Rows L2
section
variable {M : List Nat} {Γ : Cn} {ρ : En} {st st' : Sto} {τ α β γ δ : Type} {r : Rel τ} {v : τ} {d : D} {i : Nat}
theorem ExI.rangeS {f : FE} {s : List Nat} (h : Ex Γ f rS s) : ExI Γ (iRange1 (fCB kLen (faCons f faNil))) rN (List.range s.length) := fun M ρ st q => by
  obtain ⟨d, st', e, p, a⟩ := h M ρ st q
  exact ExI.range1 (Ex.cb (ExA.cons h .nil) run_lenS) (rS_at.mp a).2.2 M ρ st q
theorem ExI.rangeL {f : FE} {r : Rel τ} {s : List τ} (h : Ex Γ f (rL r) s) : ExI Γ (iRange1 (fCB kLen (faCons f faNil))) rN (List.range s.length) := fun M ρ st q => by
  obtain ⟨d, st', e, p, a⟩ := h M ρ st q
  obtain ⟨_, _, hl, _⟩ := rL_at.mp a
  exact ExI.range1 (Ex.cb (ExA.cons h .nil) run_lenL) hl M ρ st q
theorem ExI.range2S {f g : FE} {m : Nat} {s : List Nat} (k : Ex Γ g rN m) (h : Ex Γ f rS s) (hm : m ≤ lim) : ExI Γ (iRange2 g (fCB kLen (faCons f faNil))) rN (List.range' m (s.length - m)) := fun M ρ st q => by
  obtain ⟨d, st', e, p, a⟩ := h M ρ st q
  exact ExI.range2 k (Ex.cb (ExA.cons h .nil) run_lenS) (rS_at.mp a).2.2 hm M ρ st q
theorem ExI.range2L {f g : FE} {m : Nat} {r : Rel τ} {s : List τ} (k : Ex Γ g rN m) (h : Ex Γ f (rL r) s) (hm : m ≤ lim) : ExI Γ (iRange2 g (fCB kLen (faCons f faNil))) rN (List.range' m (s.length - m)) := fun M ρ st q => by
  obtain ⟨d, st', e, p, a⟩ := h M ρ st q
  obtain ⟨_, _, hl, _⟩ := rL_at.mp a
  exact ExI.range2 k (Ex.cb (ExA.cons h .nil) run_lenL) hl hm M ρ st q
theorem eqNil_at {r : Rel τ} [RelPy r] {x : List τ} (hd : RelPy.dep r ≤ 39) (a : (rL r).at_ M st d x) (b : Bool) : gEqN b d (.lst []) st = .ok (.bl (b != x.isEmpty)) st := by
  have e1 := to40 (r := rL r) (by show RelPy.dep r + 1 ≤ 40; omega) a
  unfold gEqN
  rw [e1, toNil]
  cases x with
  | nil => rfl
  | cons x xs => rfl
theorem Ex.eqNil {f : FE} {r : Rel τ} {x : List τ} (h : Ex Γ f (rL r) x) (i : RelPy r) (hd : i.dep ≤ 39) : Ex Γ (fBin gEq f (fLst faNil)) rB x.isEmpty := fun M ρ st q => by
  obtain ⟨d, st1, e1, p1, a1⟩ := h M ρ st q
  have := eqNil_at hd a1 false
  exact ⟨_, st1, by simp [e1, lim]; exact this, p1, rB_at.mpr (by simp)⟩
theorem Ex.neNil {f : FE} {r : Rel τ} {x : List τ} (h : Ex Γ f (rL r) x) (i : RelPy r) (hd : i.dep ≤ 39) : Ex Γ (fBin gNe f (fLst faNil)) rB (!x.isEmpty) := fun M ρ st q => by
  obtain ⟨d, st1, e1, p1, a1⟩ := h M ρ st q
  have := eqNil_at hd a1 true
  exact ⟨_, st1, by simp [e1, lim]; exact this, p1, rB_at.mpr (by simp)⟩
/-- what the arguments tell by being there -/
theorem Rn.have_ {F : F1} {es : List Ent} {p : Prop} (hp : ∀ M st ds, SL M st ds es → p) (h : p → Rn F es r v) : Rn F es r v := fun M st ds hm sl => h (hp M st ds sl) M st ds hm sl
theorem Rn.haveS {F : F1} {s : List Nat} {es : List Ent} (h : okT s ∧ s.length ≤ lim → Rn F (⟨rS, s⟩ :: es) r v) : Rn F (⟨rS, s⟩ :: es) r v := Rn.have_ (fun M st ds sl => by
  cases sl with
  | cons a _ => exact (rS_at.mp a).2) h
theorem Ex.have_ {f : FE} {p : Prop} (hp : ∀ M ρ st, Sat M Γ ρ st → p) (h : p → Ex Γ f r v) : Ex Γ f r v := fun M ρ st q => h (hp M ρ st q) M ρ st q
theorem Ex.haveS {f : FE} {s : List Nat} (i : Nat) (hi : look Γ i = some ⟨rS, s⟩) (h : okT s → s.length ≤ lim → Ex Γ f r v) : Ex Γ f r v := fun M ρ st q => by
  obtain ⟨d, _, a⟩ := q.at_ i _ hi
  exact h (rS_at.mp a).2.1 (rS_at.mp a).2.2 M ρ st q
theorem W.have_ {Ω : List Own} {s : FS} {Φ : Post} {p : Prop} (hp : ∀ M ρ st, Sat M Γ ρ st → p) (h : p → W Γ Ω s Φ) : W Γ Ω s Φ := fun M ks ρ st q => h (hp _ ρ st q.sat) M ks ρ st q
theorem W.haveS {Ω : List Own} {s : FS} {Φ : Post} {t : List Nat} (i : Nat) (hi : look Γ i = some ⟨rS, t⟩) (h : okT t → t.length ≤ lim → W Γ Ω s Φ) : W Γ Ω s Φ := fun M ks ρ st q => by
  obtain ⟨d, _, a⟩ := q.sat.at_ i _ hi
  exact h (rS_at.mp a).2.1 (rS_at.mp a).2.2 M ks ρ st q
theorem W.haveL {Ω : List Own} {s : FS} {Φ : Post} {r : Rel τ} {t : List τ} (i : Nat) (hi : look Γ i = some ⟨rL r, t⟩) (h : t.length ≤ lim → W Γ Ω s Φ) : W Γ Ω s Φ := fun M ks ρ st q => by
  obtain ⟨d, _, a⟩ := q.sat.at_ i _ hi
  obtain ⟨_, _, hl, _⟩ := rL_at.mp a
  exact h hl M ks ρ st q
/-- a list of the kind that is told -/
theorem Rn.sp1 {F : F1} {r : Rel α} {x : α} {s : Rel β} {y : β} (h : ∀ M st d, (∀ m ∈ M, m < st.length) → r.at_ M st d x → ∃ d' st', F [d] st = .ok d' st' ∧ st <+: st' ∧ s.at_ M st' d' y) : Rn F [⟨r, x⟩] s y := fun M st ds hm sl => by
  obtain ⟨d, rfl, a⟩ := sl.one
  exact h M st d hm a
/-! ### exactly alike -/
class ExR (r : Rel τ) where
  dep : Nat
  ex : ∀ {M : List Nat} {st : Sto} {d e : D} {v : τ} {n : Nat}, r.at_ M st d v → r.at_ M st e v → F__law_exact (n + dep + 1) [d, e] st = .ok (.bl true) st
instance : ExR rN where
  dep := 0
  ex a b := by rw [rN_at.mp a, rN_at.mp b]; exact ex_int
instance : ExR rI where
  dep := 0
  ex a b := by rw [rI_at.mp a, rI_at.mp b]; exact ex_int
instance : ExR rB where
  dep := 0
  ex a b := by rw [rB_at.mp a, rB_at.mp b]; exact ex_bl
instance : ExR rU where
  dep := 0
  ex a b := by rw [rU_at.mp a, rU_at.mp b]; exact ex_non
instance : ExR rS where
  dep := 0
  ex a b := by
    obtain ⟨rfl, h, _⟩ := rS_at.mp a
    rw [(rS_at.mp b).1]; exact ex_str h
theorem ItAt.isL {ds : List D} (h : ItAt M st d ds) : isL st d ds := by
  rcases h with rfl | ⟨k, rfl, _, hk⟩
  · exact .inl rfl
  · exact .inr ⟨k, rfl, hk⟩
instance {r : Rel τ} [ExR r] : ExR (rL r) where
  dep := ExR.dep r + 1
  ex {M st d e v n} a b := by
    obtain ⟨ds, a1, a2, a3⟩ := rL_at.mp a
    obtain ⟨es, b1, b2, b3⟩ := rL_at.mp b
    refine ex_lst (n := n + ExR.dep r + 1) a1.isL b1.isL (by rw [a3.len, b3.len]) (by rw [a3.len]; exact a2) fun i x y hx hy => ?_
    have hi : i < v.length := by rw [← a3.len]; exact (List.getElem?_eq_some_iff.mp hx).1
    obtain ⟨x', e1, a4⟩ := a3.get (List.getElem?_eq_getElem hi)
    obtain ⟨y', e2, a5⟩ := b3.get (List.getElem?_eq_getElem hi)
    rw [hx] at e1
    rw [hy] at e2
    cases e1
    cases e2
    exact ExR.ex a4 a5
theorem run_exact {n : Nat} {r : Rel τ} [ExR r] {v w : τ} (e : v = w) (h : ExR.dep r < n) : Rn (F__law_exact n) [⟨r, v⟩, ⟨r, w⟩] rB true := fun M st ds hm sl => by
  obtain ⟨a, b, rfl, h1, h2⟩ := sl.two
  subst e
  refine ⟨.bl true, st, ?_, List.prefix_rfl, rB_at.mpr rfl⟩
  obtain ⟨m, rfl⟩ : ∃ m, n = m + ExR.dep r + 1 := ⟨n - ExR.dep r - 1, by omega⟩
  exact ExR.ex h1 h2
/-! ### common helpers -/
theorem run_is_story {s : List Nat} (h : ∀ c ∈ s, c ∈ AZ) : Rn F_is_story [⟨rS, s⟩] rB true := .sp1 fun M st d hm a => by
  obtain ⟨rfl, _, hl⟩ := rS_at.mp a
  exact ⟨_, st, sp_is_story h hl, List.prefix_rfl, rB_at.mpr rfl⟩
theorem run_check_scrap {s : List Nat} (h : Sc s) : Rn F_check_scrap [⟨rS, s⟩] rU () := .sp1 fun M st d hm a => by
  obtain ⟨rfl, _, hl⟩ := rS_at.mp a
  exact ⟨_, st, sp_check_scrap h, List.prefix_rfl, rU_at.mpr rfl⟩
theorem Sc.str {s : List Nat} (h : Sc s) : rS.at_ M st (.str s) s := rS_at.mpr ⟨rfl, h.ok, h.lim⟩
theorem Ts_ok' {s : List Nat} (h : Sc s) : ∀ t ∈ Ts s, okT t ∧ t.length ≤ lim := fun t ht => by
  obtain ⟨i, rfl⟩ := (Ts_mem h.ne).mp ht
  exact ⟨(h.rot i).ok, (h.rot i).lim⟩
theorem Ts_lim' {s : List Nat} (h : Sc s) : (Ts s).length ≤ lim := by
  rw [Ts_len]; have := per_le h; unfold FL.lim; omega
theorem run_turnings {s : List Nat} (h : Sc s) : Rn F__law_turnings [⟨rS, s⟩] (rL rS) (Ts s) := .sp1 fun M st d hm a => by
  obtain ⟨rfl, _, hl⟩ := rS_at.mp a
  exact ⟨_, _, sp_turnings h, pre_snoc, cel_new hm (strs_A2 (Ts_ok' h)) (Ts_lim' h)⟩
theorem run_all_turnings {s : List Nat} (h : Sc s) : Rn F_all_turnings [⟨rS, s⟩] (rL rS) (Ts s) := .sp1 fun M st d hm a => by
  obtain ⟨rfl, _, hl⟩ := rS_at.mp a
  exact ⟨_, _, sp_all_turnings h, pre_snoc, cel_new hm (strs_A2 (Ts_ok' h)) (Ts_lim' h)⟩
theorem run_turning {s : List Nat} (h : Sc s) {m : Nat} (hm : m ≤ 1000000) : Rn F__law_turning [⟨rS, s⟩, ⟨rN, m⟩] rS (rot s m) := fun M st ds _ sl => by
  obtain ⟨a, b, rfl, h1, h2⟩ := sl.two
  rw [(rS_at.mp h1).1, rN_at.mp h2]
  exact ⟨_, st, sp_turning h hm, List.prefix_rfl, (h.rot m).str⟩
theorem run_unlike {ss : List (List Nat)} : Rn F__law_unlike [⟨rL rS, ss⟩] (rL rS) (uq [] (srt leS ss)) := .sp1 fun M st d hm a => by
  obtain ⟨ds, h1, h2, h3⟩ := rL_at.mp a
  have ok := h3.oks
  have hl : (uq [] (srt leS ss)).length ≤ lim := Nat.le_trans (uq_len _ _) (by rw [(srt_perm ss).length_eq]; simpa using h2)
  have hok : ∀ s ∈ uq [] (srt leS ss), okT s ∧ s.length ≤ lim := fun s hs => by
    rw [uq_mem, srt_mem] at hs
    rcases hs with hs | hs
    · cases hs
    · exact ok s hs
  have ks : kSorted [d] (st ++ [.lst []]) = .ok (.lst ((srt leS ss).map D.str)) (st ++ [.lst []]) := by
    have : items (st ++ [Co.lst []]) d = some ds := (h1.ext (.pre (st' := st ++ [.lst []]) pre_snoc)).items
    unfold kSorted
    simp only [(h1.ext (.pre (st' := st ++ [.lst []]) pre_snoc)).itemsR, h3.strs, strsOf_map]
  obtain ⟨t', e⟩ := unlike_loop (st := st) (d := d) (srt leS ss) [] none (fun s hs => (ok s (srt_mem.mp hs)).1) (by simp) (by rw [(srt_perm ss).length_eq]; simpa using h2)
  refine ⟨.cel st.length, st ++ [.lst ((uq [] (srt leS ss)).map D.str)], ?_, pre_snoc, cel_new hm (strs_A2 hok) hl⟩
  unfold F__law_unlike fb__law_unlike
  generalize hS : (srt leS ss).map D.str = S at *
  rw [List.map_nil] at e
  simp [ks, itemsR, items, e, lim]
/-! ### marks -/
theorem Ex.marked {e : FE} {n : Nat} {ss : List (List Nat)} (h : ExC Γ e (oL rS) ss) (hn : ∀ s ∈ ss, s ≠ mk') (hl : ss.length < lim) : Ex Γ (fCall 1 (F__law_marked (n + 2)) (faCons e faNil)) rB true := fun M ρ st q => by
  obtain ⟨c, st1, e1, p1, ds, rfl, _, a⟩ := h M ρ st q
  have m := marked_cel (st := st1 ++ [.lst ds]) (n := n) (k := st1.length) (ss := ss) (by rw [a.strs]; simp) (fun s hs => (a.oks s hs).1) hn hl
  refine ⟨.bl true, _, by simp [e1, m]; rfl, ?_, rB_at.mpr rfl⟩
  exact p1.trans (List.prefix_append _ _)
end
end FL

/-! FVf: what draws numbers: a generator's cell n, its count at most k -/
namespace FL
open PySem PySem.Spec PyProof.Rows L2

/-- a cell as such -/
@[irreducible] def rC : Rel Nat := ⟨fun _ _ d v => d = .cel v, fun _ h => h⟩
theorem rC_at {M : List Nat} {st : Sto} {d : D} {v : Nat} : rC.at_ M st d v ↔ d = .cel v := by unfold rC; exact Iff.rfl
instance : Free rC := ⟨fun h => rC_at.mpr (rC_at.mp h)⟩
def kB : Nat := 100000000000
def ExG {τ : Type} (n k : Nat) (Γ : Cn) (f : FE) (r : Rel τ) (φ : τ → Prop) (k' : Nat) : Prop := ∀ M ρ st, n ∈ M → Gen st n (k : Int) → Sat M Γ ρ st → ∃ v d st', f ρ st = .ok d st' ∧ Fr n st st' ∧ Gen st' n (k' : Int) ∧ r.at_ M st' d v ∧ φ v
def ExTG (n k : Nat) (Γ : Cn) (f : FT) (φ : Bool → Prop) (k' : Nat) : Prop := ∀ M ρ st, n ∈ M → Gen st n (k : Int) → Sat M Γ ρ st → ∃ b st', f ρ st = .ok b st' ∧ Fr n st st' ∧ Gen st' n (k' : Int) ∧ φ b
def ExIG {τ : Type} (n k : Nat) (Γ : Cn) (f : FI) (r : Rel τ) (φ : List τ → Prop) (k' : Nat) : Prop := ∀ M ρ st, n ∈ M → Gen st n (k : Int) → Sat M Γ ρ st → ∃ xs s st', f ρ st = .ok s st' ∧ Fr n st st' ∧ Gen st' n (k' : Int) ∧ SrcAt M st' s r xs ∧ φ xs
def RnG {τ : Type} (F : F1) (es : Nat → List Ent) (r : Rel τ) (φ : τ → Prop) (c : Nat) : Prop := ∀ (n k : Nat) (M : List Nat) (st : Sto) (ds : List D), n ∈ M → (∀ m ∈ M, m < st.length) → Gen st n (k : Int) → k + c ≤ kB → SL M st ds (es n) → ∃ v d st', F ds st = .ok d st' ∧ Fr n st st' ∧ Gen st' n ((k + c : Nat) : Int) ∧ r.at_ M st' d v ∧ φ v
section
variable {n k k1 k2 k3 : Nat} {M ks : List Nat} {Γ Γ' : Cn} {Ω : List Own} {ρ : En} {st st' : Sto} {τ α β γ : Type} {r : Rel τ} {v : τ} {i c : Nat}
theorem Fr.xt (h : Fr n st st') (hn : n ∈ M) : Xt M st M st' := ⟨h.len, fun i hi hm => ⟨h.keep i hi fun e => hm (e ▸ hn), hm⟩⟩
theorem Fr.pre (p : st <+: st') : Fr n st st' := ⟨p.length_le, fun i hi _ => by
  obtain ⟨t, rfl⟩ := p
  exact List.getElem?_append_left hi⟩
theorem Gen.pre {k : Int} (g : Gen st n k) (p : st <+: st') : Gen st' n k := by
  obtain ⟨a, b, c, h1, h2⟩ := g
  obtain ⟨t, rfl⟩ := p
  exact ⟨a, b, c, by rw [List.getElem?_append_left (List.getElem?_eq_some_iff.mp h1).1]; exact h1, h2⟩
theorem Gen.same {k : Int} (g : Gen st n k) (h : st'[n]? = st[n]?) : Gen st' n k := by
  obtain ⟨a, b, c, h1, h2⟩ := g
  exact ⟨a, b, c, h.trans h1, h2⟩
theorem Sat.xt (h : Sat M Γ ρ st) (x : Xt M st M st') : Sat M Γ ρ st' := ⟨h.len, fun m hm => Nat.lt_of_lt_of_le (h.mot m hm) x.1, fun i e q => by
  obtain ⟨d, h1, h2⟩ := h.at_ i e q
  exact ⟨d, h1, e.r.ext x h2⟩⟩
theorem ExG.pure {f : FE} (h : Ex Γ f r v) : ExG n k Γ f r (· = v) k := fun M ρ st hn g sat => by
  obtain ⟨d, st', e, p, a⟩ := h M ρ st sat
  exact ⟨v, d, st', e, .pre p, g.pre p, a, rfl⟩
theorem ExG.imp {f : FE} {φ ψ : τ → Prop} (h : ExG n k Γ f r φ k1) (q : ∀ v, φ v → ψ v) (hk : k1 ≤ k2) : ExG n k Γ f r ψ k2 := fun M ρ st hn g sat => by
  obtain ⟨v, d, st', e, p, g', a, z⟩ := h M ρ st hn g sat
  exact ⟨v, d, st', e, p, g'.mono (by omega), a, q v z⟩
theorem ExTG.pure {f : FT} {b : Bool} (h : ExT Γ f b) : ExTG n k Γ f (· = b) k := fun M ρ st hn g sat => by
  obtain ⟨st', e, p⟩ := h M ρ st sat
  exact ⟨b, st', e, .pre p, g.pre p, rfl⟩
theorem ExTG.imp {f : FT} {φ ψ : Bool → Prop} (h : ExTG n k Γ f φ k1) (q : ∀ v, φ v → ψ v) (hk : k1 ≤ k2) : ExTG n k Γ f ψ k2 := fun M ρ st hn g sat => by
  obtain ⟨v, st', e, p, g', z⟩ := h M ρ st hn g sat
  exact ⟨v, st', e, p, g'.mono (by omega), q v z⟩
theorem ExG.bin {g : F2} {a b : FE} {r : Rel α} {s : Rel β} {t : Rel γ} {φ : α → Prop} {ψ : α → β → Prop} {z : α → β → γ} (ha : ExG n k Γ a r φ k1) (hb : ∀ x, φ x → ExG n k1 Γ b s (ψ x) k2) (ho : ∀ x y, φ x → ψ x y → Rn2 g r x s y t (z x y)) :
    ExG n k Γ (fBin g a b) t (fun w => ∃ x y, φ x ∧ ψ x y ∧ w = z x y) k2 := fun M ρ st hn gn sat => by
  obtain ⟨x, d1, st1, e1, f1, g1, a1, p1⟩ := ha M ρ st hn gn sat
  obtain ⟨y, d2, st2, e2, f2, g2, a2, p2⟩ := hb x p1 M ρ st1 hn g1 (sat.xt (f1.xt hn))
  obtain ⟨d3, e3, a3⟩ := ho x y p1 p2 M st2 d1 d2 (r.ext (f2.xt hn) a1) a2
  exact ⟨_, d3, st2, by simp [e1, e2, e3], f1.trans f2, g2, a3, x, y, p1, p2, rfl⟩
theorem ExTG.test {f : FE} {φ : Bool → Prop} (h : ExG n k Γ f rB φ k1) : ExTG n k Γ (fTest f) φ k1 := fun M ρ st hn g sat => by
  obtain ⟨v, d, st', e, p, g', a, z⟩ := h M ρ st hn g sat
  rw [rB_at.mp a] at e
  exact ⟨v, st', by simp [e], p, g', z⟩
theorem ExTG.not {f : FT} {φ : Bool → Prop} (h : ExTG n k Γ f φ k1) : ExTG n k Γ (fNotT f) (fun b => φ (!b)) k1 := fun M ρ st hn g sat => by
  obtain ⟨v, st', e, p, g', z⟩ := h M ρ st hn g sat
  exact ⟨!v, st', by simp [e], p, g', by simpa using z⟩
theorem ExG.ite {t : FT} {f g : FE} {φ : Bool → Prop} {ψ : τ → Prop} (h : ExTG n k Γ t φ k1) (hf : φ true → ExG n k1 Γ f r ψ k2) (hg : φ false → ExG n k1 Γ g r ψ k2) : ExG n k Γ (fIfE t f g) r ψ k2 := fun M ρ st hn gn sat => by
  obtain ⟨b, st1, e1, f1, g1, p1⟩ := h M ρ st hn gn sat
  cases b with
  | true =>
    obtain ⟨v, d, st2, e2, f2, g2, a2, p2⟩ := hf p1 M ρ st1 hn g1 (sat.xt (f1.xt hn))
    exact ⟨v, d, st2, by simp [e1, e2], f1.trans f2, g2, a2, p2⟩
  | false =>
    obtain ⟨v, d, st2, e2, f2, g2, a2, p2⟩ := hg p1 M ρ st1 hn g1 (sat.xt (f1.xt hn))
    exact ⟨v, d, st2, by simp [e1, e2], f1.trans f2, g2, a2, p2⟩
/-- a call that draws: its arguments draw nothing -/
theorem ExG.call {m : Nat} {F : F1} {fa : FA} {es : Nat → List Ent} {φ : τ → Prop} (ha : ExA Γ fa (es n)) (hr : RnG F es r φ c) (hk : k + c ≤ kB) (hn : LenIs (es n) m) : ExG n k Γ (fCall m F fa) r φ (k + c) := fun M ρ st hM g sat => by
  obtain ⟨ds, st1, e1, p1, a1⟩ := ha M ρ st sat
  obtain ⟨v, d, st2, e2, f2, g2, a2, z⟩ := hr n k M st1 ds hM (mot_pre sat.mot p1) (g.pre p1) hk a1
  have hn : (es n).length = m := hn
  exact ⟨v, d, st2, by simp [e1, a1.len, hn, e2], (Fr.pre p1).trans f2, g2, a2, z⟩
/-- .. its last argument draws -/
theorem ExG.call2 {F : F1} {f : FE} {s : Rel α} {ψ : α → Prop} {φ : α → τ → Prop} (hv : look Γ i = some ⟨rC, n⟩) (ha : ExG n k Γ f s ψ k1) (hr : ∀ x, ψ x → RnG F (fun n => [⟨rC, n⟩, ⟨s, x⟩]) r (φ x) c) (hk : k1 + c ≤ kB) :
    ExG n k Γ (fCall 2 F (faCons (fVar i) (faCons f faNil))) r (fun v => ∃ x, ψ x ∧ φ x v) (k1 + c) := fun M ρ st hM g sat => by
  obtain ⟨d0, e0, a0⟩ := sat.at_ i _ hv
  obtain ⟨x, d1, st1, e1, f1, g1, a1, p1⟩ := ha M ρ st hM g sat
  have sat1 := sat.xt (f1.xt hM)
  obtain ⟨v, d, st2, e2, f2, g2, a2, z⟩ := hr x p1 n k1 M st1 [d0, d1] hM sat1.mot g1 hk (.cons (rC.ext (f1.xt hM) a0) (.cons a1 .nil))
  exact ⟨v, d, st2, by simp [e0, e1, e2], f1.trans f2, g2, a2, x, p1, z⟩
theorem ExIG.pure {f : FI} {xs : List τ} (h : ExI Γ f r xs) : ExIG n k Γ f r (· = xs) k := fun M ρ st hn g sat => by
  obtain ⟨s, st', e, p, a⟩ := h M ρ st sat
  exact ⟨xs, s, st', e, .pre p, g.pre p, a, rfl⟩
theorem ExIG.range1 {f : FE} {φ : Nat → Prop} (h : ExG n k Γ f rN φ k1) (hl : ∀ m, φ m → m ≤ lim) : ExIG n k Γ (iRange1 f) rN (fun xs => ∃ m, φ m ∧ xs = List.range m) k1 := fun M ρ st hn g sat => by
  obtain ⟨m, d, st', e, f1, g1, a, p⟩ := h M ρ st hn g sat
  have hl := hl m p
  rw [rN_at.mp a] at e
  have ok : okR (m : Int) = true := by unfold okR; unfold lim at hl; simp; omega
  refine ⟨List.range m, .fix ((rng 0 (m : Int)).map D.int), st', by simp [e, ok], f1, g1, srcAt_fix ?_ (by simpa using hl), m, p, rfl⟩
  have : (rng 0 (m : Int)).map D.int = (List.range m).map fun i : Nat => D.int (i : Int) := by unfold rng; simp
  rw [this]
  exact A2.map_l fun i _ => rN_at.mpr rfl
/-- a comprehension that draws c a turn -/
theorem lcN_g {s : Src} {T : D → Sto → R (Option D)} {r : Rel α} {r2 : Rel β} {xs : List α} {φ : α → β → Prop} {k0 : Nat} (hT : ∀ x ∈ xs, ∀ (st1 : Sto) d (k : Nat), n ∈ M → Gen st1 n (k : Int) → k + c ≤ k0 + c * xs.length → Xt M st M st1 → r.at_ M st1 d x → ∃ d2 y st2, T d st1 = .ok (some d2) st2 ∧ Fr n st1 st2 ∧ Gen st2 n ((k + c : Nat) : Int) ∧ r2.at_ M st2 d2 y ∧ φ x y) (hn : n ∈ M) :
    ∀ (m i : Nat) (st1 : Sto), Xt M st M st1 → SrcAt M st1 s r xs → i ≤ xs.length → xs.length - i < m → Gen st1 n ((k0 + c * i : Nat) : Int) → ∃ ys vs st2, lcN s T m i st1 = .ok ys st2 ∧ Fr n st1 st2 ∧ Gen st2 n ((k0 + c * xs.length : Nat) : Int) ∧ A2 (r2.at_ M st2) ys vs ∧ A2 φ (xs.drop i) vs
  | 0, i, st1, _, _, _, h, _ => by omega
  | m + 1, i, st1, x1, hs, hi, hm, g => by
    have h1 := (hs.2 M st1 .refl).2 i
    rw [lcN]
    by_cases hl : i < xs.length
    · rw [List.getElem?_eq_getElem hl] at h1
      obtain ⟨d, e1, a1⟩ := h1
      have hb : k0 + c * i + c ≤ k0 + c * xs.length := by
        have : c * (i + 1) ≤ c * xs.length := Nat.mul_le_mul_left c hl
        rw [Nat.mul_succ] at this
        omega
      obtain ⟨d2, y, st2, e2, f2, g2, a2, p2⟩ := hT xs[i] (List.getElem_mem hl) st1 d _ hn g hb x1 a1
      obtain ⟨ys, vs, st3, e3, f3, g3, a3, p3⟩ := lcN_g hT hn m (i + 1) st2 (x1.trans (f2.xt hn)) (hs.ext (f2.xt hn)) hl (by omega) (by rw [Nat.mul_succ, ← Nat.add_assoc]; exact g2)
      refine ⟨d2 :: ys, y :: vs, st3, by rw [e1]; simp only [e2, R.bind_ok, e3]; rfl, f2.trans f3, g3, .cons (r2.ext (f3.xt hn) a2) a3, ?_⟩
      rw [List.drop_eq_getElem_cons hl]
      exact .cons p2 p3
    · rw [List.getElem?_eq_none (by omega)] at h1
      have : i = xs.length := by omega
      subst this
      refine ⟨[], [], st1, by rw [h1], .refl, g, .nil, ?_⟩
      rw [List.drop_length]
      exact .nil
theorem ExG.lc {src : FI} {h : FG} {e : FE} {vs : List Nat} {r : Rel α} {s : Rel β} {ψ : List α → Prop} {φ : α → β → Prop} {Γx : α → Cn} (most : Nat) (hs : ExIG n k Γ src r ψ k1) (hb : ∀ x, Bd h (wipeC Γ vs) r x (Γx x))
    (he : ∀ x j, j + c ≤ k1 + c * most → ExG n j (Γx x) e s (φ x) (j + c)) (hm : ∀ xs, ψ xs → xs.length ≤ most) : ExG n k Γ (fLc false src h fYes e vs) (rL s) (fun ys => ∃ xs, ψ xs ∧ A2 φ xs ys) (k1 + c * most) := fun M ρ st hn g sat => by
  obtain ⟨xs, z, st1, e1, f1, g1, a1, p1⟩ := hs M ρ st hn g sat
  have hl := hm xs p1
  have hc : c * xs.length ≤ c * most := Nat.mul_le_mul_left c hl
  have sat1 := sat.xt (f1.xt hn)
  obtain ⟨ys, us, st2, e2, f2, g2, a2, p2⟩ := lcN_g (M := M) (st := st1) (s := z) (T := turnL h fYes e vs ρ) (r := r) (r2 := s) (xs := xs) (φ := φ) (k0 := k1) (c := c) (n := n) (fun x hx st3 d k hn g3 hk x3 a3 => by
    obtain ⟨ρ2, e4, q4⟩ := hb x M (wipeE ρ vs) st3 d ((sat1.xt x3).wipe vs) a3
    obtain ⟨y, d5, st5, e5, f5, g5, a5, p5⟩ := he x k (by omega) M ρ2 st3 hn g3 q4
    exact ⟨d5, y, st5, by simp [ev_turn, e4, e5], f5, g5, a5, p5⟩) hn (srcLen z st1 + 1) 0 st1 .refl a1 (Nat.zero_le _) (by have := (a1.2 M st1 .refl).1; omega) (by simpa using g1)
  rw [List.drop_zero] at p2
  have ll : us.length ≤ lim := by rw [← p2.len]; exact a1.1
  refine ⟨us, .lst ys, st2, by simp [e1, runL_lcN, e2, endL, a2.len, ll], f1.trans f2, g2.mono (by omega), rL_at.mpr ⟨ys, .inl rfl, ll, a2⟩, xs, p1, p2⟩
/-! ### the helpers that draw -/
theorem run_random {b : Nat} (h0 : 0 < b) (hb : b < 18446744073709551616) : RnG F__law_random (fun n => [⟨rC, n⟩, ⟨rN, b⟩]) rN (· < b) 3 := fun n k M st ds hn hm g hk sl => by
  obtain ⟨d1, d2, rfl, a1, a2⟩ := sl.two
  rw [rC_at.mp a1, rN_at.mp a2]
  obtain ⟨x, st', e, h1, h2, g', f, _⟩ := sp_random g (by unfold kB at hk; omega) (b := (b : Int)) (by omega) (by omega)
  obtain ⟨m, rfl⟩ := Int.eq_ofNat_of_zero_le h1
  exact ⟨m, _, st', e, f, g'.mono (by omega), rN_at.mpr rfl, by omega⟩
theorem ExG.draw {e : FE} {b : Nat} (hv : look Γ i = some ⟨rC, n⟩) (he : Ex Γ e rN b) (h0 : 0 < b) (hb : b < 18446744073709551616) (hk : k + 3 ≤ kB) : ExG n k Γ (fCall 2 F__law_random (faCons (fVar i) (faCons e faNil))) rN (· < b) (k + 3) :=
  ExG.call (es := fun n => [⟨rC, n⟩, ⟨rN, b⟩]) (ExA.cons (Ex.var hv) (ExA.cons he .nil)) (run_random h0 hb) hk rfl
theorem ExG.draw1 {e : FE} {b : Nat} (hv : look Γ i = some ⟨rC, n⟩) (he : Ex Γ e rN b) (h0 : 0 < b) (hb : b < 18446744073709551616) (hk : k + 3 ≤ kB) : ExG n k Γ (fBin gAdd (fC (.int 1)) (fCall 2 F__law_random (faCons (fVar i) (faCons e faNil)))) rN (fun v => 1 ≤ v ∧ v ≤ b) (k + 3) :=
  (ExG.bin (z := fun x y : Nat => x + y) (ExG.pure (Ex.cN 1)) (fun _ _ => ExG.draw hv he h0 hb hk) (fun _ _ _ _ => r2_addN)).imp (fun v hv => by
    obtain ⟨x, y, h1, h2, h3⟩ := hv
    have h1 : x = 1 := h1
    have h2 : y < b := h2
    have h3 : v = x + y := h3
    omega) (Nat.le_refl _)
theorem run_pick {s : Rel α} {xs : List α} (h0 : xs ≠ []) : RnG F__law_pick (fun n => [⟨rC, n⟩, ⟨rL s, xs⟩]) s (· ∈ xs) 3 := fun n k M st ds hn hm g hk sl => by
  obtain ⟨d1, d2, rfl, a1, a2⟩ := sl.two
  rw [rC_at.mp a1]
  obtain ⟨es, b1, b2, b3⟩ := rL_at.mp a2
  have hp : 0 < xs.length := List.length_pos_iff.mpr h0
  have hlim : xs.length ≤ 1000000 := b2
  obtain ⟨x, st', e, h1, h2, g', f, _⟩ := sp_random g (by unfold kB at hk; omega) (b := (xs.length : Int)) (by omega) (by omega)
  obtain ⟨m, rfl⟩ := Int.eq_ofNat_of_zero_le h1
  have hm' : m < xs.length := by omega
  obtain ⟨_, c1, _, c3⟩ := rL_at.mp ((rL s).ext (f.xt hn) a2)
  obtain ⟨u, u1, u2⟩ := c3.get (List.getElem?_eq_getElem hm')
  have len : kLen [d2] st = .ok (.int (xs.length : Nat)) st := by
    have : es.length = xs.length := b3.len
    rcases b1 with rfl | ⟨i, rfl, _, hk⟩
    · rw [kLen_lst, this]
    · rw [kLen_cel hk, this]
  have ix : gIx d2 (.int (m : Int)) st' = .ok u st' := gIx_at c1 (by rw [atI_nat, u1])
  refine ⟨xs[m], u, st', ?_, f, g'.mono (by omega), u2, List.getElem_mem hm'⟩
  unfold F__law_pick fb__law_pick
  simp [len, e, ix]
/-! ### statements -/
structure PostG where
  nx : Nat → Cn → List Own → Prop
  rt : Nat → ∀ {τ : Type}, Rel τ → τ → Prop
  bk : Nat → Cn → List Own → Prop
  ct : Nat → Cn → List Own → Prop
structure FraG (n : Nat) (ks : List Nat) (st : Sto) (ks' : List Nat) (st' : Sto) : Prop where
  len : st.length ≤ st'.length
  keep : ∀ i, i < st.length → i ∉ ks → i ≠ n → st'[i]? = st[i]?
  new : ∀ k ∈ ks', k ∈ ks ∨ st.length ≤ k
def OcG (n : Nat) (M ks : List Nat) (st : Sto) (Φ : PostG) (o : O) : Prop := match o with
  | .nx ρ' st' => ∃ ks' k' Γ' Ω', FraG n ks st ks' st' ∧ Gen st' n ((k' : Nat) : Int) ∧ SatS M ks' Γ' Ω' ρ' st' ∧ Φ.nx k' Γ' Ω'
  | .bk ρ' st' => ∃ ks' k' Γ' Ω', FraG n ks st ks' st' ∧ Gen st' n ((k' : Nat) : Int) ∧ SatS M ks' Γ' Ω' ρ' st' ∧ Φ.bk k' Γ' Ω'
  | .ct ρ' st' => ∃ ks' k' Γ' Ω', FraG n ks st ks' st' ∧ Gen st' n ((k' : Nat) : Int) ∧ SatS M ks' Γ' Ω' ρ' st' ∧ Φ.ct k' Γ' Ω'
  | .rt d st' => ∃ (ks' : List Nat) (k' : Nat) (τ : Type) (r : Rel τ) (v : τ), FraG n ks st ks' st' ∧ Gen st' n (k' : Int) ∧ r.at_ M st' d v ∧ Φ.rt k' r v
  | _ => False
def WG (n k : Nat) (Γ : Cn) (Ω : List Own) (s : FS) (Φ : PostG) : Prop := ∀ M ks ρ st, n ∈ M → Gen st n (k : Int) → SatS M ks Γ Ω ρ st → OcG n M ks st Φ (s ρ st)
variable {Φ : PostG} {s s2 : FS} {ks' : List Nat}
theorem Fra.toG (h : Fra ks st ks' st') : FraG n ks st ks' st' := ⟨h.len, fun i hi hk _ => h.keep i hi hk, h.new⟩
theorem Fr.toG (h : Fr n st st') : FraG n ks st ks st' := ⟨h.len, fun i hi _ hn => h.keep i hi hn, fun _ h => .inl h⟩
theorem FraG.trans {ks'' : List Nat} {st'' : Sto} (h : FraG n ks st ks' st') (k : FraG n ks' st' ks'' st'') : FraG n ks st ks'' st'' := ⟨Nat.le_trans h.len k.len, fun i hi hn hne => by
  have : i ∉ ks' := fun q => by
    rcases h.new i q with q | q
    · exact hn q
    · omega
  exact (k.keep i (Nat.lt_of_lt_of_le hi h.len) this hne).trans (h.keep i hi hn hne), fun x hx => by
  rcases k.new x hx with q | q
  · exact h.new x q
  · exact .inr (Nat.le_trans h.len q)⟩
theorem FraG.xt (h : FraG n ks st ks' st') (hn : n ∈ M) : Xt (ks ++ M) st (ks' ++ M) st' := ⟨h.len, fun i hi hm => by
  rw [List.mem_append, not_or] at hm
  refine ⟨h.keep i hi hm.1 (fun e => hm.2 (e ▸ hn)), fun q => ?_⟩
  rcases List.mem_append.mp q with q | q
  · rcases h.new i q with q | q
    · exact hm.1 q
    · omega
  · exact hm.2 q⟩
theorem OcG.later {o : O} (f : FraG n ks st ks' st') (h : OcG n M ks' st' Φ o) : OcG n M ks st Φ o := by
  cases o with
  | no => exact h
  | exc c x ρ s => exact h
  | nx ρ s => obtain ⟨k, k', Γ, Ω, h1, h2⟩ := h; exact ⟨k, k', Γ, Ω, f.trans h1, h2⟩
  | bk ρ s => obtain ⟨k, k', Γ, Ω, h1, h2⟩ := h; exact ⟨k, k', Γ, Ω, f.trans h1, h2⟩
  | ct ρ s => obtain ⟨k, k', Γ, Ω, h1, h2⟩ := h; exact ⟨k, k', Γ, Ω, f.trans h1, h2⟩
  | rt d s => obtain ⟨k, k', τ, r, v, h1, h2⟩ := h; exact ⟨k, k', τ, r, v, f.trans h1, h2⟩
/-- a statement that draws nothing -/
theorem WG.pure (h : W Γ Ω s { nx := Φ.nx k, rt := Φ.rt k, bk := Φ.bk k, ct := Φ.ct k }) : WG n k Γ Ω s Φ := fun M ks ρ st hn g sat => by
  have oc := h M ks ρ st sat
  have nk : n ∉ ks := fun z => sat.dis n z hn
  have hl := sat.mlt n hn
  revert oc
  cases s ρ st with
  | no => intro oc; exact oc
  | exc c x ρ s => intro oc; exact oc
  | nx ρ1 st1 => intro oc; obtain ⟨ks', Γ', Ω', f, s', p⟩ := oc; exact ⟨ks', k, Γ', Ω', f.toG, g.same (f.keep n hl nk), s', p⟩
  | bk ρ1 st1 => intro oc; obtain ⟨ks', Γ', Ω', f, s', p⟩ := oc; exact ⟨ks', k, Γ', Ω', f.toG, g.same (f.keep n hl nk), s', p⟩
  | ct ρ1 st1 => intro oc; obtain ⟨ks', Γ', Ω', f, s', p⟩ := oc; exact ⟨ks', k, Γ', Ω', f.toG, g.same (f.keep n hl nk), s', p⟩
  | rt d st1 => intro oc; obtain ⟨ks', τ, r, v, f, a, p⟩ := oc; exact ⟨ks', k, τ, r, v, f.toG, g.same (f.keep n hl nk), a, p⟩
theorem WG.seq (h : WG n k Γ Ω s { Φ with nx := fun k' Γ' Ω' => WG n k' Γ' Ω' s2 Φ }) : WG n k Γ Ω (fSeq s s2) Φ := fun M ks ρ st hn g sat => by
  have h := h M ks ρ st hn g sat
  unfold fSeq
  revert h
  cases s ρ st with
  | no => intro h; exact h
  | exc c x ρ s => intro h; exact h
  | nx ρ1 st1 =>
    intro h
    obtain ⟨ks1, k1, Γ1, Ω1, f1, g1, sat1, w⟩ := h
    exact (w M ks1 ρ1 st1 hn g1 sat1).later f1
  | bk ρ1 st1 => intro h; exact h
  | ct ρ1 st1 => intro h; exact h
  | rt d st1 => intro h; exact h
theorem SatS.xtG {Ω : List Own} (h : SatS M ks Γ Ω ρ st) (f : Fr n st st') (hn : n ∈ M) : SatS M ks Γ Ω ρ st' := ⟨h.sat.xt (f.toG.xt hn), h.len, h.nd, h.dis, fun j o k h1 h2 => by
  obtain ⟨q1, q2, c, q3, q4⟩ := h.own j o k h1 h2
  have kl := h.klt k (List.mem_of_getElem? h2)
  have kn : k ≠ n := fun e => h.dis k (List.mem_of_getElem? h2) (e ▸ hn)
  exact ⟨q1, q2, c, (f.keep k kl kn).trans q3, o.c.ext (f.toG.xt hn) q4⟩⟩
theorem WG.asgG {f : FE} {φ : τ → Prop} (h : ExG n k Γ f r φ k1) (q : ∀ v, φ v → Φ.nx k1 (Γ.set i (some ⟨r, v⟩)) Ω) (hi : ∀ o ∈ Ω, o.i ≠ i := by simp) : WG n k Γ Ω (fAsg f (hName i)) Φ := fun M ks ρ st hn g sat => by
  obtain ⟨v, d, st', e, f1, g1, a, p⟩ := h (ks ++ M) ρ st (List.mem_append_right _ hn) g sat.sat
  unfold fAsg
  rw [e]
  exact ⟨ks, k1, _, Ω, f1.toG, g1, (sat.xtG f1 hn).put a hi, q v p⟩
theorem WG.parG {i j : Nat} {f g : FE} {r : Rel α} {s : Rel β} {φ : α → Prop} {ψ : α → β → Prop} (h : ExG n k Γ f r φ k1) (h2 : ∀ x, φ x → ExG n k1 Γ g s (ψ x) k2) (q : ∀ x y, φ x → ψ x y → Φ.nx k2 ((Γ.set i (some ⟨r, x⟩)).set j (some ⟨s, y⟩)) Ω) (hi : ∀ o ∈ Ω, o.i ≠ i := by simp) (hj : ∀ o ∈ Ω, o.i ≠ j := by simp) : WG n k Γ Ω (fPar i j (faCons f (faCons g faNil))) Φ := fun M ks ρ st hn gn sat => by
  obtain ⟨x, d, st1, e, f1, g1, a, p⟩ := h (ks ++ M) ρ st (List.mem_append_right _ hn) gn sat.sat
  have sat1 := sat.xtG f1 hn
  obtain ⟨y, d2, st2, e2, f2, g2, a2, p2⟩ := h2 x p (ks ++ M) ρ st1 (List.mem_append_right _ hn) g1 sat1.sat
  have sat2 := sat1.xtG f2 hn
  have ev : fPar i j (faCons f (faCons g faNil)) ρ st = .nx ((ρ.set i (some d)).set j (some d2)) st2 := by simp [e, e2]
  rw [ev]
  exact ⟨ks, k2, _, Ω, (f1.trans f2).toG, g2, (sat2.put (r.ext (f2.xt (List.mem_append_right _ hn)) a) hi).put a2 hj, q x y p p2⟩
/-- a tuple of two, drawn and taken apart -/
theorem WG.tupG {i j : Nat} {f g : FE} {r : Rel α} {s : Rel β} {φ : α → Prop} {ψ : α → β → Prop} (h : ExG n k Γ f r φ k1) (h2 : ∀ x, φ x → ExG n k1 Γ g s (ψ x) k2) (q : ∀ x y, φ x → ψ x y → Φ.nx k2 ((Γ.set i (some ⟨r, x⟩)).set j (some ⟨s, y⟩)) Ω) (hi : ∀ o ∈ Ω, o.i ≠ i := by simp) (hj : ∀ o ∈ Ω, o.i ≠ j := by simp) : WG n k Γ Ω (fAsg (fTup (faCons f (faCons g faNil))) (hTup 2 (hCons (hName i) (hCons (hName j) hNil)))) Φ := fun M ks ρ st hn gn sat => by
  have w := WG.parG (i := i) (j := j) h h2 q hi hj M ks ρ st hn gn sat
  have ev : fAsg (fTup (faCons f (faCons g faNil))) (hTup 2 (hCons (hName i) (hCons (hName j) hNil))) ρ st = fPar i j (faCons f (faCons g faNil)) ρ st := by
    simp only [ev_Asg, ev_Tup, ev_Cons, ev_Par, ev_Nil, R.bind_ok]
    cases f ρ st with
    | no => rfl
    | exc c x s => rfl
    | ok d st1 =>
      simp only [R.bind_ok]
      cases g ρ st1 with
      | no => rfl
      | exc c x s => rfl
      | ok d2 st2 => simp [lim]
  rw [ev]
  exact w
theorem WG.iteG {t : FT} {φ : Bool → Prop} (h : ExTG n k Γ t φ k1) (h1 : φ true → WG n k1 Γ Ω s Φ) (h2 : φ false → WG n k1 Γ Ω s2 Φ) : WG n k Γ Ω (fIf t s s2) Φ := fun M ks ρ st hn g sat => by
  obtain ⟨b, st', e, f1, g1, p⟩ := h (ks ++ M) ρ st (List.mem_append_right _ hn) g sat.sat
  unfold fIf
  rw [e]
  cases b with
  | true => exact (h1 p M ks ρ st' hn g1 (sat.xtG f1 hn)).later f1.toG
  | false => exact (h2 p M ks ρ st' hn g1 (sat.xtG f1 hn)).later f1.toG
theorem WG.ite {t : FT} {b : Bool} (h : ExT (Froz Γ Ω) t b) (h1 : b = true → WG n k Γ Ω s Φ) (h2 : b = false → WG n k Γ Ω s2 Φ) : WG n k Γ Ω (fIf t s s2) Φ := fun M ks ρ st hn g sat => by
  obtain ⟨st', e, p⟩ := h M ρ st sat.froz
  unfold fIf
  rw [e]
  cases b with
  | true => exact (h1 rfl M ks ρ st' hn (g.pre p) (sat.pre p)).later (Fra.pre p).toG
  | false => exact (h2 rfl M ks ρ st' hn (g.pre p) (sat.pre p)).later (Fra.pre p).toG
theorem WG.retG {f : FE} {φ : τ → Prop} (h : ExG n k Γ f r φ k1) (q : ∀ v, φ v → Φ.rt k1 r v) : WG n k Γ Ω (fRet f) Φ := fun M ks ρ st hn g sat => by
  obtain ⟨v, d, st', e, f1, g1, a, p⟩ := h (ks ++ M) ρ st (List.mem_append_right _ hn) g sat.sat
  unfold fRet
  rw [e]
  exact ⟨ks, k1, τ, r, v, f1.toG, g1, r.sub (fun i hi _ => List.mem_append_right _ hi) a, q v p⟩
/-! ### defs that draw -/
def retG {τ : Type} (k : Nat) (r : Rel τ) (φ : τ → Prop) : PostG where
  nx k' _ _ := k' ≤ k ∧ ∃ v, φ v ∧ (⟨rU, ()⟩ : Ent) = ⟨r, v⟩
  rt k' _ r' v' := k' ≤ k ∧ ∃ v, φ v ∧ (⟨r', v'⟩ : Ent) = ⟨r, v⟩
  bk _ _ _ := False
  ct _ _ _ := False
theorem retG_rt {φ : τ → Prop} {v' : τ} (hk : k1 ≤ k) (e : φ v') : (retG k r φ).rt k1 r v' := ⟨hk, v', e, rfl⟩
theorem RnG.of {N : List Str} {np : Nat} {fb : FS} {es : Nat → List Ent} {φ : τ → Prop} (h : ∀ n k, k + c ≤ kB → WG n k ((es n).map some ++ List.replicate (N.length - np) none) [] fb (retG (k + c) r φ)) (hl : ∀ n, (es n).length = np := by intro _; rfl) : RnG (genF0 N np fb) es r φ c := fun n k M st ds hn hm g hk sl => by
  have hl := sl.len.trans (hl n)
  have sat : SatS M [] ((es n).map some ++ List.replicate (N.length - np) none) [] (startE N ds) st := ⟨⟨by rw [List.length_append, List.length_map, ← sl.len, List.length_replicate]; simp [startE, hl], hm, fun i e q => by
    obtain ⟨d, h1, h2⟩ := sl_map sl i _ (N.length - ds.length) e q
    exact ⟨d, h1, h2⟩⟩, rfl, List.nodup_nil, fun k hk => by simp at hk, fun j o k h1 h2 => by simp at h1⟩
  have oc := h n k hk M [] _ st hn g sat
  rw [ev_gen0, ev_gen, if_pos hl]
  revert oc
  cases fb (startE N ds) st with
  | no => intro oc; exact oc.elim
  | exc c x ρ s => intro oc; exact oc.elim
  | bk ρ s => intro oc; obtain ⟨_, _, _, _, _, _, _, q⟩ := oc; exact q.elim
  | ct ρ s => intro oc; obtain ⟨_, _, _, _, _, _, _, q⟩ := oc; exact q.elim
  | nx ρ s =>
    intro oc
    obtain ⟨ks', k', Γ', Ω', f, g', sat', hk', v, p, q⟩ := oc
    cases q
    exact ⟨(), .non, s, rfl, ⟨f.len, fun i hi hne => f.keep i hi (by simp) hne⟩, g'.mono (by omega), rU_at.mpr rfl, p⟩
  | rt d s =>
    intro oc
    obtain ⟨ks', k', τ', r', v', f, g', a, hk', v, p, q⟩ := oc
    cases q
    exact ⟨_, d, s, rfl, ⟨f.len, fun i hi hne => f.keep i hi (by simp) hne⟩, g'.mono (by omega), a, p⟩
end
end FL

/-! FVg: dicts in cells: put, walked while locked; mixed arithmetic -/
namespace FL
open PySem PySem.Spec PyProof.Rows L2

/-- a dict in a cell -/
@[irreducible] def rDc {α β : Type} (r : Rel α) (s : Rel β) : Rel (List (α × β)) := ⟨fun M st d v => ∃ k es, d = .cel k ∧ k ∉ M ∧ st[k]? = some (.dct es) ∧ v.length ≤ lim ∧ A2 (EnAt r s M st) es v, fun e h => by
  obtain ⟨k, es, h1, h2, h3, h4, h5⟩ := h
  obtain ⟨e1, e2⟩ := e.2 k (List.getElem?_eq_some_iff.mp h3).1 h2
  exact ⟨k, es, h1, e2, e1.trans h3, h4, h5.imp fun d x h => ⟨r.ext e h.1, s.ext e h.2⟩⟩⟩
/-- .. locked -/
@[irreducible] def rK {α β : Type} (r : Rel α) (s : Rel β) : Rel (List (α × β)) := ⟨fun M st d v => ∃ k es, d = .cel k ∧ k ∉ M ∧ st[k]? = some (.lck es) ∧ v.length ≤ lim ∧ A2 (EnAt r s M st) es v, fun e h => by
  obtain ⟨k, es, h1, h2, h3, h4, h5⟩ := h
  obtain ⟨e1, e2⟩ := e.2 k (List.getElem?_eq_some_iff.mp h3).1 h2
  exact ⟨k, es, h1, e2, e1.trans h3, h4, h5.imp fun d x h => ⟨r.ext e h.1, s.ext e h.2⟩⟩⟩
section
variable {M ks : List Nat} {Γ Γ' : Cn} {Ω : List Own} {ρ : En} {st st' : Sto} {τ α β γ κ : Type} {r : Rel τ} {v : τ} {d : D} {i j : Nat} {Φ : Post}
theorem rDc_at {r : Rel α} {s : Rel β} {v : List (α × β)} : (rDc r s).at_ M st d v ↔ ∃ k es, d = .cel k ∧ k ∉ M ∧ st[k]? = some (.dct es) ∧ v.length ≤ lim ∧ A2 (EnAt r s M st) es v := by unfold rDc; exact Iff.rfl
theorem rK_at {r : Rel α} {s : Rel β} {v : List (α × β)} : (rK r s).at_ M st d v ↔ ∃ k es, d = .cel k ∧ k ∉ M ∧ st[k]? = some (.lck es) ∧ v.length ≤ lim ∧ A2 (EnAt r s M st) es v := by unfold rK; exact Iff.rfl
theorem rDc_rD {r : Rel α} {s : Rel β} {v : List (α × β)} (h : (rDc r s).at_ M st d v) : (rD r s).at_ M st d v := by
  obtain ⟨k, es, h1, h2, h3, h4, h5⟩ := rDc_at.mp h
  exact rD_at.mpr ⟨es, .inr ⟨k, h1, h2, h3⟩, h4, h5⟩
theorem Ex.cel {f : FE} {r : Rel α} {s : Rel β} {v : List (α × β)} (h : Ex Γ f (rDc r s) v) : Ex Γ f (rD r s) v := fun M ρ st q => by
  obtain ⟨d, st', e, p, a⟩ := h M ρ st q
  exact ⟨d, st', e, p, rDc_rD a⟩
def oC {α β : Type} (r : Rel α) (s : Rel β) : CRel (List (α × β)) where
  co M st c v := ∃ es, c = .dct es ∧ v.length ≤ lim ∧ A2 (EnAt r s M st) es v
  ext e h := by
    obtain ⟨ds, h1, h2, h3⟩ := h
    exact ⟨ds, h1, h2, h3.imp fun d x h => ⟨r.ext e h.1, s.ext e h.2⟩⟩
  fz := rDc r s
  frz hk hc h := by
    obtain ⟨ds, rfl, h2, h3⟩ := h
    exact rDc_at.mpr ⟨_, ds, rfl, hk, hc, h2, h3⟩
theorem ExC.dnewC {r : Rel α} {s : Rel β} : ExC Γ fDctC (oC r s) [] := fun M ρ st q => ⟨.dct [], st, rfl, List.prefix_rfl, [], rfl, Nat.zero_le _, .nil⟩
theorem r2_ixDc [DecidableEq κ] {r : Rel κ} [KeyRel r] {s : Rel β} {xs : List (κ × β)} {k : κ} {x : β} (h : dget xs k = some x) : Rn2 gIx (rDc r s) xs r k s x := fun M st d1 d2 q p => r2_ixD h M st d1 d2 (rDc_rD q) p
theorem r2_ixK [DecidableEq κ] {r : Rel κ} [KeyRel r] {s : Rel β} {xs : List (κ × β)} {k : κ} {x : β} (h : dget xs k = some x) : Rn2 gIx (rK r s) xs r k s x := fun M st d1 d2 q p => by
  obtain ⟨c, es, rfl, h1, h2, h3, h4⟩ := rK_at.mp q
  obtain ⟨e, e1, e2⟩ := look_at h4 h
  rw [KeyRel.to p]
  have hk := KeyRel.key (r := r) k
  have z1 : itemsS st (.cel c) = none := by
    unfold itemsS itemsR items
    simp only [h2]
  have z2 : ents st (.cel c) = some es := by
    unfold ents
    simp only [h2]
  refine ⟨e, ?_, e2⟩
  generalize KeyRel.kd r k = y at *
  cases y with
  | int i => unfold gIx; simp only [z1, z2, e1, R.opt_some]
  | str s => unfold gIx; simp only [z1, z2, e1, R.opt_some]
  | _ => cases hk
/-- names of values that ask the store nothing -/
structure FreeSub (Γf Γ : Cn) : Prop where
  len : Γf.length = Γ.length
  at_ : ∀ i e, look Γf i = some e → look Γ i = some e ∧ Free e.r
theorem FreeSub.nil : FreeSub [] [] := ⟨rfl, fun _ _ h => by cases h⟩
theorem FreeSub.keep {Γf Γ : Cn} [h : Free r] (k : FreeSub Γf Γ) : FreeSub (some ⟨r, v⟩ :: Γf) (some ⟨r, v⟩ :: Γ) := ⟨by simp [k.len], fun i e q => by
  cases i with
  | zero => cases q; exact ⟨rfl, h⟩
  | succ i => exact k.at_ i e q⟩
theorem FreeSub.drop {Γf Γ : Cn} {o : Option Ent} (k : FreeSub Γf Γ) : FreeSub (none :: Γf) (o :: Γ) := ⟨by simp [k.len], fun i e q => by
  cases i with
  | zero => cases q
  | succ i => exact k.at_ i e q⟩
/-- what a lock taken off leaves -/
class UnL {τ : Type} (r : Rel τ) : Prop where
  un : ∀ {M : List Nat} {st : Sto} {d : D} {v : τ} {k : Nat} {es : List (D × D)} {c : Co}, st[k]? = some (.lck es) → r.at_ M st d v → r.at_ M (st.set k c) d v
instance {r : Rel τ} [Free r] : UnL r := ⟨fun _ h => Free.free h⟩
instance {r : Rel τ} [UnL r] : UnL (rL r) := ⟨fun hk h => by
  obtain ⟨ds, h1, h2, h3⟩ := rL_at.mp h
  refine rL_at.mpr ⟨ds, ?_, h2, h3.imp fun d x => UnL.un hk⟩
  rcases h1 with h1 | ⟨j, j1, j2, j3⟩
  · exact .inl h1
  · refine .inr ⟨j, j1, j2, ?_⟩
    rw [List.getElem?_set_ne]
    · exact j3
    · intro e
      rw [e, j3] at hk
      cases hk⟩
theorem dget_mem [DecidableEq κ] {es : List (κ × β)} {k : κ} (h : k ∈ es.map (·.1)) : ∃ x, dget es k = some x := by
  unfold dget
  cases e : es.find? fun e => decide (e.1 = k) with
  | some x => exact ⟨_, rfl⟩
  | none =>
    obtain ⟨x, h1, h2⟩ := List.mem_map.mp h
    have := List.find?_eq_none.mp e x h1
    simp [h2] at this
theorem dget_def [DecidableEq κ] [Inhabited β] {es : List (κ × β)} {k : κ} (h : k ∈ es.map (·.1)) : dget es k = some ((dget es k).getD default) := by
  obtain ⟨x, e⟩ := dget_mem h
  rw [e]; rfl
theorem r2_ixDm [DecidableEq κ] {r : Rel κ} [KeyRel r] {s : Rel β} [Inhabited β] {xs : List (κ × β)} {k : κ} (h : k ∈ xs.map (·.1)) : Rn2 gIx (rD r s) xs r k s ((dget xs k).getD default) := r2_ixD (dget_def h)
theorem r2_ixDcm [DecidableEq κ] {r : Rel κ} [KeyRel r] {s : Rel β} [Inhabited β] {xs : List (κ × β)} {k : κ} (h : k ∈ xs.map (·.1)) : Rn2 gIx (rDc r s) xs r k s ((dget xs k).getD default) := r2_ixDc (dget_def h)
theorem r2_ixKm [DecidableEq κ] {r : Rel κ} [KeyRel r] {s : Rel β} [Inhabited β] {xs : List (κ × β)} {k : κ} (h : k ∈ xs.map (·.1)) : Rn2 gIx (rK r s) xs r k s ((dget xs k).getD default) := r2_ixK (dget_def h)
theorem Ex.lock {f : FE} {r : Rel α} {s : Rel β} [Free r] [Free s] {t : Rel γ} {z : γ} {es : List (α × β)} {Γf : Cn} (hi : look Γ i = some ⟨rDc r s, es⟩) (hf : FreeSub Γf Γ) (h : Ex (Γf.set i (some ⟨rK r s, es⟩)) f t z) (u : UnL t) : Ex Γ (fLock i f) t z := fun M ρ st q => by
  obtain ⟨d, e1, a⟩ := q.at_ i _ hi
  obtain ⟨k, ds, rfl, k1, k2, k3, k4⟩ := rDc_at.mp a
  have kl := (List.getElem?_eq_some_iff.mp k2).1
  have fr : ∀ {st'}, A2 (EnAt r s M st') ds es := fun {st'} => k4.imp fun d x h => ⟨Free.free h.1, Free.free h.2⟩
  have sat : Sat M (Γf.set i (some ⟨rK r s, es⟩)) (ρ.set i (some (.cel k))) (st.set k (.lck ds)) := by
    have s0 : Sat M Γf ρ (st.set k (.lck ds)) := ⟨q.len.trans hf.len.symm, fun m hm => by rw [List.length_set]; exact q.mot m hm, fun j e w => by
      obtain ⟨w1, w2⟩ := hf.at_ j e w
      obtain ⟨d, u1, u2⟩ := q.at_ j e w1
      exact ⟨d, u1, w2.free u2⟩⟩
    exact s0.set (rK_at.mpr ⟨k, ds, rfl, k1, List.getElem?_set_self kl, k3, fr⟩)
  have eρ : ρ.set i (some (.cel k)) = ρ := by
    refine List.ext_getElem? fun j => ?_
    by_cases hj : i = j
    · subst hj; rw [e1, List.getElem?_set_self (List.getElem?_eq_some_iff.mp e1).1]
    · rw [List.getElem?_set_ne hj]
  rw [eρ] at sat
  obtain ⟨d, st1, e2, ⟨t1, p⟩, a2⟩ := h M ρ _ sat
  have g1 : st1[k]? = some (.lck ds) := by
    rw [← p, List.getElem?_append_left (by simpa using kl), List.getElem?_set_self kl]
  refine ⟨d, st1.set k (.dct ds), ?_, ⟨t1, ?_⟩, u.un g1 a2⟩
  · unfold fLock
    simp only [e1, k2, e2, R.quiet_ok', R.bind_ok, g1]
  · rw [← p, List.set_append_left _ _ (by simpa using kl), List.set_set]
    congr 1
    refine List.ext_getElem? fun j => ?_
    by_cases hj : k = j
    · subst hj; rw [k2, List.getElem?_set_self kl]
    · rw [List.getElem?_set_ne hj]
theorem ExI.keysK {f : FE} {r : Rel α} {s : Rel β} {es : List (α × β)} (h : Ex Γ f (rK r s) es) : ExI Γ (iKeysD f) r (es.map (·.1)) := fun M ρ st q => by
  obtain ⟨d, st1, e1, p1, a1⟩ := h M ρ st q
  obtain ⟨k, ds, rfl, k1, k2, k3, k4⟩ := rK_at.mp a1
  refine ⟨.fix (ds.map (·.1)), st1, ?_, p1, srcAt_fix ?_ (by simpa using k3)⟩
  · unfold iKeysD
    simp only [e1, R.bind_ok, k2]
  · clear a1 k2 k3 h
    induction k4 with
    | nil => exact .nil
    | cons a h ih => exact .cons a.1 ih
/-- a key put -/
theorem put_at [DecidableEq κ] {r : Rel κ} [KeyRel r] {s : Rel β} {k : κ} {x : β} {dk dv : D} {es : List (D × D)} {xs : List (κ × β)} (h : A2 (EnAt r s M st) es xs) (hk : r.at_ M st dk k) (hx : s.at_ M st dv x) : A2 (EnAt r s M st) (putL es dk dv) (dput xs k x) := by
  have ek := KeyRel.to hk
  have any : (es.any fun e => sameK e.1 dk) = xs.any fun e => decide (e.1 = k) := by
    clear hx
    induction h with
    | nil => rfl
    | cons a h ih => rw [List.any_cons, List.any_cons, ih, KeyRel.to a.1, ek, sameK_dec]
  unfold putL dput
  rw [any]
  by_cases c : (xs.any fun e => decide (e.1 = k)) = true
  · rw [if_pos c, if_pos c]
    clear any c
    induction h with
    | nil => exact .nil
    | @cons d y ds ys a h ih =>
      rw [List.map_cons, List.map_cons]
      refine .cons ?_ ih
      have e : sameK d.1 dk = decide (y.1 = k) := by rw [KeyRel.to a.1, ek, sameK_dec]
      rw [e]
      by_cases z : y.1 = k
      · rw [if_pos (decide_eq_true z), if_pos z]; exact ⟨a.1, hx⟩
      · rw [if_neg (by simpa using z), if_neg z]; exact a
  · rw [if_neg c, if_neg c]
    exact h.app (.cons ⟨hk, hx⟩ .nil)
theorem dput_len [DecidableEq κ] {xs : List (κ × β)} {k : κ} {x : β} : (dput xs k x).length ≤ xs.length + 1 := by
  unfold dput
  split <;> simp
theorem W.putC [DecidableEq κ] {r : Rel κ} [KeyRel r] [Free r] {s : Rel β} [Free s] {e ke : FE} {xs : List (κ × β)} {k : κ} {x : β} (hj : Ω[j]? = some ⟨i, oC r s, xs⟩) (he : Ex (Froz Γ Ω) e s x) (hk : Ex (Froz Γ Ω) ke r k) (hl : xs.length < lim) (q : Φ.nx Γ (Ω.set j ⟨i, oC r s, dput xs k x⟩)) : W Γ Ω (fAsg e (hSub (fVar i) ke)) Φ := fun M ks ρ st sat => by
  obtain ⟨d, st1, h1, h2, h3⟩ := he.own sat
  have sat1 := sat.pre h2
  obtain ⟨d2, st2, k1, k2, k3⟩ := hk.own sat1
  have sat2 := sat1.pre k2
  have hlt : j < ks.length := by rw [sat.len]; exact (List.getElem?_eq_some_iff.mp hj).1
  have hkj := List.getElem?_eq_getElem hlt
  obtain ⟨u1, u2, c0, u3, ds, rfl, u5, u6⟩ := sat2.own j _ _ hj hkj
  have h3' : s.at_ (ks ++ M) st2 d x := Free.free h3
  obtain ⟨z1, z2⟩ := sat2.chg (C := oC r s) (v := dput xs k x) (c := .dct (putL ds d2 d)) hj hkj ⟨_, rfl, Nat.le_trans dput_len hl, put_at u6 k3 h3'⟩
  have gs : gSet (.cel ks[j]) d2 d st2 = .ok () (st2.set ks[j] (.dct (putL ds d2 d))) := by
    unfold gSet
    simp only [u3]
    rw [if_pos ⟨by rw [KeyRel.to k3]; exact KeyRel.key _, by rw [u6.len]; exact hl⟩]
  have ev : fAsg e (hSub (fVar i) ke) ρ st = .nx ρ (st2.set ks[j] (.dct (putL ds d2 d))) := by
    simp [h1, u1, k1, gs]
  rw [ev]
  exact ⟨_, _, _, (Fra.pre (h2.trans k2)).trans z2, z1, q⟩
theorem getD_some {α : Type} {xs : List α} {k : Nat} {d : α} (h : k < xs.length) : xs[k]? = some (xs.getD k d) := by
  rw [List.getD_eq_getElem?_getD, List.getElem?_eq_getElem h]; rfl
theorem run_minL {xs : List (List Nat)} (h : xs ≠ []) : Rn kMinA [⟨rL rS, xs⟩] rS (minL (xs.headD []) xs.tail) := by
  cases xs with
  | nil => exact absurd rfl h
  | cons x xs => exact run_minS
theorem run_min2S {a b : List Nat} : Rn kMinA [⟨rS, a⟩, ⟨rS, b⟩] rS (if b < a then b else a) := fun M st ds hm h => by
  obtain ⟨d, e, rfl, x, y⟩ := h.two
  obtain ⟨rfl, x1, x2⟩ := rS_at.mp x
  obtain ⟨rfl, y1, y2⟩ := rS_at.mp y
  refine ⟨_, st, rfl, List.prefix_rfl, rS_at.mpr ⟨rfl, ?_⟩⟩
  split
  · exact ⟨y1, y2⟩
  · exact ⟨x1, x2⟩
theorem W.ff {t : FT} {b : Bool} {s s2 : FS} (h : ExT (Froz Γ Ω) t b) (e : b = false) (k : W Γ Ω s2 Φ) : W Γ Ω (fIf t s s2) Φ := W.ite h (fun h => by rw [e] at h; cases h) fun _ => k
theorem W.tt {t : FT} {b : Bool} {s s2 : FS} (h : ExT (Froz Γ Ω) t b) (e : b = true) (k : W Γ Ω s Φ) : W Γ Ω (fIf t s s2) Φ := W.ite h (fun _ => k) fun h => by rw [e] at h; cases h
theorem WG.ff {n k : Nat} {Φ : PostG} {t : FT} {b : Bool} {s s2 : FS} (h : ExT (Froz Γ Ω) t b) (e : b = false) (q : WG n k Γ Ω s2 Φ) : WG n k Γ Ω (fIf t s s2) Φ := WG.ite h (fun h => by rw [e] at h; cases h) fun _ => q
theorem WG.tt {n k : Nat} {Φ : PostG} {t : FT} {b : Bool} {s s2 : FS} (h : ExT (Froz Γ Ω) t b) (e : b = true) (q : WG n k Γ Ω s Φ) : WG n k Γ Ω (fIf t s s2) Φ := WG.ite h (fun _ => q) fun h => by rw [e] at h; cases h
theorem r2_ixLm {xs : List τ} [Inhabited τ] {r : Rel τ} {k : Nat} (h : k < xs.length) : Rn2 gIx (rL r) xs rN k r (xs.getD k default) := r2_ixL (getD_some h)
theorem r2_ixTLm {xs : List τ} [Inhabited τ] {r : Rel τ} {k : Nat} (h : k < xs.length) : Rn2 gIx (rTL r) xs rN k r (xs.getD k default) := r2_ixTL (getD_some h)
theorem r2_ixSm {s : List Nat} {k : Nat} (h : k < s.length) : Rn2 gIx rS s rN k rS [s.getD k default] := r2_ixS (getD_some h)
theorem last_some {α : Type} [Inhabited α] {xs : List α} (h : xs ≠ []) : xs.getLast? = some (xs.getLastD default) := by
  cases xs with
  | nil => exact absurd rfl h
  | cons x xs => rw [List.getLast?_eq_some_getLast (by simp), List.getLastD_cons]; rw [List.getLast_eq_getLastD]
theorem r2_lastLm {xs : List τ} [Inhabited τ] {r : Rel τ} (h : xs ≠ []) : Rn2 gIx (rL r) xs rI (-1) r (xs.getLastD default) := r2_lastL (last_some h)
theorem r2_lastSm {s : List Nat} (h : s ≠ []) : Rn2 gIx rS s rI (-1) rS [s.getLastD default] := r2_lastS (last_some h)
/-- how long a value is -/
def LenOf (r : Rel τ) (v : τ) (n : Nat) : Prop := ∀ M st d, r.at_ M st d v → kLen [d] st = .ok (.int (n : Nat)) st ∧ n ≤ lim
theorem lenS {s : List Nat} : LenOf rS s s.length := fun M st d h => by
  obtain ⟨rfl, _, h2⟩ := rS_at.mp h
  exact ⟨kLen_str h2, h2⟩
theorem lenL {r : Rel τ} {xs : List τ} : LenOf (rL r) xs xs.length := fun M st d h => by
  obtain ⟨es, h1, h2, h3⟩ := rL_at.mp h
  refine ⟨?_, h2⟩
  rw [← h3.len]
  rcases h1 with rfl | ⟨i, rfl, _, hk⟩
  · rfl
  · exact kLen_cel hk
theorem lenTL {r : Rel τ} {xs : List τ} : LenOf (rTL r) xs xs.length := fun M st d h => by
  obtain ⟨es, rfl, h2, h3⟩ := rTL_at.mp h
  rw [← h3.len]
  exact ⟨rfl, by rw [h3.len]; exact h2⟩
theorem ExI.rangeV {f : FE} {r : Rel τ} {v : τ} {n : Nat} (h : Ex Γ f r v) (l : LenOf r v n) : ExI Γ (iRange1 (fCB kLen (faCons f faNil))) rN (List.range n) := fun M ρ st q => by
  obtain ⟨d, st', e, p, a⟩ := h M ρ st q
  obtain ⟨l1, l2⟩ := l M st' d a
  have hh : Ex Γ (fCB kLen (faCons f faNil)) rN n := fun M ρ st q => by
    obtain ⟨d, st', e, p, a⟩ := h M ρ st q
    exact ⟨_, st', by simp [e, (l M st' d a).1], p, rN_at.mpr rfl⟩
  exact ExI.range1 hh l2 M ρ st q
theorem ExI.range2V {f g : FE} {m n : Nat} {r : Rel τ} {v : τ} (k : Ex Γ g rN m) (h : Ex Γ f r v) (l : LenOf r v n) (hm : m ≤ lim) : ExI Γ (iRange2 g (fCB kLen (faCons f faNil))) rN (List.range' m (n - m)) := fun M ρ st q => by
  obtain ⟨d, st', e, p, a⟩ := h M ρ st q
  obtain ⟨l1, l2⟩ := l M st' d a
  have hh : Ex Γ (fCB kLen (faCons f faNil)) rN n := fun M ρ st q => by
    obtain ⟨d, st', e, p, a⟩ := h M ρ st q
    exact ⟨_, st', by simp [e, (l M st' d a).1], p, rN_at.mpr rfl⟩
  exact ExI.range2 k hh l2 hm M ρ st q
theorem RnG.sp {F : F1} {n k c : Nat} (h : RnG F (fun n => [⟨rC, n⟩]) rB (· = true) c) (g : Gen st n (k : Int)) (hk : k + c ≤ kB) : ∃ st', F [.cel n] st = .ok (.bl true) st' ∧ Gen st' n ((k + c : Nat) : Int) := by
  obtain ⟨v, d, st', e, f, g', a, p⟩ := h n k [n] st [.cel n] (List.mem_singleton.mpr rfl) (fun m hm => by rw [List.mem_singleton.mp hm]; exact g.lt) g hk (.cons (rC_at.mpr rfl) .nil)
  have p : v = true := p
  rw [rB_at.mp a, p] at e
  exact ⟨st', e, g'⟩
theorem W.sp {s : FS} {Γ : Cn} (h : W Γ [] s (FL.ret rB true)) (hl : ρ.length = Γ.length) (hn : ∀ i, look Γ i = none) : ∃ st', s ρ st = .rt (.bl true) st' := by
  have oc := h [] [] ρ st ⟨⟨hl, fun m hm => by simp at hm, fun i e q => by rw [hn i] at q; cases q⟩, rfl, List.nodup_nil, fun k hk => by simp at hk, fun j o k h1 h2 => by simp at h1⟩
  revert oc
  cases s ρ st with
  | no => intro oc; exact oc.elim
  | exc c x ρ s => intro oc; exact oc.elim
  | bk ρ s => intro oc; obtain ⟨_, _, _, _, _, q⟩ := oc; exact q.elim
  | ct ρ s => intro oc; obtain ⟨_, _, _, _, _, q⟩ := oc; exact q.elim
  | nx ρ s => intro oc; obtain ⟨_, _, _, _, _, q⟩ := oc; have q : (⟨rU, ()⟩ : Ent) = ⟨rB, true⟩ := q; exact absurd (congrArg (fun e : Ent => Nonempty (e.τ = Bool)) q) (by intro z; have z : Nonempty (Unit = Bool) = Nonempty (Bool = Bool) := z; have : Nonempty (Unit = Bool) := z ▸ ⟨rfl⟩; obtain ⟨e⟩ := this; have h1 : ∀ a b : Unit, a = b := fun _ _ => rfl; rw [e] at h1; exact absurd (h1 true false) (by decide))
  | rt d s =>
    intro oc
    obtain ⟨ks', τ', r', v', f, a, q⟩ := oc
    have q : (⟨r', v'⟩ : Ent) = ⟨rB, true⟩ := q
    cases q
    rw [rB_at.mp a]
    exact ⟨s, rfl⟩
/-- a def that tells a new cell -/
def RnC {τ : Type} (F : F1) (es : List Ent) (C : CRel τ) (v : τ) : Prop := ∀ M st ds, (∀ m ∈ M, m < st.length) → SL M st ds es → ∃ c st', F ds st = .ok (.cel st'.length) (st' ++ [c]) ∧ st <+: st' ∧ C.co M st' c v
theorem ExC.call {n : Nat} {F : F1} {fa : FA} {es : List Ent} {C : CRel τ} {v : τ} (ha : ExA Γ fa es) (hr : RnC F es C v) (hn : LenIs es n) : ExC Γ (fCall n F fa) C v := fun M ρ st q => by
  obtain ⟨ds, st1, e1, p1, a1⟩ := ha M ρ st q
  obtain ⟨c, st2, e2, p2, a2⟩ := hr M st1 ds (mot_pre q.mot p1) a1
  have hn : es.length = n := hn
  exact ⟨c, st2, by simp [e1, a1.len, hn, e2], p1.trans p2, a2⟩
theorem ExG.join {n k k1 : Nat} {f g : FE} {s : List Nat} {φ : List (List Nat) → Prop} (h : Ex Γ f rS s) (q : ExG n k Γ g (rL rS) φ k1) (hl : ∀ ss, φ ss → (ss.map List.length).sum + ss.length * s.length ≤ lim) : ExG n k Γ (fBm .str mJoin f (faCons g faNil)) rS (fun t => ∃ ss, φ ss ∧ t = joinS s ss) k1 := fun M ρ st hn gn sat => by
  obtain ⟨d, st1, e1, p1, a1⟩ := h M ρ st sat
  obtain ⟨ss, d2, st2, e2, f2, g2, a2, z⟩ := q M ρ st1 hn (gn.pre p1) (sat.pre p1)
  obtain ⟨rfl, h1, h2⟩ := rS_at.mp a1
  obtain ⟨es, k1, k2, k3⟩ := rL_at.mp a2
  have g : mJoin (.str s) [d2] st2 = .ok (.str (joinS s ss)) st2 := by
    unfold mJoin
    simp only [k1.itemsS, Option.bind_some, k3.strs, strsOf_map]
    rw [if_pos (hl ss z)]
  refine ⟨_, _, st2, by simp [e1, e2, g, tyIs], (Fr.pre p1).trans f2, g2, rS_at.mpr ⟨rfl, ?_, Nat.le_trans (joinS_len s ss) (hl ss z)⟩, ss, z, rfl⟩
  refine List.all_eq_true.mpr fun c hc => ?_
  rcases joinS_mem hc with hc | ⟨t, ht, hc⟩
  · exact List.all_eq_true.mp h1 c hc
  · exact List.all_eq_true.mp (k3.oks t ht).1 c hc
/-! ### isinstance -/
class TyR {τ : Type} (r : Rel τ) where
  ty : Ty
  is : ∀ {M : List Nat} {st : Sto} {d : D} {v : τ}, r.at_ M st d v → tyOf st d = some ty
instance : TyR rN := ⟨.int, fun h => by rw [rN_at.mp h]; rfl⟩
instance : TyR rI := ⟨.int, fun h => by rw [rI_at.mp h]; rfl⟩
instance : TyR rB := ⟨.bool, fun h => by rw [rB_at.mp h]; rfl⟩
instance : TyR rU := ⟨.non, fun h => by rw [rU_at.mp h]; rfl⟩
instance : TyR rS := ⟨.str, fun h => by rw [(rS_at.mp h).1]; rfl⟩
instance {r : Rel τ} : TyR (rL r) := ⟨.list, fun h => by
  obtain ⟨ds, h1, _⟩ := rL_at.mp h
  rcases h1 with rfl | ⟨k, rfl, _, hk⟩
  · rfl
  · unfold tyOf; simp only [hk]⟩
instance {r : Rel τ} : TyR (rTL r) := ⟨.tuple, fun h => by
  obtain ⟨ds, rfl, _⟩ := rTL_at.mp h
  rfl⟩
instance {r : Rel α} {s : Rel β} : TyR (rP r s) := ⟨.tuple, fun h => by
  obtain ⟨a, b, rfl, _⟩ := rP_at.mp h
  rfl⟩
instance {r : Rel α} {s : Rel β} {t : Rel γ} : TyR (rT r s t) := ⟨.tuple, fun h => by
  obtain ⟨a, b, c, rfl, _⟩ := rT_at.mp h
  rfl⟩
instance {r : Rel α} {s : Rel β} : TyR (rD r s) := ⟨.dict, fun h => by
  obtain ⟨ds, h1, _⟩ := rD_at.mp h
  rcases h1 with rfl | ⟨k, rfl, _, hk⟩
  · rfl
  · unfold tyOf; simp only [hk]⟩
instance {r : Rel α} {s : Rel β} : TyR (rDc r s) := ⟨.dict, fun h => TyR.is (rDc_rD h)⟩
theorem run_isi {r : Rel τ} [TyR r] {v : τ} {t : Ty} : Rn kIsi [⟨r, v⟩, ⟨rX, .ty t⟩] rB (isTy (TyR.ty r) t) := fun M st ds hm sl => by
  obtain ⟨a, b, rfl, h1, h2⟩ := sl.two
  rw [rX_at.mp h2]
  exact ⟨_, st, kIsi_of (TyR.is h1), List.prefix_rfl, rB_at.mpr rfl⟩
theorem run_isi2 {r : Rel τ} [TyR r] {v : τ} {t u : Ty} : Rn kIsi [⟨r, v⟩, ⟨rX, .tup [.ty t, .ty u]⟩] rB (isTy (TyR.ty r) t || isTy (TyR.ty r) u) := fun M st ds hm sl => by
  obtain ⟨a, b, rfl, h1, h2⟩ := sl.two
  rw [rX_at.mp h2]
  exact ⟨_, st, kIsi_of2 (TyR.is h1), List.prefix_rfl, rB_at.mpr rfl⟩
/-! ### numbers of two kinds -/
theorem r2_addNI {x : Nat} {y : Int} : Rn2 gAdd rN x rI y rI ((x : Int) + y) := fun M st d1 d2 h k => by
  rw [rN_at.mp h, rI_at.mp k]; exact ⟨_, rfl, rI_at.mpr rfl⟩
theorem r2_addIN {x : Int} {y : Nat} : Rn2 gAdd rI x rN y rI (x + (y : Int)) := fun M st d1 d2 h k => by
  rw [rI_at.mp h, rN_at.mp k]; exact ⟨_, rfl, rI_at.mpr rfl⟩
theorem r2_subNI {x : Nat} {y : Int} : Rn2 gSub rN x rI y rI ((x : Int) - y) := fun M st d1 d2 h k => by
  rw [rN_at.mp h, rI_at.mp k]; exact ⟨_, rfl, rI_at.mpr rfl⟩
theorem r2_subIN {x : Int} {y : Nat} : Rn2 gSub rI x rN y rI (x - (y : Int)) := fun M st d1 d2 h k => by
  rw [rI_at.mp h, rN_at.mp k]; exact ⟨_, rfl, rI_at.mpr rfl⟩
theorem r2_mulNI {x : Nat} {y : Int} (h : x < 18446744073709551616) : Rn2 gMul rN x rI y rI ((x : Int) * y) := fun M st d1 d2 q k => by
  rw [rN_at.mp q, rI_at.mp k]; exact ⟨_, gMul_int (cMul_l (by omega)), rI_at.mpr rfl⟩
theorem r2_mulIN {x : Int} {y : Nat} (h : y < 18446744073709551616) : Rn2 gMul rI x rN y rI (x * (y : Int)) := fun M st d1 d2 q k => by
  rw [rI_at.mp q, rN_at.mp k]; exact ⟨_, gMul_int (cMul_r (by omega)), rI_at.mpr rfl⟩
theorem r2_divIN {x : Int} {y : Nat} (h : 0 < y) (h2 : y < 18446744073709551616) : Rn2 gDiv rI x rN y rI (x / (y : Int)) := fun M st d1 d2 q k => by
  rw [rI_at.mp q, rN_at.mp k]; exact ⟨_, gDiv_int (by omega) (by omega), rI_at.mpr rfl⟩
theorem r2_modIN {x : Int} {y : Nat} (h : 0 < y) : Rn2 gMod rI x rN y rI (x % (y : Int)) := fun M st d1 d2 q k => by
  rw [rI_at.mp q, rN_at.mp k]; exact ⟨_, gMod_int (by omega), rI_at.mpr rfl⟩
theorem r2_eqIN {x : Int} {y : Nat} : Rn2 gEq rI x rN y rB (decide (x = (y : Int))) := fun M st d1 d2 q k => by
  rw [rI_at.mp q, rN_at.mp k]; exact ⟨_, gEq_int, rB_at.mpr rfl⟩
theorem r2_eqNI {x : Nat} {y : Int} : Rn2 gEq rN x rI y rB (decide ((x : Int) = y)) := fun M st d1 d2 q k => by
  rw [rN_at.mp q, rI_at.mp k]; exact ⟨_, gEq_int, rB_at.mpr rfl⟩
theorem r2_ltIN {x : Int} {y : Nat} : Rn2 gLt rI x rN y rB (decide (x < (y : Int))) := fun M st d1 d2 q k => by
  rw [rI_at.mp q, rN_at.mp k]; exact ⟨_, rfl, rB_at.mpr rfl⟩
theorem r2_ltNI {x : Nat} {y : Int} : Rn2 gLt rN x rI y rB (decide ((x : Int) < y)) := fun M st d1 d2 q k => by
  rw [rN_at.mp q, rI_at.mp k]; exact ⟨_, rfl, rB_at.mpr rfl⟩
theorem run_is_whole {r : Rel τ} [TyR r] (h : TyR.ty r = .int) {v : τ} : Rn F_is_whole [⟨r, v⟩] rB true := .sp1 fun M st d hm a => by
  have ty := TyR.is a
  rw [h] at ty
  refine ⟨.bl true, st, ?_, List.prefix_rfl, rB_at.mpr rfl⟩
  unfold F_is_whole fb_is_whole
  simp [kIsi_of ty, isTy]
theorem run_is_count {n : Nat} : Rn F_is_count [⟨rN, n⟩] rB true := .sp1 fun M st d hm a => by
  have ty := TyR.is a
  have w : F_is_whole [d] st = .ok (.bl true) st := by
    unfold F_is_whole fb_is_whole
    simp [kIsi_of ty, isTy, show TyR.ty rN = Ty.int from rfl]
  rw [rN_at.mp a] at w ⊢
  refine ⟨.bl true, st, ?_, List.prefix_rfl, rB_at.mpr rfl⟩
  unfold F_is_count fb_is_count
  simp [w]
end
end FL

/-! FVh: in a dict, repr, enumerate, reversed, steps, sorted, dict displays -/
namespace FL
open PySem PySem.Spec PyProof.Rows L2
section
variable {M ks : List Nat} {Γ Γ' : Cn} {Ω : List Own} {ρ : En} {st st' : Sto} {τ α β γ κ : Type} {r : Rel τ} {v : τ} {d : D} {i j : Nat} {Φ : Post}
/-! ### in a dict -/
theorem look_is {κ : Type} [DecidableEq κ] {r : Rel κ} [KeyRel r] {s : Rel β} {k : κ} {es : List (D × D)} {xs : List (κ × β)} (h : A2 (EnAt r s M st) es xs) : (lookK es (KeyRel.kd r k)).isSome = (dget xs k).isSome := by
  induction h with
  | nil => rfl
  | @cons d y ds ys a h ih =>
    have hk := KeyRel.to a.1
    unfold dget lookK at *
    rw [List.find?_cons, List.find?_cons, hk, sameK_dec]
    by_cases hy : y.1 = k
    · rw [decide_eq_true hy]; rfl
    · rw [decide_eq_false hy]; exact ih
def DcIn (st : Sto) (d : D) (es : List (D × D)) : Prop := d = .dct es ∨ ∃ k, d = .cel k ∧ (st[k]? = some (.dct es) ∨ st[k]? = some (.lck es))
theorem inK_at {κ : Type} [DecidableEq κ] {r : Rel κ} [KeyRel r] {s : Rel β} {k : κ} {es : List (D × D)} {xs : List (κ × β)} (h : DcIn st d es) (a : A2 (EnAt r s M st) es xs) : inD st (KeyRel.kd r k) d = none ∧ inK st (KeyRel.kd r k) d = some (dget xs k).isSome := by
  have hk := KeyRel.key (r := r) k
  have l := look_is (k := k) a
  have e1 : ents st d = some es := by
    rcases h with rfl | ⟨k, rfl, h | h⟩
    · rfl
    · unfold ents; simp only [h]
    · unfold ents; simp only [h]
  have e2 : ∀ n, toPy st n d = none := fun n => by
    rcases h with rfl | ⟨k, rfl, h | h⟩
    · cases n <;> rfl
    · cases n with
      | zero => rfl
      | succ n => show (items st (.cel k)).bind _ = none; unfold items; simp only [h]; rfl
    · cases n with
      | zero => rfl
      | succ n => show (items st (.cel k)).bind _ = none; unfold items; simp only [h]; rfl
  have nd : ∀ s, d ≠ .str s := fun s e => by rcases h with rfl | ⟨k, rfl, _⟩ <;> cases e
  refine ⟨?_, ?_⟩
  · unfold inD
    split
    · exact absurd rfl (nd _)
    · exact absurd rfl (nd _)
    · rw [e2]
      split
      · rename_i h2; cases h2
      · rfl
  · unfold inK
    rw [e1]
    generalize KeyRel.kd r k = y at *
    cases y with
    | int i => show some _ = _; rw [l]
    | str s => show some _ = _; rw [l]
    | _ => cases hk
theorem rD_in {r : Rel α} {s : Rel β} {xs : List (α × β)} (h : (rD r s).at_ M st d xs) : ∃ es, DcIn st d es ∧ A2 (EnAt r s M st) es xs := by
  obtain ⟨es, h1, _, h3⟩ := rD_at.mp h
  rcases h1 with rfl | ⟨k, rfl, _, hk⟩
  · exact ⟨es, .inl rfl, h3⟩
  · exact ⟨es, .inr ⟨k, rfl, .inl hk⟩, h3⟩
theorem rK_in {r : Rel α} {s : Rel β} {xs : List (α × β)} (h : (rK r s).at_ M st d xs) : ∃ es, DcIn st d es ∧ A2 (EnAt r s M st) es xs := by
  obtain ⟨k, es, rfl, _, hk, _, h3⟩ := rK_at.mp h
  exact ⟨es, .inr ⟨k, rfl, .inr hk⟩, h3⟩
theorem gIn_kd {κ : Type} [DecidableEq κ] {r : Rel κ} [KeyRel r] {s : Rel β} {k : κ} {xs : List (κ × β)} (h : ∃ es, DcIn st d es ∧ A2 (EnAt r s M st) es xs) : gIn (KeyRel.kd r k) d st = .ok (.bl (dget xs k).isSome) st ∧ gNotIn (KeyRel.kd r k) d st = .ok (.bl (!(dget xs k).isSome)) st := by
  obtain ⟨es, h1, h2⟩ := h
  obtain ⟨e1, e2⟩ := inK_at (k := k) h1 h2
  unfold gIn gNotIn
  simp only [e1, e2]
  exact ⟨trivial, trivial⟩
theorem r2_inD [DecidableEq κ] {r : Rel κ} [KeyRel r] {s : Rel β} {xs : List (κ × β)} {k : κ} : Rn2 gIn r k (rD r s) xs rB (dget xs k).isSome := fun M st d1 d2 q p => by
  rw [KeyRel.to q]; exact ⟨_, (gIn_kd (rD_in p)).1, rB_at.mpr rfl⟩
theorem r2_notInD [DecidableEq κ] {r : Rel κ} [KeyRel r] {s : Rel β} {xs : List (κ × β)} {k : κ} : Rn2 gNotIn r k (rD r s) xs rB (!(dget xs k).isSome) := fun M st d1 d2 q p => by
  rw [KeyRel.to q]; exact ⟨_, (gIn_kd (rD_in p)).2, rB_at.mpr rfl⟩
theorem r2_inDc [DecidableEq κ] {r : Rel κ} [KeyRel r] {s : Rel β} {xs : List (κ × β)} {k : κ} : Rn2 gIn r k (rDc r s) xs rB (dget xs k).isSome := fun M st d1 d2 q p => by
  rw [KeyRel.to q]; exact ⟨_, (gIn_kd (rD_in (rDc_rD p))).1, rB_at.mpr rfl⟩
theorem r2_notInDc [DecidableEq κ] {r : Rel κ} [KeyRel r] {s : Rel β} {xs : List (κ × β)} {k : κ} : Rn2 gNotIn r k (rDc r s) xs rB (!(dget xs k).isSome) := fun M st d1 d2 q p => by
  rw [KeyRel.to q]; exact ⟨_, (gIn_kd (rD_in (rDc_rD p))).2, rB_at.mpr rfl⟩
theorem r2_inK [DecidableEq κ] {r : Rel κ} [KeyRel r] {s : Rel β} {xs : List (κ × β)} {k : κ} : Rn2 gIn r k (rK r s) xs rB (dget xs k).isSome := fun M st d1 d2 q p => by
  rw [KeyRel.to q]; exact ⟨_, (gIn_kd (rK_in p)).1, rB_at.mpr rfl⟩
theorem r2_notInK [DecidableEq κ] {r : Rel κ} [KeyRel r] {s : Rel β} {xs : List (κ × β)} {k : κ} : Rn2 gNotIn r k (rK r s) xs rB (!(dget xs k).isSome) := fun M st d1 d2 q p => by
  rw [KeyRel.to q]; exact ⟨_, (gIn_kd (rK_in p)).2, rB_at.mpr rfl⟩
theorem run_lenDc {r : Rel α} {s : Rel β} {xs : List (α × β)} : Rn kLen [⟨rDc r s, xs⟩] rN xs.length := fun M st ds hm h => by
  obtain ⟨d, rfl, a⟩ := h.one
  exact run_lenD M st [d] hm (.cons (rDc_rD a) .nil)

/-! ### repr -/
class RelSh {τ : Type} (r : Rel τ) where
  sh : τ → PyData
  dep : Nat
  to : ∀ {M : List Nat} {st : Sto} {d : D} {v : τ} {n : Nat}, r.at_ M st d v → toPyR st (n + dep) d = some (sh v) ∧ strsOk (sh v) = true
theorem toPyR_lst {n : Nat} {ds : List D} : toPyR st (n + 1) (.lst ds) = (ds.mapM (toPyR st n)).map .list := rfl
theorem toPyR_tup {n : Nat} {ds : List D} : toPyR st (n + 1) (.tup ds) = (ds.mapM (toPyR st n)).map .tuple := rfl
theorem toPyR_dct {n : Nat} {es : List (D × D)} : toPyR st (n + 1) (.dct es) = (es.mapM (entPy (toPyR st n))).map .dict := rfl
theorem toPyR_cel {n k : Nat} {ds : List D} (h : st[k]? = some (.lst ds)) : toPyR st (n + 1) (.cel k) = (ds.mapM (toPyR st n)).map .list := by rw [toPyR]; simp only [h]
theorem toPyR_celD {n k : Nat} {es : List (D × D)} (h : st[k]? = some (.dct es)) : toPyR st (n + 1) (.cel k) = (es.mapM (entPy (toPyR st n))).map .dict := by rw [toPyR]; simp only [h]
theorem toPyR_int {n : Nat} {i : Int} : toPyR st n (.int i) = some (.int i) := by cases n <;> rfl
theorem toPyR_str {n : Nat} {s : List Nat} : toPyR st n (.str s) = some (.str (sv s)) := by cases n <;> rfl
theorem toPyR_bl {n : Nat} {b : Bool} : toPyR st n (.bl b) = some (.bool b) := by cases n <;> rfl
theorem toPyR_non {n : Nat} : toPyR st n .non = some .none := by cases n <;> rfl
instance : RelSh rI := ⟨.int, 0, fun h => by rw [rI_at.mp h]; exact ⟨toPyR_int, rfl⟩⟩
instance : RelSh rN := ⟨fun v => .int (v : Int), 0, fun h => by rw [rN_at.mp h]; exact ⟨toPyR_int, rfl⟩⟩
instance : RelSh rB := ⟨.bool, 0, fun h => by rw [rB_at.mp h]; exact ⟨toPyR_bl, rfl⟩⟩
instance : RelSh rU := ⟨fun _ => .none, 0, fun h => by rw [rU_at.mp h]; exact ⟨toPyR_non, rfl⟩⟩
instance : RelSh rS := ⟨fun v => .str (sv v), 0, fun h => by
  obtain ⟨rfl, h1, _⟩ := rS_at.mp h
  refine ⟨toPyR_str, ?_⟩
  rw [strsOk, sv_tl]
  exact h1⟩
theorem strsOkA_map {f : τ → PyData} : ∀ {xs : List τ}, (∀ x ∈ xs, strsOk (f x) = true) → strsOkA (xs.map f) = true
  | [], _ => rfl
  | x :: xs, h => by
    rw [List.map_cons, strsOkA, h x List.mem_cons_self, strsOkA_map fun y hy => h y (List.mem_cons_of_mem _ hy)]
    rfl
theorem strsOkK_map {f : τ → PyData × PyData} : ∀ {xs : List τ}, (∀ x ∈ xs, strsOk (f x).1 = true ∧ strsOk (f x).2 = true) → strsOkK (xs.map f) = true
  | [], _ => rfl
  | x :: xs, h => by
    rw [List.map_cons, strsOkK, (h x List.mem_cons_self).1, (h x List.mem_cons_self).2, strsOkK_map fun y hy => h y (List.mem_cons_of_mem _ hy)]
    rfl
theorem mapM_A2' {δ ε : Type} {f : δ → Option ε} {R : δ → τ → Prop} {g : τ → ε} (h : ∀ d x, R d x → f d = some (g x)) : ∀ {ds : List δ} {xs : List τ}, A2 R ds xs → ds.mapM f = some (xs.map g)
  | _, _, .nil => by simp
  | _, _, .cons a k => by
    rw [List.mapM_cons, h _ _ a, mapM_A2' h k]
    rfl
instance {r : Rel τ} [RelSh r] : RelSh (rL r) where
  sh v := .list (v.map (RelSh.sh r))
  dep := RelSh.dep r + 1
  to {M st d v n} h := by
    obtain ⟨ds, h1, h2, h3⟩ := rL_at.mp h
    have e : ds.mapM (toPyR st (n + RelSh.dep r)) = some (v.map (RelSh.sh r)) := mapM_A2 (f := toPyR st (n + RelSh.dep r)) (g := RelSh.sh r) (R := r.at_ M st) (fun d x q => (RelSh.to (n := n) q).1) h3
    refine ⟨?_, ?_⟩
    · rcases h1 with rfl | ⟨k, rfl, _, hk⟩
      · rw [← Nat.add_assoc, toPyR_lst, e]; rfl
      · rw [← Nat.add_assoc, toPyR_cel hk, e]; rfl
    · rw [strsOk]
      exact strsOkA_map fun x hx => by
        obtain ⟨d, _, q⟩ := h3.memr x hx
        exact (RelSh.to (n := 0) q).2
instance {r : Rel τ} [RelSh r] : RelSh (rTL r) where
  sh v := .tuple (v.map (RelSh.sh r))
  dep := RelSh.dep r + 1
  to {M st d v n} h := by
    obtain ⟨ds, rfl, h2, h3⟩ := rTL_at.mp h
    have e : ds.mapM (toPyR st (n + RelSh.dep r)) = some (v.map (RelSh.sh r)) := mapM_A2 (f := toPyR st (n + RelSh.dep r)) (g := RelSh.sh r) (R := r.at_ M st) (fun d x q => (RelSh.to (n := n) q).1) h3
    refine ⟨?_, ?_⟩
    · rw [← Nat.add_assoc, toPyR_tup, e]; rfl
    · rw [strsOk]
      exact strsOkA_map fun x hx => by
        obtain ⟨d, _, q⟩ := h3.memr x hx
        exact (RelSh.to (n := 0) q).2
theorem keyPy_sh {κ : Type} {r : Rel κ} [KeyRel r] [RelSh r] {k : κ} {n : Nat} (h : r.at_ M st d k) : keyPy d = some (RelSh.sh r k) := by
  have e := (RelSh.to (n := n) h).1
  have hk := KeyRel.key (r := r) k
  rw [KeyRel.to h] at e ⊢
  generalize KeyRel.kd r k = y at *
  cases y with
  | int i => rw [toPyR_int] at e; exact e
  | str s => rw [toPyR_str] at e; exact e
  | _ => cases hk
instance {κ : Type} {r : Rel κ} {s : Rel β} [KeyRel r] [RelSh r] [RelSh s] : RelSh (rD r s) where
  sh v := .dict (v.map fun e => (RelSh.sh r e.1, RelSh.sh s e.2))
  dep := RelSh.dep s + 1
  to {M st d v n} h := by
    obtain ⟨es, h1, h2, h3⟩ := rD_at.mp h
    have e : es.mapM (entPy (toPyR st (n + RelSh.dep s))) = some (v.map fun e => (RelSh.sh r e.1, RelSh.sh s e.2)) := mapM_A2' (fun d x q => by
      unfold entPy
      rw [keyPy_sh (n := 0) q.1, (RelSh.to q.2).1]) h3
    refine ⟨?_, ?_⟩
    · rcases h1 with rfl | ⟨k, rfl, _, hk⟩
      · rw [← Nat.add_assoc, toPyR_dct, e]; rfl
      · rw [← Nat.add_assoc, toPyR_celD hk, e]; rfl
    · rw [strsOk]
      exact strsOkK_map fun x hx => by
        obtain ⟨d, _, q⟩ := h3.memr x hx
        exact ⟨(RelSh.to (n := 0) q.1).2, (RelSh.to (n := 0) q.2).2⟩
instance {κ : Type} {r : Rel κ} {s : Rel β} [KeyRel r] [RelSh r] [RelSh s] : RelSh (rDc r s) where
  sh v := .dict (v.map fun e => (RelSh.sh r e.1, RelSh.sh s e.2))
  dep := RelSh.dep s + 1
  to h := RelSh.to (r := rD r s) (rDc_rD h)
theorem run_repr {r : Rel τ} [RelSh r] {v : τ} (hd : RelSh.dep r ≤ 40 := by decide) (hs : (RelSh.sh r v).showable = true) (hl : (RelSh.sh r v).shown.length ≤ lim) : Rn kRepr [⟨r, v⟩] rS (RelSh.sh r v).shown.cps.toList := fun M st ds hm sl => by
  obtain ⟨d, rfl, a⟩ := sl.one
  obtain ⟨e, ok⟩ := RelSh.to (n := 40 - RelSh.dep r) a
  rw [show 40 - RelSh.dep r + RelSh.dep r = 40 from by omega] at e
  refine ⟨_, st, ?_, List.prefix_rfl, rS_at.mpr ⟨rfl, okS_shown _ ok, by simpa [Str.length] using hl⟩⟩
  unfold kRepr
  simp only [e]
  rw [if_pos ⟨hs, hl⟩]

/-! ### enumerate, reversed, steps -/
theorem ExI.enumS {f : FE} {s : List Nat} (h : Ex Γ f rS s) : ExI Γ (iEnum f) (rP rN rS) ((enumL s).map fun c => (c.1, [c.2])) := fun M ρ st q => by
  obtain ⟨d, st1, e1, p1, a1⟩ := h M ρ st q
  obtain ⟨rfl, h1, h2⟩ := rS_at.mp a1
  refine ⟨.fix ((enumL s).map fun c => .tup [.int (c.1 : Nat), .str [c.2]]), st1, by unfold iEnum; simp [e1], p1, srcAt_fix (A2.map fun c hc => ?_) (by rw [List.length_map, enumL_len]; exact h2)⟩
  have hc2 : c.2 ∈ s := (List.of_mem_zip hc).2
  exact rP_at.mpr ⟨_, _, rfl, rN_at.mpr rfl, rS_at.mpr ⟨rfl, okT_one h1 hc2, by unfold lim; simp⟩⟩
theorem ExI.enumL {f : FE} {r : Rel τ} {xs : List τ} (h : Ex Γ f (rL r) xs) : ExI Γ (iEnum f) (rP rN r) (enumL xs) := fun M ρ st q => by
  obtain ⟨d, st1, e1, p1, a1⟩ := h M ρ st q
  obtain ⟨s, s2, s3⟩ := sdOf_at a1
  obtain ⟨ds0, hx1, hx2, _⟩ := rL_at.mp a1
  have nt : ∀ s, d ≠ .str s := fun s e => by rcases hx1 with rfl | ⟨k, rfl, _⟩ <;> cases e
  refine ⟨.enm s, st1, ?_, p1, by rw [enumL_len]; exact hx2, fun M' st' x => ?_⟩
  · unfold iEnum
    rw [e1, R.bind_ok]
    split
    · exact absurd rfl (nt _)
    · rw [s2]; rfl
  · obtain ⟨u1, u2⟩ := s3 M' st' x
    refine ⟨by show _ ≤ sdLen s st'; rw [u1, enumL_len]; exact Nat.le_refl _, fun i => ?_⟩
    have v1 := u2 i
    rw [enumL_get]
    cases ex : xs[i]? with
    | none =>
      rw [ex] at v1
      show nextS _ _ _ = _
      unfold nextS
      simp only [v1]
    | some a =>
      rw [ex] at v1
      obtain ⟨b, v1, k1⟩ := v1
      exact ⟨.tup [.int (i : Nat), b], by unfold nextS; simp only [v1], rP_at.mpr ⟨_, _, rfl, rN_at.mpr rfl, k1⟩⟩
theorem ExI.revS {f : FE} {s : List Nat} (h : Ex Γ f rS s) : ExI Γ (iRev f) rS (s.reverse.map fun c => [c]) := fun M ρ st q => by
  obtain ⟨d, st1, e1, p1, a1⟩ := h M ρ st q
  obtain ⟨rfl, h1, h2⟩ := rS_at.mp a1
  refine ⟨.fix (s.reverse.map fun c => .str [c]), st1, by unfold iRev; simp [e1, h2], p1, srcAt_fix (A2.map fun c hc => ?_) (by rw [List.length_map, List.length_reverse]; exact h2)⟩
  exact rS_at.mpr ⟨rfl, okT_one h1 (List.mem_reverse.mp hc), by unfold lim; simp⟩
theorem fitsL {i : Int} (h1 : -10000000000 ≤ i) (h2 : i ≤ 10000000000) : Builtin.Range.rangeFitsLong i = true := by
  unfold Builtin.Range.rangeFitsLong
  rw [Bool.and_eq_true]
  exact ⟨decide_eq_true (Int.le_trans (by decide) h1), decide_eq_true (Int.lt_of_le_of_lt h2 (by decide))⟩
theorem rsz2 {n : Nat} (h : n ≤ lim) : rszC 0 (n : Int) 2 = some ((n + 1) / 2) := by
  have h : n ≤ 1000000 := h
  have e : Builtin.Range.rangeSize 0 (n : Int) 2 = (((n + 1) / 2 : Nat) : Int) := by
    unfold Builtin.Range.rangeSize
    rw [if_pos (by decide)]
    split <;> omega
  have sm : Builtin.Range.small 0 (n : Int) 2 = true := by
    unfold Builtin.Range.small
    rw [e, fitsL (by decide) (by decide), fitsL (by omega) (by omega), fitsL (by decide) (by decide), fitsL (by omega) (by omega), if_pos (by decide), fitsL (by omega) (by omega), Bool.or_true]
    rfl
  unfold rszC
  rw [e, if_pos ⟨by decide, by decide, sm, by rw [Int.toNat_natCast]⟩, Int.toNat_natCast]
theorem ExI.step2 {f : FE} {n : Nat} (h : Ex Γ f rN n) (hl : n ≤ lim) : ExI Γ (iRange3 (faCons (fC (.int 0)) (faCons f (faCons (fC (.int 2)) faNil)))) rN ((List.range ((n + 1) / 2)).map fun k => 2 * k) := fun M ρ st q => by
  obtain ⟨d, st1, e1, p1, a1⟩ := h M ρ st q
  rw [rN_at.mp a1] at e1
  have ea : faCons (fC (.int 0)) (faCons f (faCons (fC (.int 2)) faNil)) ρ st = .ok [.int 0, .int (n : Int), .int 2] st1 := by simp [e1]
  have hz := rsz2 hl
  have hm : (n + 1) / 2 ≤ lim := Nat.le_trans (by clear hl; omega) hl
  generalize (n + 1) / 2 = m at *
  refine ⟨.fix ((rngC 0 2 m).map D.int), st1, ?_, p1, srcAt_fix ?_ ?_⟩
  · unfold iRange3
    rw [ea, R.bind_ok]
    dsimp only
    rw [hz]
    rfl
  · unfold rngC
    rw [List.map_map]
    refine A2.map fun k _ => rN_at.mpr ?_
    show D.int (0 + (k : Int) * 2) = D.int ((2 * k : Nat) : Int)
    have ek : (0 + (k : Int) * 2) = ((2 * k : Nat) : Int) := by omega
    rw [ek]
  · rw [List.length_map, List.length_range]
    exact hm
/-! ### sorted -/
theorem Rn.sortX {es : List Ent} {r : Rel τ} {v : τ} (h : Rn kSorted es r v) : Rn kSortX es r v := fun M st ds hm sl => by
  obtain ⟨d, st', e, p, a⟩ := h M st ds hm sl
  refine ⟨d, st', ?_, p, a⟩
  unfold kSortX
  simp only [e]
theorem run_sortXS {xs : List (List Nat)} : Rn kSortX [⟨rL rS, xs⟩] (rL rS) (srt leS xs) := run_sortS.sortX
def leP (a b : Nat × Nat) : Bool := decide (a.1 < b.1 ∨ (a.1 = b.1 ∧ a.2 ≤ b.2))
theorem ordP : Ord' leP where
  tot x y := by unfold leP; simp; omega
  tr x y z := by unfold leP; simp; omega
  anti x y := by
    unfold leP
    simp only [decide_eq_true_eq]
    intro h1 h2
    exact Prod.ext (by omega) (by omega)
theorem strsOf_tup {a b : D} {r : List D} : strsOf (.tup [a, b] :: r) = none := rfl
theorem intsOf_tup {a b : D} {r : List D} : intsOf (.tup [a, b] :: r) = none := rfl
theorem run_sortXP {xs : List (Nat × Nat)} : Rn kSortX [⟨rL (rP rN rN), xs⟩] (rL (rP rN rN)) (srt leP xs) := fun M st ds hm sl => by
  obtain ⟨d, rfl, a⟩ := sl.one
  obtain ⟨es, h1, h2, h3⟩ := rL_at.mp a
  have hi := h1.itemsR
  have he : es = xs.map fun p => .tup [.int (p.1 : Int), .int (p.2 : Int)] := h3.eq_map fun d x q => by
    obtain ⟨a, b, rfl, q1, q2⟩ := rP_at.mp q
    rw [rN_at.mp q1, rN_at.mp q2]
  cases xs with
  | nil =>
    subst he
    refine ⟨.lst [], st, ?_, List.prefix_rfl, rL_at.mpr ⟨[], .inl rfl, by show 0 ≤ _; exact Nat.zero_le _, .nil⟩⟩
    have : kSorted [d] st = .ok (.lst []) st := by
      unfold kSorted
      simp only [hi]
      rfl
    unfold kSortX
    simp only [this]
  | cons x xs =>
    have e0 : kSorted [d] st = .no := by
      unfold kSorted
      simp only [hi]
      rw [he, List.map_cons]
      simp only [strsOf_tup, intsOf_tup]
    let enc : Nat × Nat → PyData := fun p => .tuple [.int (p.1 : Int), .int (p.2 : Int)]
    have e1 : es.mapM (toPy st 40) = some ((x :: xs).map enc) := by
      rw [he]
      exact mapM_of (fun p _ => rfl)
    have e2 : alikeB ((x :: xs).map enc) = true := by
      unfold alikeB
      rw [List.all_eq_true]
      intro p hp
      rw [List.all_eq_true]
      intro q hq
      obtain ⟨p', _, rfl⟩ := List.mem_map.mp hp
      obtain ⟨q', _, rfl⟩ := List.mem_map.mp hq
      rfl
    have e3 : sortableB ((x :: xs).map enc) = true := by
      unfold sortableB
      rw [Bool.or_eq_true]
      refine .inl ?_
      rw [List.all_eq_true]
      intro p hp
      obtain ⟨p', _, rfl⟩ := List.mem_map.mp hp
      rfl
    have e4 : srtD es ((x :: xs).map enc) = (srt leP (x :: xs)).map fun p => .tup [.int (p.1 : Int), .int (p.2 : Int)] := by
      unfold srtD
      have z : es.zip ((x :: xs).map enc) = (x :: xs).map fun p => (D.tup [.int (p.1 : Int), .int (p.2 : Int)], enc p) := by
        rw [he, List.zip_map']
      rw [z]
      have mm : ((x :: xs).mergeSort leP).map (fun p => (D.tup [.int (p.1 : Int), .int (p.2 : Int)], enc p)) = ((x :: xs).map fun p => (D.tup [.int (p.1 : Int), .int (p.2 : Int)], enc p)).mergeSort (PySem.W.dataLe false (fun b : D × PyData => b.2)) := by
        rw [List.map_mergeSort]
        intro p _ q _
        have := congrFun (congrFun (PySem.W.dataLe_ii (fun p : Nat × Nat => (p.1 : Int)) (fun p : Nat × Nat => (p.2 : Int))) p) q
        show leP p q = PySem.W.dataLe false enc p q
        rw [this]
        unfold leP
        refine decide_eq_decide.mpr ?_
        omega
      rw [← mm, List.map_map]
      have ms : (x :: xs).mergeSort leP = srt leP (x :: xs) := srt_of ordP (List.mergeSort_perm _ _) (List.pairwise_mergeSort (fun a b c => ordP.tr a b c) (fun a b => by
        rcases ordP.tot a b with h | h <;> simp [h]) _)
      rw [ms]
      rfl
    have hl2 : es.length ≤ lim := by rw [h3.len]; exact h2
    refine ⟨.lst ((srt leP (x :: xs)).map fun p => .tup [.int (p.1 : Int), .int (p.2 : Int)]), st, ?_, List.prefix_rfl, rL_at.mpr ⟨_, .inl rfl, by rw [(srt_perm _).length_eq]; exact h2, A2.map_l fun p _ => rP_at.mpr ⟨_, _, rfl, rN_at.mpr rfl, rN_at.mpr rfl⟩⟩⟩
    unfold kSortX
    simp only [e0, hi, e1]
    rw [if_pos ⟨e2, e3, hl2⟩, e4]
theorem run_sortXPC {xs : List (Nat × Nat)} : Rn (kCell kSortX) [⟨rL (rP rN rN), xs⟩] (rL (rP rN rN)) (srt leP xs) := fun M st ds hm sl => by
  obtain ⟨d, st', e, p, a⟩ := run_sortXP M st ds hm sl
  obtain ⟨es, h1, h2, h3⟩ := rL_at.mp a
  have hd : d = .lst es := by
    rcases h1 with h | ⟨k, rfl, hk, hs⟩
    · exact h
    · exfalso
      unfold kSortX at e
      split at e
      · rename_i e0
        cases e
        unfold kSorted at e0
        split at e0
        · split at e0
          · split at e0
            · cases e0
            · split at e0 <;> cases e0
          · cases e0
        · cases e0
      · split at e
        · split at e
          · split at e
            · split at e <;> cases e
            · cases e
          · split at e
            · split at e
              · split at e <;> cases e
              · split at e
                · split at e <;> cases e
                · cases e
            · cases e
        · cases e
  subst hd
  have nm : st'.length ∉ M := fun h => by
    have := hm _ h
    have := p.length_le
    omega
  refine ⟨.cel st'.length, st' ++ [.lst es], by unfold kCell; simp only [e], p.trans (List.prefix_append _ _), rL_at.mpr ⟨es, .inr ⟨_, rfl, nm, by simp⟩, h2, h3.imp fun d x q => (rP rN rN).pre (List.prefix_append _ _) q⟩⟩
theorem run_sortXD {s : Rel β} {xs : List (List Nat × β)} (h : xs.length < 64) : Rn kSortX [⟨rDc rS s, xs⟩] (rL rS) (srt leS (xs.map (·.1))) := fun M st ds hm sl => by
  obtain ⟨d, rfl, a⟩ := sl.one
  obtain ⟨k, es, rfl, h1, h2, h3, h4⟩ := rDc_at.mp a
  have he : es.map (·.1) = (xs.map (·.1)).map D.str := by
    have : ∀ {es : List (D × D)} {xs : List (List Nat × β)}, A2 (EnAt rS s M st) es xs → es.map (·.1) = (xs.map (·.1)).map D.str := fun h => by
      induction h with
      | nil => rfl
      | cons a h ih => rw [List.map_cons, List.map_cons, List.map_cons, ih, (rS_at.mp a.1).1]
    exact this h4
  have hi : itemsR st (.cel k) = none := by unfold itemsR items; simp only [h2]
  have hn : ents st (.cel k) = some es := by unfold ents; simp only [h2]
  have e0 : kSorted [.cel k] st = .no := by unfold kSorted; simp only [hi]
  refine ⟨.lst ((srt leS (xs.map (·.1))).map D.str), st, ?_, List.prefix_rfl, rL_at.mpr ⟨_, .inl rfl, ?_, A2.map_l fun p hp => ?_⟩⟩
  · unfold kSortX
    simp only [e0, hi, hn, he, strsOf_map]
    rw [if_pos (by simpa using h)]
  · rw [(srt_perm _).length_eq, List.length_map]; exact h3
  · have hp := (srt_perm _).mem_iff.mp hp
    obtain ⟨x, hx, rfl⟩ := List.mem_map.mp hp
    obtain ⟨e, _, q⟩ := h4.memr x hx
    obtain ⟨_, q2, q3⟩ := rS_at.mp q.1
    exact rS_at.mpr ⟨rfl, q2, q3⟩
end
end FL

/-! FVi: loops that draw, arguments that draw, things in motion that are drawn from, dict displays -/
namespace FL
open PySem PySem.Spec PyProof.Rows L2
section
variable {n k k1 k2 k3 : Nat} {M ks : List Nat} {Γ Γ' : Cn} {Ω : List Own} {ρ : En} {st st' : Sto} {τ α β γ κ : Type} {r : Rel τ} {v : τ} {d : D} {i j c : Nat} {Φ : PostG}
/-! ### arguments that draw -/
def ExAG (n k : Nat) (Γ : Cn) (fa : FA) (φ : List Ent → Prop) (k' : Nat) : Prop := ∀ M ρ st, n ∈ M → Gen st n (k : Int) → Sat M Γ ρ st → ∃ es ds st', fa ρ st = .ok ds st' ∧ Fr n st st' ∧ Gen st' n (k' : Int) ∧ SL M st' ds es ∧ φ es
theorem ExAG.nil : ExAG n k Γ faNil (· = []) k := fun M ρ st hn g sat => ⟨[], [], st, rfl, .refl, g, .nil, rfl⟩
theorem ExAG.cons {f : FE} {fa : FA} {r : Rel τ} {φ : τ → Prop} {ψ : τ → List Ent → Prop} (h : ExG n k Γ f r φ k1) (q : ∀ v, φ v → ExAG n k1 Γ fa (ψ v) k2) : ExAG n k Γ (faCons f fa) (fun es => ∃ v es', φ v ∧ ψ v es' ∧ es = ⟨r, v⟩ :: es') k2 := fun M ρ st hn g sat => by
  obtain ⟨v, d, st1, e1, f1, g1, a1, p1⟩ := h M ρ st hn g sat
  obtain ⟨es, ds, st2, e2, f2, g2, a2, p2⟩ := q v p1 M ρ st1 hn g1 (sat.xt (f1.xt hn))
  exact ⟨⟨r, v⟩ :: es, d :: ds, st2, by simp [e1, e2], f1.trans f2, g2, .cons (r.ext (f2.xt hn) a1) a2, v, es, p1, p2, rfl⟩
theorem ExAG.imp {fa : FA} {φ ψ : List Ent → Prop} (h : ExAG n k Γ fa φ k1) (q : ∀ es, φ es → ψ es) : ExAG n k Γ fa ψ k1 := fun M ρ st hn g sat => by
  obtain ⟨es, ds, st1, e1, f1, g1, a1, p1⟩ := h M ρ st hn g sat
  exact ⟨es, ds, st1, e1, f1, g1, a1, q es p1⟩
theorem ExG.cb {F : F1} {fa : FA} {φ : List Ent → Prop} {ψ : τ → Prop} (h : ExAG n k Γ fa φ k1) (q : ∀ es, φ es → ∃ v, Rn F es r v ∧ ψ v) : ExG n k Γ (fCB F fa) r ψ k1 := fun M ρ st hn g sat => by
  obtain ⟨es, ds, st1, e1, f1, g1, a1, p1⟩ := h M ρ st hn g sat
  obtain ⟨v, hr, p⟩ := q es p1
  have sat1 := sat.xt (f1.xt hn)
  obtain ⟨d, st2, e2, p2, a2⟩ := hr M st1 ds sat1.mot a1
  exact ⟨v, d, st2, by simp [e1, e2], f1.trans (.pre p2), g1.pre p2, a2, p⟩
/-- a call whose arguments draw, of a def that draws nothing -/
theorem ExG.callP {m : Nat} {F : F1} {fa : FA} {φ : List Ent → Prop} {ψ : τ → Prop} (h : ExAG n k Γ fa φ k1) (q : ∀ es, φ es → es.length = m ∧ ∃ v, Rn F es r v ∧ ψ v) : ExG n k Γ (fCall m F fa) r ψ k1 := fun M ρ st hn g sat => by
  obtain ⟨es, ds, st1, e1, f1, g1, a1, p1⟩ := h M ρ st hn g sat
  obtain ⟨hl, v, hr, p⟩ := q es p1
  have sat1 := sat.xt (f1.xt hn)
  obtain ⟨d, st2, e2, p2, a2⟩ := hr M st1 ds sat1.mot a1
  exact ⟨v, d, st2, by simp [e1, a1.len, hl, e2], f1.trans (.pre p2), g1.pre p2, a2, p⟩
/-- a list's beginning -/
theorem ExG.tk {f u : FE} {r : Rel τ} {φ : List τ → Prop} {ψ : Nat → Prop} (h : ExG n k Γ f (rL r) φ k1) (q : ∀ xs, φ xs → ExG n k1 Γ u rN ψ k2) : ExG n k Γ (fCut f foNone (foSome u)) (rL r) (fun ys => ∃ xs m, φ xs ∧ ψ m ∧ ys = xs.take m) k2 := fun M ρ st hn g sat => by
  obtain ⟨xs, d, st1, e1, f1, g1, a1, p1⟩ := h M ρ st hn g sat
  obtain ⟨m, d2, st2, e2, f2, g2, a2, p2⟩ := q xs p1 M ρ st1 hn g1 (sat.xt (f1.xt hn))
  rw [rN_at.mp a2] at e2
  obtain ⟨ds, b1, b2, b3⟩ := rL_at.mp ((rL r).ext (f2.xt hn) a1)
  have hi := b1.itemsR
  have gc : gCut d none (some (m : Int)) st2 = .ok (.lst (cut ds none (some (m : Int)))) st2 := by
    have nt : ∀ s, d ≠ .str s := fun s e => by rcases b1 with rfl | ⟨k, rfl, _⟩ <;> cases e
    unfold gCut
    split
    · exact absurd rfl (nt _)
    · simp only [hi]
  refine ⟨xs.take m, .lst (ds.take m), st2, ?_, f1.trans f2, g2, rL_at.mpr ⟨_, .inl rfl, ?_, b3.take m⟩, xs, m, p1, p2, rfl⟩
  · simp [e1, e2, gc, cut_take]
  · rw [List.length_take]
    exact Nat.le_trans (Nat.min_le_right _ _) b2
/-! ### things in motion -/
theorem Ex.ofC {f : FE} {C : CRel τ} (h : ExC Γ f C v) : Ex Γ f C.fz v := fun M ρ st sat => by
  obtain ⟨c, st', e, p, a⟩ := h M ρ st sat
  have nm : st'.length ∉ M := fun hm => by
    have := sat.mot _ hm
    have := p.length_le
    omega
  have p2 : st' <+: st' ++ [c] := List.prefix_append _ _
  exact ⟨_, _, e, p.trans p2, C.frz nm (by simp) (C.ext (.pre p2) a)⟩
/-- two new things side by side -/
theorem W.parOO {Φ : Post} {i j : Nat} {f g : FE} {C : CRel α} {E : CRel β} {x : α} {y : β} (h : ExC Γ f C x) (h2 : ExC Γ g E y) (k : Φ.nx ((Γ.set i none).set j none) (Ω ++ [⟨i, C, x⟩] ++ [⟨j, E, y⟩])) (hi : ∀ o ∈ Ω, o.i ≠ i := by simp) (hj : ∀ o ∈ Ω, o.i ≠ j := by simp) (hij : i ≠ j := by decide) (hl : i < Γ.length := by simp) (hl2 : j < Γ.length := by simp) : W Γ Ω (fPar i j (faCons f (faCons g faNil))) Φ := fun M ks ρ st sat => by
  obtain ⟨c, st1, e1, p1, a1⟩ := h _ ρ st sat.sat
  obtain ⟨q1, q2⟩ := (sat.pre p1).more (i := i) a1 hi (by rw [sat.sat.len]; exact hl)
  have f1 := (Fra.pre p1).trans q2
  -- the second thing, told where the first one lies
  have satG : Sat ((ks ++ [st1.length]) ++ M) Γ ρ (st1 ++ [c]) := ⟨sat.sat.len, q1.sat.mot, fun i e q => by
    obtain ⟨d, z1, z2⟩ := sat.sat.at_ i e q
    exact ⟨d, z1, e.r.ext f1.xt z2⟩⟩
  obtain ⟨c2, st2, e2, p2, a2⟩ := h2 _ ρ (st1 ++ [c]) satG
  have q1' := q1.pre p2
  obtain ⟨w1, w2⟩ := q1'.more (i := j) a2 (fun o ho => by
    rcases List.mem_append.mp ho with ho | ho
    · exact hj o ho
    · rw [List.mem_singleton.mp ho]; exact hij) (by rw [List.length_set, sat.sat.len]; exact hl2)
  have e : fPar i j (faCons f (faCons g faNil)) ρ st = .nx ((ρ.set i (some (.cel st1.length))).set j (some (.cel st2.length))) (st2 ++ [c2]) := by simp [e1, e2]
  rw [e]
  exact ⟨_, _, _, (f1.trans (.pre p2)).trans w2, w1, k⟩
/-- a drawn value and a new thing side by side -/
theorem WG.parGO {i j : Nat} {f g : FE} {r : Rel α} {φ : α → Prop} {E : CRel β} {y : β} (h : ExG n k Γ f r φ k1) (h2 : ∀ x, φ x → ExC Γ g E y) (q : ∀ x, φ x → Φ.nx k1 ((Γ.set i (some ⟨r, x⟩)).set j none) (Ω ++ [⟨j, E, y⟩])) (hi : ∀ o ∈ Ω, o.i ≠ i := by simp) (hj : ∀ o ∈ Ω, o.i ≠ j := by simp) (hij : i ≠ j := by decide) (hl2 : j < Γ.length := by simp) : WG n k Γ Ω (fPar i j (faCons f (faCons g faNil))) Φ := fun M ks ρ st hn gn sat => by
  obtain ⟨x, d, st1, e, f1, g1, a, p⟩ := h (ks ++ M) ρ st (List.mem_append_right _ hn) gn sat.sat
  have sat1 := sat.xtG f1 hn
  have sat2 := sat1.put (i := i) a hi
  obtain ⟨c2, st2, e2, p2, a2⟩ := h2 x p _ ρ st1 sat1.sat
  obtain ⟨w1, w2⟩ := (sat2.pre p2).more (i := j) a2 hj (by rw [List.length_set, sat.sat.len]; exact hl2)
  have ev : fPar i j (faCons f (faCons g faNil)) ρ st = .nx ((ρ.set i (some d)).set j (some (.cel st2.length))) (st2 ++ [c2]) := by simp [e, e2]
  rw [ev]
  have nk : n ∉ ks := fun z => sat.dis n z hn
  have hl := sat1.mlt n hn
  have f2 := ((Fra.pre p2).trans w2)
  exact ⟨_, k1, _, _, f1.toG.trans f2.toG, g1.same (f2.keep n hl nk), w1, q x p⟩
/-- found.append(left.pop(random(generator, len(left)))) -/
theorem WG.appendPop {a b gi ja jb : Nat} {r : Rel τ} {xs ys : List τ} (hg : look Γ gi = some ⟨rC, n⟩) (ha : Ω[ja]? = some ⟨a, oL r, xs⟩) (hb : Ω[jb]? = some ⟨b, oL r, ys⟩) (hab : ja ≠ jb) (h0 : ys ≠ []) (hk : k + 3 ≤ kB) (hl : xs.length < lim)
    (q : ∀ x (hx : x < ys.length), Φ.nx (k + 3) Γ ((Ω.set jb ⟨b, oL r, ys.eraseIdx x⟩).set ja ⟨a, oL r, xs ++ [ys[x]]⟩)) :
    WG n k Γ Ω (fDrop (fBm .list mAppend (fVar a) (faCons (fBm .list mPop (fVar b) (faCons (fCall 2 F__law_random (faCons (fVar gi) (faCons (fCB kLen (faCons (fVar b) faNil)) faNil))) faNil)) faNil))) Φ := fun M ks ρ st hn g sat => by
  have hp : 0 < ys.length := List.length_pos_iff.mpr h0
  have hla : ja < ks.length := by rw [sat.len]; exact (List.getElem?_eq_some_iff.mp ha).1
  have hlb : jb < ks.length := by rw [sat.len]; exact (List.getElem?_eq_some_iff.mp hb).1
  have ka := List.getElem?_eq_getElem hla
  have kb := List.getElem?_eq_getElem hlb
  obtain ⟨u1, u2, c0, u3, ds, rfl, u5, u6⟩ := sat.own ja _ _ ha ka
  obtain ⟨w1, w2, c1, w3, es, rfl, w5, w6⟩ := sat.own jb _ _ hb kb
  obtain ⟨dg, g1, g2⟩ := sat.sat.at_ gi _ hg
  have g2 : dg = .cel n := rC_at.mp g2
  subst g2
  have hlim : ys.length ≤ 1000000 := w5
  obtain ⟨x, st1, e1, h1, h2, g', f, _⟩ := sp_random g (by unfold kB at hk; omega) (b := (ys.length : Int)) (by omega) (by omega)
  obtain ⟨m, rfl⟩ := Int.eq_ofNat_of_zero_le h1
  have hm' : m < ys.length := by omega
  have sat1 := sat.xtG f hn
  have ll := w6.len
  obtain ⟨dm, d1, d2⟩ := w6.get (List.getElem?_eq_getElem hm')
  have klen : kLen [.cel ks[jb]] st = .ok (.int (ys.length : Nat)) st := by rw [kLen_cel w3, ll]
  have nkb : ks[jb] ≠ n := fun e => sat.dis _ (List.mem_of_getElem? kb) (e ▸ hn)
  have nka : ks[ja] ≠ n := fun e => sat.dis _ (List.mem_of_getElem? ka) (e ▸ hn)
  have kab : ks[ja] ≠ ks[jb] := fun e => hab (nodup_at' sat.nd ka (by rw [e]; exact kb))
  have s1b : st1[ks[jb]]? = some (.lst es) := (f.keep _ (List.getElem?_eq_some_iff.mp w3).1 nkb).trans w3
  have s1a : st1[ks[ja]]? = some (.lst ds) := (f.keep _ (List.getElem?_eq_some_iff.mp u3).1 nka).trans u3
  have pop : mPop (.cel ks[jb]) [.int (m : Int)] st1 = .ok dm (st1.set ks[jb] (.lst (es.eraseIdx m))) := by
    unfold mPop
    simp only [s1b]
    rw [if_pos ⟨by omega, by rw [ll]; exact_mod_cast hm', by omega⟩]
    simp only [Int.toNat_natCast, d1]
  have x1 := (f.toG (ks := ks)).xt hn
  obtain ⟨z1, z2⟩ := sat1.chg (C := oL r) (v := ys.eraseIdx m) (c := .lst (es.eraseIdx m)) hb kb ⟨_, rfl, Nat.le_trans (List.length_eraseIdx_le _ _) w5, (w6.imp fun d x q => r.ext x1 q).erase m⟩
  have ha' : (Ω.set jb ⟨b, oL r, ys.eraseIdx m⟩)[ja]? = some ⟨a, oL r, xs⟩ := by rw [List.getElem?_set_ne (Ne.symm hab)]; exact ha
  have s2a : (st1.set ks[jb] (.lst (es.eraseIdx m)))[ks[ja]]? = some (.lst ds) := by rw [List.getElem?_set_ne (Ne.symm kab)]; exact s1a
  have x2 := z2.xt (M := M)
  obtain ⟨y1, y2⟩ := z1.chg (C := oL r) (v := xs ++ [ys[m]]) (c := .lst (ds ++ [dm])) ha' ka ⟨_, rfl, by simp; omega, (u6.imp fun d x q => r.ext (x1.trans x2) q).app (.cons (r.ext (x1.trans x2) d2) .nil)⟩
  have ap : mAppend (.cel ks[ja]) [dm] (st1.set ks[jb] (.lst (es.eraseIdx m))) = .ok .non ((st1.set ks[jb] (.lst (es.eraseIdx m))).set ks[ja] (.lst (ds ++ [dm]))) := by
    unfold mAppend
    simp only [s2a]
    rw [if_pos (by rw [u6.len]; exact hl)]
  have tya : tyIs .list st (.cel ks[ja]) = true := by
    unfold tyIs
    simp only [itemsR_cel u3]
    rfl
  have tyb : tyIs .list st (.cel ks[jb]) = true := by
    unfold tyIs
    simp only [itemsR_cel w3]
    rfl
  have ev : fDrop (fBm .list mAppend (fVar a) (faCons (fBm .list mPop (fVar b) (faCons (fCall 2 F__law_random (faCons (fVar gi) (faCons (fCB kLen (faCons (fVar b) faNil)) faNil))) faNil)) faNil)) ρ st = .nx ρ ((st1.set ks[jb] (.lst (es.eraseIdx m))).set ks[ja] (.lst (ds ++ [dm]))) := by
    simp [u1, w1, g1, tya, tyb, klen, e1, pop, ap]
  rw [ev]
  have hln := sat1.mlt n hn
  have gg : Gen ((st1.set ks[jb] (.lst (es.eraseIdx m))).set ks[ja] (.lst (ds ++ [dm]))) n ((k + 3 : Nat) : Int) := (g'.mono (by omega)).same (by rw [List.getElem?_set_ne nka, List.getElem?_set_ne nkb])
  exact ⟨ks, k + 3, _, _, f.toG.trans (z2.trans y2).toG, gg, y1, q m hm'⟩
/-! ### loops that draw -/
theorem WG.forG {σ : Type} {src : FI} {h : FG} {b : FS} {r : Rel α} {xs : List α} {is : List Nat} (S : σ → Cn × List Own) (P : Nat → σ → Prop) (a0 : σ) (c : Nat) (hs : ExI Γ src r xs)
    (h0 : Sub (S a0).1 Γ ∧ (S a0).2 = Ω) (p0 : P 0 a0) (hB : ∀ j (hj : j < xs.length) a k', P j a → k' + c ≤ k + c * xs.length → ∃ Γ', BdI h (S a).1 r xs[j] Γ' is ∧ (∀ o ∈ (S a).2, o.i ∉ is) ∧
      WG n k' Γ' (S a).2 b { nx := fun k2 Γ2 Ω2 => k2 ≤ k' + c ∧ ∃ a', P (j + 1) a' ∧ Sub (S a').1 Γ2 ∧ (S a').2 = Ω2, ct := fun k2 Γ2 Ω2 => k2 ≤ k' + c ∧ ∃ a', P (j + 1) a' ∧ Sub (S a').1 Γ2 ∧ (S a').2 = Ω2, bk := Φ.bk, rt := Φ.rt })
    (hk : ∀ k2 Γ2 Ω2, ¬ Φ.bk k2 Γ2 Ω2) (hE : ∀ a, P xs.length a → Φ.nx (k + c * xs.length) (S a).1 (S a).2) : WG n k Γ Ω (fFor src h b) Φ := fun M ks ρ st hn g sat => by
  obtain ⟨z, st1, e1, p1, a1⟩ := hs _ ρ st sat.sat
  rw [fFor_N e1]
  have sat1 := sat.pre p1
  have key : ∀ (m i k' : Nat) (a : σ) (ks' : List Nat) (ρ' : En) (st' : Sto), SatS M ks' (S a).1 (S a).2 ρ' st' → SrcAt (ks' ++ M) st' z r xs → P i a → i ≤ xs.length → xs.length - i < m → k' ≤ k + c * i → Gen st' n (k' : Int) → OcG n M ks' st' Φ (loopN z h b m i ρ' st') := by
    intro m
    induction m with
    | zero => intro i k' a ks' ρ' st' _ _ _ _ hm; omega
    | succ m ih =>
      intro i k' a ks' ρ' st' sat' a' hI hi hm hkk g'
      have h1 := (a'.2 _ st' .refl).2 i
      rw [loopN]
      by_cases hl : i < xs.length
      · rw [List.getElem?_eq_getElem hl] at h1
        obtain ⟨d, e1, d1⟩ := h1
        have hb : k + c * i + c ≤ k + c * xs.length := by
          have : c * (i + 1) ≤ c * xs.length := Nat.mul_le_mul_left c hl
          rw [Nat.mul_succ] at this
          omega
        obtain ⟨Γ', hb, ho, w⟩ := hB i hl a k' hI (by omega)
        obtain ⟨ρ2, e2, q2, n2⟩ := hb _ ρ' st' d sat'.sat d1
        have sat2 : SatS M ks' Γ' (S a).2 ρ2 st' := by
          refine ⟨q2, sat'.len, sat'.nd, sat'.dis, fun j o k z1 z2 => ?_⟩
          obtain ⟨y1, y2, y3⟩ := sat'.own j o k z1 z2
          have := n2 o.i (ho o (List.mem_of_getElem? z1))
          exact ⟨this.1.trans y1, this.2.trans y2, y3⟩
        have oc := w M ks' ρ2 st' hn g' sat2
        rw [e1]
        show OcG n M ks' st' Φ ((h d ρ' st').toO ρ' _)
        rw [e2]
        show OcG n M ks' st' Φ (stepO (b ρ2 st') _)
        have hci : k + c * i + c = k + c * (i + 1) := by rw [Nat.mul_succ]; omega
        revert oc
        cases b ρ2 st' with
        | no => intro oc; exact oc
        | exc c x ρ s => intro oc; exact oc
        | nx ρ3 st3 =>
          intro oc
          obtain ⟨ks3, k3, Γ3, Ω3, f3, g3, sat3, hk3, a3, i3, s3, rfl⟩ := oc
          exact (ih (i + 1) k3 a3 ks3 ρ3 st3 (sat3.sub s3) (a'.ext (f3.xt hn)) i3 hl (by omega) (by omega) g3).later f3
        | ct ρ3 st3 =>
          intro oc
          obtain ⟨ks3, k3, Γ3, Ω3, f3, g3, sat3, hk3, a3, i3, s3, rfl⟩ := oc
          exact (ih (i + 1) k3 a3 ks3 ρ3 st3 (sat3.sub s3) (a'.ext (f3.xt hn)) i3 hl (by omega) (by omega) g3).later f3
        | bk ρ3 st3 =>
          intro oc
          obtain ⟨_, _, _, _, _, _, _, q⟩ := oc
          exact absurd q (hk _ _ _)
        | rt d3 st3 => intro oc; exact oc
      · rw [List.getElem?_eq_none (by omega)] at h1
        rw [h1]
        have : i = xs.length := by omega
        subst this
        exact ⟨ks', k + c * xs.length, _, _, Fr.refl.toG, g'.mono (by omega), sat', hE a hI⟩
  have sat2 : SatS M ks (S a0).1 (S a0).2 ρ st1 := by rw [h0.2]; exact sat1.sub h0.1
  exact (key _ 0 k a0 ks ρ st1 sat2 a1 p0 (Nat.zero_le _) (by have := (a1.2 _ st1 .refl).1; omega) (by omega) (g.pre p1)).later (Fr.pre p1).toG
theorem WG.whileG {σ : Type} {m0 : Nat} {t : FT} {b : FS} (S : σ → Cn × List Own) (P : σ → Prop) (μ : σ → Nat) (cd : σ → Bool) (a0 : σ) (c : Nat) (h0 : Sub (S a0).1 Γ ∧ (S a0).2 = Ω) (p0 : P a0) (hn0 : μ a0 < m0) (hμ : ∀ a, P a → cd a = true → 0 < μ a)
    (ht : ∀ a, P a → ExT (Froz (S a).1 (S a).2) t (cd a)) (hB : ∀ a k', P a → cd a = true → k' + c ≤ k + c * μ a0 → WG n k' (S a).1 (S a).2 b { nx := fun k2 Γ2 Ω2 => k2 ≤ k' + c ∧ ∃ a', P a' ∧ μ a' < μ a ∧ Sub (S a').1 Γ2 ∧ (S a').2 = Ω2, ct := fun _ _ _ => False, bk := fun _ _ _ => False, rt := Φ.rt })
    (hE : ∀ a, P a → cd a = false → Φ.nx (k + c * μ a0) (S a).1 (S a).2) : WG n k Γ Ω (fWhile m0 t b) Φ := fun M ks ρ st hn g sat => by
  have key : ∀ (m k' : Nat) (a : σ) (ks' : List Nat) (ρ' : En) (st' : Sto), SatS M ks' (S a).1 (S a).2 ρ' st' → P a → μ a < m → k' + c * μ a ≤ k + c * μ a0 → Gen st' n (k' : Int) → OcG n M ks' st' Φ (whileF t b m ρ' st') := by
    intro m
    induction m with
    | zero => intro k' a ks' ρ' st' _ _ hm; omega
    | succ m ih =>
      intro k' a ks' ρ' st' sat' pa hm hk g'
      obtain ⟨st2, e2, p2⟩ := ht a pa M ρ' st' sat'.froz
      rw [whileF, e2]
      show OcG n M ks' st' Φ (if cd a = true then _ else _)
      by_cases hc : cd a = true
      · rw [if_pos hc]
        have hz := hμ a pa hc
        have key2 : k' + c ≤ k + c * μ a0 := by
          have : c * 1 ≤ c * μ a := Nat.mul_le_mul_left c hz
          omega
        have oc := hB a k' pa hc key2 M ks' ρ' st2 hn (g'.pre p2) (sat'.pre p2)
        revert oc
        cases b ρ' st2 with
        | no => intro oc; exact oc
        | exc c x ρ s => intro oc; exact oc
        | nx ρ3 st3 =>
          intro oc
          obtain ⟨ks3, k3, Γ3, Ω3, f3, g3, sat3, hk3, a', pa', hlt, s3, rfl⟩ := oc
          have : c * (μ a' + 1) ≤ c * μ a := Nat.mul_le_mul_left c hlt
          rw [Nat.mul_succ] at this
          exact (ih k3 a' ks3 ρ3 st3 (sat3.sub s3) pa' (by omega) (by omega) g3).later ((Fra.pre p2).toG.trans f3)
        | ct ρ3 st3 => intro oc; obtain ⟨_, _, _, _, _, _, _, q⟩ := oc; exact q.elim
        | bk ρ3 st3 => intro oc; obtain ⟨_, _, _, _, _, _, _, q⟩ := oc; exact q.elim
        | rt d3 st3 => intro oc; exact OcG.later (Φ := Φ) (Fra.pre p2).toG oc
      · rw [if_neg hc]
        exact ⟨ks', k + c * μ a0, _, _, (Fra.pre p2).toG, (g'.pre p2).mono (by omega), sat'.pre p2, hE a pa (by simpa using hc)⟩
  have sat2 : SatS M ks (S a0).1 (S a0).2 ρ st := by rw [h0.2]; exact sat.sub h0.1
  exact key m0 k a0 ks ρ st sat2 p0 hn0 (Nat.le_refl _) g
/-! ### dict displays -/
def ExP {α β : Type} (Γ : Cn) (f : FP) (r : Rel α) (s : Rel β) (es : List (α × β)) : Prop := ∀ M ρ st, Sat M Γ ρ st → ∃ ds st', f ρ st = .ok ds st' ∧ st <+: st' ∧ A2 (EnAt r s M st') ds es
theorem ExP.nil {r : Rel α} {s : Rel β} : ExP Γ fpNil r s [] := fun M ρ st q => ⟨[], st, rfl, List.prefix_rfl, .nil⟩
theorem ExP.cons {f g : FE} {fp : FP} {r : Rel α} {s : Rel β} {x : α} {y : β} {es : List (α × β)} (h : Ex Γ f r x) (h2 : Ex Γ g s y) (h3 : ExP Γ fp r s es) : ExP Γ (fpCons f g fp) r s ((x, y) :: es) := fun M ρ st q => by
  obtain ⟨d, st1, e1, p1, a1⟩ := h M ρ st q
  obtain ⟨d2, st2, e2, p2, a2⟩ := h2 M ρ st1 (q.pre p1)
  obtain ⟨ds, st3, e3, p3, a3⟩ := h3 M ρ st2 (q.pre (p1.trans p2))
  exact ⟨(d, d2) :: ds, st3, by unfold fpCons; simp [e1, e2, e3], p1.trans (p2.trans p3), .cons ⟨r.pre (p2.trans p3) a1, s.pre p3 a2⟩ a3⟩
def dputs [DecidableEq κ] (es0 es : List (κ × β)) : List (κ × β) := es.foldl (fun a e => dput a e.1 e.2) es0
theorem dputs_len [DecidableEq κ] : ∀ {es es0 : List (κ × β)}, (dputs es0 es).length ≤ es0.length + es.length
  | [], es0 => by show es0.length ≤ es0.length + 0; omega
  | e :: es, es0 => by
    have h := dputs_len (es := es) (es0 := dput es0 e.1 e.2)
    have h2 := dput_len (xs := es0) (k := e.1) (x := e.2)
    show (dputs (dput es0 e.1 e.2) es).length ≤ es0.length + (es.length + 1)
    omega
theorem puts_at [DecidableEq κ] {r : Rel κ} [KeyRel r] {s : Rel β} : ∀ {ds : List (D × D)} {es : List (κ × β)} {ds0 : List (D × D)} {es0 : List (κ × β)}, A2 (EnAt r s M st) ds es → A2 (EnAt r s M st) ds0 es0 → A2 (EnAt r s M st) (mergeD ds0 ds) (dputs es0 es)
  | _, _, _, _, .nil, h => h
  | (k, v) :: ds, e :: es, _, _, .cons a h, q => by
    show A2 _ (mergeD (putL _ k v) ds) (dputs (dput _ e.1 e.2) es)
    exact puts_at h (put_at q a.1 a.2)
theorem ExC.disp [DecidableEq κ] {r : Rel κ} [KeyRel r] {s : Rel β} {fp : FP} {es : List (κ × β)} (h : ExP Γ fp r s es) (hl : es.length ≤ 15 := by decide) : ExC Γ (fDisp fp) (oC r s) (dputs [] es) := fun M ρ st q => by
  obtain ⟨ds, st1, e1, p1, a1⟩ := h M ρ st q
  have hk : (ds.all fun e => isKey e.1) = true := by
    have : ∀ {ds : List (D × D)} {es : List (κ × β)}, A2 (EnAt r s M st1) ds es → (ds.all fun e => isKey e.1) = true := fun h => by
      induction h with
      | nil => rfl
      | cons a h ih => rw [List.all_cons, ih, Bool.and_true, KeyRel.to a.1]; exact KeyRel.key _
    exact this a1
  refine ⟨.dct (mergeD [] ds), st1, ?_, p1, _, rfl, ?_, puts_at a1 .nil⟩
  · unfold fDisp
    rw [e1]
    show (if (ds.all fun e => isKey e.1) = true ∧ ds.length ≤ 15 then _ else _) = _
    rw [if_pos ⟨hk, by rw [a1.len]; exact hl⟩]
  · have := dputs_len (es := es) (es0 := [])
    unfold lim
    simp at this
    omega
end
end FL

/-! FVj: exactly alike tuples; marks on lists of anything that holds no list -/
namespace FL
open PySem PySem.Spec PyProof.Rows L2
section
variable {M ks : List Nat} {Γ Γ' : Cn} {Ω : List Own} {ρ : En} {st st' : Sto} {τ α β γ κ : Type} {r : Rel τ} {v : τ} {d : D} {i j n : Nat} {Φ : Post}
theorem ex_tup {ts ds : List D} (hl : ts.length = ds.length) (hm : ts.length ≤ lim) (hT : ∀ (i : Nat) x y, ts[i]? = some x → ds[i]? = some y → F__law_exact n [x, y] st = .ok (.bl true) st) :
    F__law_exact (n + 1) [.tup ts, .tup ds] st = .ok (.bl true) st := by
  have r := runL_zip (a := .fix ts) (b := .fix ds) (ds := ts) (es := ds) (st := st) (T := turnL (hTup 2 (hCons (hName 2) (hCons (hName 3) hNil))) fYes (fCall 2 (F__law_exact n) (faCons (fVar 2) (faCons (fVar 3) faNil))) [2, 3] [some (.tup ts), some (.tup ds), none, none]) (v := .bl true) (fun _ => rfl) (fun _ => rfl) hl (fun i x y hx hy => by
    simp [ev_turn, hT i x y hx hy])
  have en : endL false (List.replicate ts.length (.bl true)) st = .ok (.lst (List.replicate ts.length (.bl true))) st := by
    unfold endL
    rw [if_pos (by simpa using hm)]
    rfl
  have t1 : tyOf st (.tup ts) = some .tuple := rfl
  have t2 : tyOf st (.tup ds) = some .tuple := rfl
  have l1 : kLen [.tup ts] st = .ok (.int (ts.length : Nat)) st := rfl
  have l2 : kLen [.tup ds] st = .ok (.int (ds.length : Nat)) st := rfl
  have z : zipS st [.tup ts, .tup ds] = some (.zip (.fix ts) (.fix ds)) := rfl
  unfold F__law_exact fb__law_exact
  simp [kIsi_of t1, kIsi_of t2, isTy, l1, l2, hl, z]
  rw [hl] at r en
  simp [r, en, gNotIn_trues]
instance {r : Rel α} {s : Rel β} [ExR r] [ExR s] : ExR (rP r s) where
  dep := max (ExR.dep r) (ExR.dep s) + 1
  ex {M st d e v n} a b := by
    obtain ⟨x, y, rfl, a1, a2⟩ := rP_at.mp a
    obtain ⟨x', y', rfl, b1, b2⟩ := rP_at.mp b
    refine ex_tup (n := n + max (ExR.dep r) (ExR.dep s) + 1) rfl (by show 2 ≤ lim; decide) fun i p q hp hq => ?_
    match i with
    | 0 =>
      cases hp; cases hq
      have := ExR.ex (n := n + max (ExR.dep r) (ExR.dep s) - ExR.dep r) a1 b1
      rwa [show n + max (ExR.dep r) (ExR.dep s) - ExR.dep r + ExR.dep r = n + max (ExR.dep r) (ExR.dep s) from by omega] at this
    | 1 =>
      cases hp; cases hq
      have := ExR.ex (n := n + max (ExR.dep r) (ExR.dep s) - ExR.dep s) a2 b2
      rwa [show n + max (ExR.dep r) (ExR.dep s) - ExR.dep s + ExR.dep s = n + max (ExR.dep r) (ExR.dep s) from by omega] at this
    | i + 2 => simp at hp
/-! ### marks -/
theorem marked_int {i : Int} : F__law_marked (n + 1) [.int i] st = .ok (.bl true) st := by
  have h : tyOf st (.int i) = some .int := rfl
  unfold F__law_marked fb__law_marked
  simp [kIsi_of h, kIsi_of2 h, isTy, gIs, isD, isNone, lim]
theorem marked_bl {i : Bool} : F__law_marked (n + 1) [.bl i] st = .ok (.bl true) st := by
  have h : tyOf st (.bl i) = some .bool := rfl
  unfold F__law_marked fb__law_marked
  simp [kIsi_of h, kIsi_of2 h, isTy, gIs, isD, isNone, lim]
theorem marked_non : F__law_marked (n + 1) [.non] st = .ok (.bl true) st := by
  have h : tyOf st .non = some .non := rfl
  unfold F__law_marked fb__law_marked
  simp [kIsi_of h, kIsi_of2 h, isTy, gIs, isD, isNone, lim]
theorem a2_self {R : α → α → Prop} : ∀ {ds : List α}, (∀ d ∈ ds, R d d) → A2 R ds ds
  | [], _ => .nil
  | d :: ds, h => .cons (h d List.mem_cons_self) (a2_self fun x hx => h x (List.mem_cons_of_mem _ hx))
theorem runL_fix {ds : List D} {T : D → Sto → R (Option D)} {v : D} (hT : ∀ x ∈ ds, T x st = .ok (some v) st) : lcL T ds st = .ok (List.replicate ds.length v) st := by
  induction ds with
  | nil => rfl
  | cons x ds ih =>
    rw [lcL, hT x List.mem_cons_self, R.bind_ok, ih fun y hy => hT y (List.mem_cons_of_mem _ hy)]
    rfl
theorem marked_tup {ds : List D} (hl : ds.length ≤ lim) (h : ∀ x ∈ ds, F__law_marked (n + 1) [x] st = .ok (.bl true) st) : F__law_marked (n + 2) [.tup ds] st = .ok (.bl true) st := by
  have r := runL_fix (st := st) (T := turnL (hName 2) fYes (fCall 1 (F__law_marked (n + 1)) (faCons (fVar 2) faNil)) [2] [some (.tup ds), none, none]) (v := .bl true) (ds := ds) (fun x hx => by simp [ev_turn, h x hx])
  have en : endL false (List.replicate ds.length (.bl true)) st = .ok (.lst (List.replicate ds.length (.bl true))) st := by
    unfold endL
    rw [if_pos (by simpa using hl)]
    rfl
  have t1 : tyOf st (.tup ds) = some .tuple := rfl
  unfold F__law_marked fb__law_marked
  simp [kIsi_of t1, isTy, r, en, gNotIn_trues]
/-- values that hold no list -/
class MkR {τ : Type} (r : Rel τ) where
  dep : Nat
  ok : τ → Prop
  mkd : ∀ {M : List Nat} {st : Sto} {d : D} {v : τ} {n : Nat}, r.at_ M st d v → F__law_marked (n + dep + 1) [d] st = .ok (.bl true) st
  ne : ∀ {M : List Nat} {st : Sto} {d : D} {v : τ}, r.at_ M st d v → ok v → gEq d (.str [109, 97, 114, 107, 101, 100]) st = .ok (.bl false) st
theorem gEq_mk {p : PyData} (h : toPy st 40 d = some p) (hp : PyData.eqv p (.str (sv [109, 97, 114, 107, 101, 100])) = false) : gEq d (.str [109, 97, 114, 107, 101, 100]) st = .ok (.bl false) st := by
  unfold gEq gEqN
  rw [h, toPy_str (show okT [109, 97, 114, 107, 101, 100] from rfl)]
  simp [hp]
instance : MkR rN := ⟨0, fun _ => True, fun h => by rw [rN_at.mp h]; exact marked_int, fun h _ => by rw [rN_at.mp h]; exact gEq_mk toPy_int rfl⟩
instance : MkR rI := ⟨0, fun _ => True, fun h => by rw [rI_at.mp h]; exact marked_int, fun h _ => by rw [rI_at.mp h]; exact gEq_mk toPy_int rfl⟩
instance : MkR rB := ⟨0, fun _ => True, fun h => by rw [rB_at.mp h]; exact marked_bl, fun h _ => by rw [rB_at.mp h]; exact gEq_mk toPy_bl rfl⟩
instance : MkR rS := ⟨0, fun v => v ≠ mk', fun h => by rw [(rS_at.mp h).1]; exact marked_str, fun h k => by
  obtain ⟨rfl, h1, _⟩ := rS_at.mp h
  rw [gEq_str h1 (show okT [109, 97, 114, 107, 101, 100] from rfl), decide_eq_false (show ¬ _ = [109, 97, 114, 107, 101, 100] from k)]⟩
instance {r : Rel α} {s : Rel β} [MkR r] [MkR s] [RelPy r] [RelPy s] : MkR (rP r s) where
  dep := max (MkR.dep r) (MkR.dep s) + 1
  ok _ := RelPy.dep (rP r s) ≤ 40
  mkd {M st d v n} h := by
    obtain ⟨x, y, rfl, a1, a2⟩ := rP_at.mp h
    refine marked_tup (n := n + max (MkR.dep r) (MkR.dep s)) (by show 2 ≤ lim; decide) fun z hz => ?_
    rcases List.mem_cons.mp hz with rfl | hz
    · have := MkR.mkd (n := n + max (MkR.dep r) (MkR.dep s) - MkR.dep r) a1
      rwa [show n + max (MkR.dep r) (MkR.dep s) - MkR.dep r + MkR.dep r = n + max (MkR.dep r) (MkR.dep s) from by omega] at this
    · rw [List.mem_singleton.mp hz]
      have := MkR.mkd (n := n + max (MkR.dep r) (MkR.dep s) - MkR.dep s) a2
      rwa [show n + max (MkR.dep r) (MkR.dep s) - MkR.dep s + MkR.dep s = n + max (MkR.dep r) (MkR.dep s) from by omega] at this
  ne {M st d v} h k := by
    have e := RelPy.to (n := 40 - RelPy.dep (rP r s)) h
    rw [show 40 - RelPy.dep (rP r s) + RelPy.dep (rP r s) = 40 from by omega] at e
    exact gEq_mk e rfl
theorem gNe_nil' {r : Rel τ} [RelPy r] {k : Nat} {xs : List τ} (hd : RelPy.dep r ≤ 39) (a : (rL r).at_ M st (.cel k) xs) : gNe (.cel k) (.lst []) st = .ok (.bl (!xs.isEmpty)) st := by
  have := eqNil_at hd a true
  unfold gNe
  rw [this]
  simp
theorem marked_L {r : Rel τ} [RelPy r] [MkR r] {k : Nat} {ds : List D} {xs : List τ} (hd : RelPy.dep r ≤ 39) (h : st[k]? = some (.lst ds)) (hk : k ∉ M) (a : A2 (r.at_ M st) ds xs) (ok : ∀ x ∈ xs, MkR.ok r x) (hl : xs.length < lim) :
    F__law_marked (n + MkR.dep r + 2) [.cel k] st = .ok (.bl true) (st.set k (.lst (ds ++ [.str mk']))) := by
  have L : isL st (.cel k) ds := .inr ⟨k, rfl, h⟩
  have ll := a.len
  have ne := gNe_nil' hd (rL_at.mpr ⟨ds, .inr ⟨k, rfl, hk, h⟩, Nat.le_of_lt hl, a⟩)
  have r1 := runL_cel (T := turnL (hName 2) fYes (fCall 1 (F__law_marked (n + MkR.dep r + 1)) (faCons (fVar 2) faNil)) [2] [some (.cel k), none, none]) (v := .bl true) h (fun x hx => by
    obtain ⟨v, _, q⟩ := a.mem x hx
    simp [ev_turn, MkR.mkd (n := n) q])
  have en : endL false (List.replicate ds.length (.bl true)) st = .ok (.lst (List.replicate ds.length (.bl true))) st := by
    unfold endL
    rw [if_pos (by simp; omega)]
    rfl
  have ap : ∀ st, st[k]? = some (.lst ds) → mAppend (.cel k) [.str [109, 97, 114, 107, 101, 100]] st = .ok .non (st.set k (.lst (ds ++ [.str mk']))) := fun st h => by
    unfold mAppend
    simp only [h]
    rw [if_pos (by omega)]
    rfl
  have ty : tyIs .list st (.cel k) = true := by
    unfold tyIs
    simp only [itemsR_cel h]
    rfl
  have tr : ∀ st, gNotIn (.bl false) (.lst (List.replicate ds.length (.bl true))) st = .ok (.bl true) st := fun st => gNotIn_trues
  have last : ds ≠ [] → ∃ d, gIx (.cel k) (.int (-1)) st = .ok d st ∧ gEq d (.str [109, 97, 114, 107, 101, 100]) st = .ok (.bl false) st := fun hs => by
    have hx : xs ≠ [] := fun e => hs (by rw [e] at ll; exact List.length_eq_zero_iff.mp ll)
    obtain ⟨d, d1, d2⟩ := a.get (i := xs.length - 1) (List.getElem?_eq_getElem (by have := List.length_pos_iff.mpr hx; omega))
    refine ⟨d, L.ix ?_, MkR.ne d2 (ok _ (List.getElem_mem _))⟩
    rw [atI_last, List.getLast?_eq_getElem?, ll]
    exact d1
  unfold F__law_marked fb__law_marked
  generalize hA : Co.lst (ds ++ [D.str mk']) = A at *
  by_cases hs : ds = []
  · have hx : xs = [] := by rw [hs] at ll; exact List.length_eq_zero_iff.mp ll.symm
    subst hx
    simp [kIsi_of L.ty, isTy, ne, h, r1, en, ty, ap st h, tr]
  · obtain ⟨s, l1, l2⟩ := last hs
    have hx : xs.isEmpty = false := by
      cases xs with
      | nil => exact absurd (List.length_eq_zero_iff.mp ll) hs
      | cons => rfl
    rw [hx] at ne
    simp [kIsi_of L.ty, isTy, ne, h, r1, en, ty, ap st h, tr, l1, l2]
/-- what is told is marked, then another thing is asked: told is not used any more -/
theorem W.markOr {k m : Nat} {r : Rel τ} [RelPy r] [MkR r] {xs : List τ} {A C : FT} {s s2 : FS} (hd : RelPy.dep r ≤ 39) (hA : ExT (Froz Γ (Ω ++ [⟨i, oL r, xs⟩])) A true) (ok : ∀ x ∈ xs, MkR.ok r x) (hl : xs.length < lim) (hm : MkR.dep r + 2 ≤ m) (hC : ExT (Froz Γ Ω) C true) (h2 : W Γ Ω s2 Φ) :
    W Γ (Ω ++ [⟨i, oL r, xs⟩]) (fIf (fOrT (fNotT A) (fOrT (fNotT (fTest (fCall 1 (F__law_marked m) (faCons (fVar i) faNil)))) (fNotT C))) s s2) Φ := fun M ks ρ st sat => by
  obtain ⟨st1, e1, p1⟩ := hA M ρ st sat.froz
  have sat1 := sat.pre p1
  have hl1 : ks.length = Ω.length + 1 := by rw [sat.len]; simp
  obtain ⟨ks, k, rfl⟩ : ∃ a b, ks = a ++ [b] := by
    refine ⟨ks.dropLast, ks.getLast (by intro e; rw [e] at hl1; simp at hl1), ?_⟩
    rw [List.dropLast_concat_getLast]
  have hl1 : ks.length = Ω.length := by simpa using hl1
  obtain ⟨q1, q2, c, q3, ds, rfl, q4, q5⟩ := sat1.own Ω.length ⟨i, oL r, xs⟩ k (by simp) (by rw [← hl1]; simp)
  have nk : k ∉ ks ++ M := fun z => by
    rcases List.mem_append.mp z with z | z
    · have := sat.nd
      rw [List.nodup_append] at this
      exact this.2.2 k z k (by simp) rfl
    · exact sat.dis k (by simp) z
  have sub : ∀ i, i ∈ ks ++ M → i < st1.length → i ∈ (ks ++ [k]) ++ M := fun i hi _ => by
    rcases List.mem_append.mp hi with z | z
    · exact List.mem_append_left _ (List.mem_append_left _ z)
    · exact List.mem_append_right _ z
  obtain ⟨n, rfl⟩ : ∃ n, m = n + MkR.dep r + 2 := ⟨m - MkR.dep r - 2, by omega⟩
  have mk := marked_L (st := st1) (n := n) (M := ks ++ M) hd q3 nk (q5.imp fun d x q => r.ext (.sub sub) q) ok hl
  obtain ⟨z1, z2⟩ := sat1.chg (C := oL rX) (v := ds ++ [.str mk']) (c := .lst (ds ++ [.str mk'])) (j := Ω.length) (k := k) (o := ⟨i, oL r, xs⟩) (by simp) (by rw [← hl1]; simp) ⟨_, rfl, by have q6 : ds.length = xs.length := q5.len; rw [List.length_append, q6]; exact hl, a2_self fun d _ => rX_at.mpr rfl⟩
  have sat2 : SatS M ks Γ Ω ρ (st1.set k (.lst (ds ++ [.str mk']))) := by
    have base : Sat (ks ++ M) Γ ρ (st1.set k (.lst (ds ++ [.str mk']))) := ⟨z1.sat.len, fun m hm => z1.sat.mot m (by
      rcases List.mem_append.mp hm with z | z
      · exact List.mem_append_left _ (List.mem_append_left _ z)
      · exact List.mem_append_right _ z), fun i e q => by
      obtain ⟨d, h1, h2⟩ := z1.sat.at_ i e q
      refine ⟨d, h1, e.r.sub (fun i hi _ => ?_) h2⟩
      rcases List.mem_append.mp hi with z | z
      · exact List.mem_append_left _ (List.mem_append_left _ z)
      · exact List.mem_append_right _ z⟩
    refine ⟨base, hl1, (List.nodup_append.mp sat.nd).1, fun x hx => sat.dis x (List.mem_append_left _ hx), fun j o' k' h1 h2 => ?_⟩
    have hj := (List.getElem?_eq_some_iff.mp h1).1
    have h1' : ((Ω ++ [(⟨i, oL r, xs⟩ : Own)]).set Ω.length (⟨i, oL rX, ds ++ [D.str mk']⟩ : Own))[j]? = some o' := by
      rw [List.getElem?_set_ne (by omega), List.getElem?_append_left hj]; exact h1
    obtain ⟨w1, w2, c', w3, w4⟩ := z1.own j o' k' h1' (by rw [List.getElem?_append_left (by rw [hl1]; exact hj)]; exact h2)
    refine ⟨w1, w2, c', w3, o'.c.ext (.sub fun i hi _ => ?_) w4⟩
    rcases List.mem_append.mp hi with z | z
    · exact List.mem_append_left _ (List.mem_append_left _ z)
    · exact List.mem_append_right _ z
  obtain ⟨st3, e3, p3⟩ := hC M ρ _ sat2.froz
  have ev : fIf (fOrT (fNotT A) (fOrT (fNotT (fTest (fCall 1 (F__law_marked (n + MkR.dep r + 2)) (faCons (fVar i) faNil)))) (fNotT C))) s s2 ρ st = s2 ρ st3 := by
    simp [e1, q1, mk, e3]
  rw [ev]
  have fr : Fra (ks ++ [k]) st ks st3 := ⟨Nat.le_trans p1.length_le (Nat.le_trans (by simp) p3.length_le), fun x hx hn => by
    have hxk : x ≠ k := fun e => hn (by rw [e]; simp)
    have hx1 := Nat.lt_of_lt_of_le hx p1.length_le
    have b1 : st3[x]? = (st1.set k (.lst (ds ++ [.str mk'])))[x]? := by
      obtain ⟨t, rfl⟩ := p3
      exact List.getElem?_append_left (by simpa using hx1)
    rw [b1, List.getElem?_set_ne (Ne.symm hxk)]
    obtain ⟨t, rfl⟩ := p1
    exact List.getElem?_append_left hx, fun x hx => .inl (List.mem_append_left _ hx)⟩
  exact (h2 M ks ρ st3 (sat2.pre p3)).later fr
/-! ### a def whose answer is a new cell -/
def WC {τ : Type} (Γ : Cn) (Ω : List Own) (s : FS) (C : CRel τ) (v : τ) : Prop := ∀ M ks ρ st, SatS M ks Γ Ω ρ st → ∃ ks' st' c, s ρ st = .rt (.cel st'.length) (st' ++ [c]) ∧ Fra ks st ks' st' ∧ C.co M st' c v
theorem WC.seq {s s2 : FS} {C : CRel τ} (h : W Γ Ω s { nx := fun Γ' Ω' => WC Γ' Ω' s2 C v, rt := fun _ _ => False, bk := fun _ _ => False, ct := fun _ _ => False }) : WC Γ Ω (fSeq s s2) C v := fun M ks ρ st sat => by
  have h := h M ks ρ st sat
  unfold fSeq
  revert h
  cases s ρ st with
  | no => intro h; exact h.elim
  | exc c x ρ s => intro h; exact h.elim
  | nx ρ1 st1 =>
    intro h
    obtain ⟨ks1, Γ1, Ω1, f1, sat1, w⟩ := h
    obtain ⟨ks', st', c, e, f, a⟩ := w M ks1 ρ1 st1 sat1
    exact ⟨ks', st', c, e, f1.trans f, a⟩
  | bk ρ1 st1 => intro h; obtain ⟨_, _, _, _, _, q⟩ := h; exact q.elim
  | ct ρ1 st1 => intro h; obtain ⟨_, _, _, _, _, q⟩ := h; exact q.elim
  | rt d st1 => intro h; obtain ⟨_, _, _, _, _, _, q⟩ := h; exact q.elim
theorem WC.ret {f : FE} {C : CRel τ} (h : ExC (Froz Γ Ω) f C v) : WC Γ Ω (fRet f) C v := fun M ks ρ st sat => by
  obtain ⟨c, st', e, p, a⟩ := h M ρ st sat.froz
  refine ⟨ks, st', c, ?_, .pre p, a⟩
  unfold fRet
  rw [e]
  rfl
theorem RnC.of {N : List Str} {np : Nat} {fb : FS} {es : List Ent} {C : CRel τ} (h : WC (es.map some ++ List.replicate (N.length - np) none) [] fb C v) (hl : es.length = np := by rfl) : RnC (genF0 N np fb) es C v := fun M st ds hm sl => by
  have hl := sl.len.trans hl
  have sat : SatS M [] (es.map some ++ List.replicate (N.length - np) none) [] (startE N ds) st := ⟨⟨by rw [List.length_append, List.length_map, ← sl.len, List.length_replicate]; simp [startE, hl], hm, fun i e q => by
    obtain ⟨d, h1, h2⟩ := sl_map sl i _ (N.length - ds.length) e q
    exact ⟨d, h1, h2⟩⟩, rfl, List.nodup_nil, fun k hk => by simp at hk, fun j o k h1 h2 => by simp at h1⟩
  obtain ⟨ks', st', c, e, f, a⟩ := h M [] _ st sat
  refine ⟨c, st', ?_, ?_, a⟩
  · rw [ev_gen0, ev_gen, if_pos hl, e]
    rfl
  · rw [List.prefix_iff_eq_take]
    refine List.ext_getElem? fun i => ?_
    by_cases hi : i < st.length
    · rw [List.getElem?_take, if_pos hi]
      exact (f.keep i hi (by simp)).symm
    · rw [List.getElem?_eq_none (by omega), List.getElem?_eq_none (by rw [List.length_take]; omega)]
theorem kSortX_is {ds : List D} {d : D} (h : kSortX ds st = .ok d st') : st' = st := by
  unfold kSortX at h
  split at h
  · rename_i d2 st2 e0
    cases h
    unfold kSorted at e0
    split at e0
    · split at e0
      · split at e0
        · cases e0; rfl
        · split at e0
          · cases e0; rfl
          · cases e0
      · cases e0
    · cases e0
  · split at h
    · split at h
      · split at h
        · split at h
          · cases h; rfl
          · cases h
        · cases h
      · split at h
        · split at h
          · split at h
            · cases h; rfl
            · cases h
          · split at h
            · split at h
              · cases h; rfl
              · cases h
            · cases h
        · cases h
    · cases h
theorem ExC.sortXP {f : FE} {xs : List (Nat × Nat)} (h : Ex Γ f (rL (rP rN rN)) xs) : ExC Γ (fCB (kCell kSortX) (faCons f faNil)) (oL (rP rN rN)) (srt leP xs) := fun M ρ st q => by
  obtain ⟨d, st1, e1, p1, a1⟩ := h M ρ st q
  have sm := mot_pre q.mot p1
  obtain ⟨d2, st2, e2, p2, a2⟩ := run_sortXPC M st1 [d] sm (.cons a1 .nil)
  obtain ⟨es, h1, h2, h3⟩ := rL_at.mp a2
  have e2' := e2
  unfold kCell at e2
  split at e2
  · rename_i ys st3 e3
    cases e2
    rcases h1 with h1 | ⟨k, h1, hk, h4⟩
    · cases h1
    · cases h1
      have : ys = es := by simpa using h4
      subst this
      have e4 : st3 = st1 := kSortX_is e3
      subst e4
      exact ⟨.lst ys, st3, by simp [e1, e2'], p1, ys, rfl, h2, h3.imp fun d x q => Free.free q⟩
  · cases e2
end
end FL

/-! FVk: is True; lists of two unlike things; values told otherwise -/
namespace FL
open PySem PySem.Spec PyProof.Rows L2
section
variable {M ks : List Nat} {Γ Γ' : Cn} {Ω : List Own} {ρ : En} {st st' : Sto} {τ α β γ κ : Type} {r : Rel τ} {v : τ} {d : D} {i j n : Nat} {Φ : Post}
theorem r2_is {a b : Bool} : Rn2 gIs rB a rB b rB (a == b) := fun M st d1 d2 q k => by
  rw [rB_at.mp q, rB_at.mp k]; exact ⟨_, rfl, rB_at.mpr rfl⟩
theorem r2_isNot {a b : Bool} : Rn2 gIsNot rB a rB b rB (!(a == b)) := fun M st d1 d2 q k => by
  rw [rB_at.mp q, rB_at.mp k]; exact ⟨_, rfl, rB_at.mpr rfl⟩
theorem RnC.rn {F : F1} {es : List Ent} {C : CRel τ} (h : RnC F es C v) : Rn F es C.fz v := fun M st ds hm sl => by
  obtain ⟨c, st', e, p, a⟩ := h M st ds hm sl
  have nm : st'.length ∉ M := fun h => by
    have := hm _ h
    have := p.length_le
    omega
  have p2 : st' <+: st' ++ [c] := List.prefix_append _ _
  exact ⟨_, _, e, p.trans p2, C.frz nm (by simp) (C.ext (.pre p2) a)⟩
/-- a list of two unlike things -/
@[irreducible] def rQ {α β : Type} (r : Rel α) (s : Rel β) : Rel (α × β) := ⟨fun M st d v => ∃ a b, d = .lst [a, b] ∧ r.at_ M st a v.1 ∧ s.at_ M st b v.2, fun e h => by
  obtain ⟨a, b, h1, h2, h3⟩ := h
  exact ⟨a, b, h1, r.ext e h2, s.ext e h3⟩⟩
theorem rQ_at {r : Rel α} {s : Rel β} {v : α × β} : (rQ r s).at_ M st d v ↔ ∃ a b, d = .lst [a, b] ∧ r.at_ M st a v.1 ∧ s.at_ M st b v.2 := by unfold rQ; exact Iff.rfl
theorem Ex.lst2 {f g : FE} {r : Rel α} {s : Rel β} {x : α} {y : β} (h : Ex Γ f r x) (k : Ex Γ g s y) : Ex Γ (fLst (faCons f (faCons g faNil))) (rQ r s) (x, y) := fun M ρ st q => by
  obtain ⟨d, st1, e1, p1, a1⟩ := h M ρ st q
  obtain ⟨d2, st2, e2, p2, a2⟩ := k M ρ st1 (q.pre p1)
  exact ⟨.lst [d, d2], st2, by simp [e1, e2, lim], p1.trans p2, rQ_at.mpr ⟨d, d2, rfl, r.pre p2 a1, a2⟩⟩
instance {r : Rel α} {s : Rel β} [ExR r] [ExR s] : ExR (rQ r s) where
  dep := max (ExR.dep r) (ExR.dep s) + 1
  ex {M st d e v n} a b := by
    obtain ⟨x, y, rfl, a1, a2⟩ := rQ_at.mp a
    obtain ⟨x', y', rfl, b1, b2⟩ := rQ_at.mp b
    refine ex_lst (n := n + max (ExR.dep r) (ExR.dep s) + 1) (.inl rfl) (.inl rfl) rfl (by show 2 ≤ lim; decide) fun i p q hp hq => ?_
    match i with
    | 0 =>
      cases hp; cases hq
      have := ExR.ex (n := n + max (ExR.dep r) (ExR.dep s) - ExR.dep r) a1 b1
      rwa [show n + max (ExR.dep r) (ExR.dep s) - ExR.dep r + ExR.dep r = n + max (ExR.dep r) (ExR.dep s) from by omega] at this
    | 1 =>
      cases hp; cases hq
      have := ExR.ex (n := n + max (ExR.dep r) (ExR.dep s) - ExR.dep s) a2 b2
      rwa [show n + max (ExR.dep r) (ExR.dep s) - ExR.dep s + ExR.dep s = n + max (ExR.dep r) (ExR.dep s) from by omega] at this
    | i + 2 => simp at hp
/-- a value told by another relation -/
theorem Ex.conv {f : FE} {r : Rel α} {s : Rel β} {x : α} {y : β} (h : Ex Γ f r x) (c : ∀ M st d, r.at_ M st d x → s.at_ M st d y) : Ex Γ f s y := fun M ρ st q => by
  obtain ⟨d, st', e, p, a⟩ := h M ρ st q
  exact ⟨d, st', e, p, c _ _ _ a⟩
theorem A2.conv {α β γ : Type} {R : α → β → Prop} {S : α → γ → Prop} {f : β → γ} (h : ∀ d x, R d x → S d (f x)) : ∀ {ds : List α} {xs : List β}, A2 R ds xs → A2 S ds (xs.map f)
  | _, _, .nil => .nil
  | _, _, .cons a k => .cons (h _ _ a) (A2.conv h k)
theorem A2.conv' {α β γ : Type} {R : α → β → Prop} {S : α → γ → Prop} {f : γ → β} (h : ∀ d x, R d (f x) → S d x) : ∀ {ds : List α} {xs : List γ}, A2 R ds (xs.map f) → A2 S ds xs
  | [], [], _ => .nil
  | d :: ds, x :: xs, .cons a k => .cons (h _ _ a) (A2.conv' h k)
theorem Ex.mapL {f : FE} {r : Rel α} {s : Rel β} {xs : List α} {g : α → β} (h : Ex Γ f (rL r) xs) (c : ∀ M st d x, r.at_ M st d x → s.at_ M st d (g x)) : Ex Γ f (rL s) (xs.map g) := h.conv fun M st d a => by
  obtain ⟨ds, h1, h2, h3⟩ := rL_at.mp a
  exact rL_at.mpr ⟨ds, h1, by simpa using h2, h3.conv (c M st)⟩
theorem Ex.mapL' {f : FE} {r : Rel α} {s : Rel β} {xs : List β} {g : β → α} (h : Ex Γ f (rL r) (xs.map g)) (c : ∀ M st d x, r.at_ M st d (g x) → s.at_ M st d x) : Ex Γ f (rL s) xs := h.conv fun M st d a => by
  obtain ⟨ds, h1, h2, h3⟩ := rL_at.mp a
  exact rL_at.mpr ⟨ds, h1, by simpa using h2, h3.conv' (c M st)⟩
theorem pNI {M : List Nat} {st : Sto} {d : D} {x : Nat × Nat} : (rP rN rN).at_ M st d x → (rP rI rN).at_ M st d ((x.1 : Int), x.2) := fun h => by
  obtain ⟨a, b, h1, h2, h3⟩ := rP_at.mp h
  exact rP_at.mpr ⟨a, b, h1, rI_at.mpr (rN_at.mp h2), h3⟩
theorem pIN {M : List Nat} {st : Sto} {d : D} {x : Nat × Nat} : (rP rI rN).at_ M st d ((x.1 : Int), x.2) → (rP rN rN).at_ M st d x := fun h => by
  obtain ⟨a, b, h1, h2, h3⟩ := rP_at.mp h
  exact rP_at.mpr ⟨a, b, h1, rN_at.mpr (rI_at.mp h2), h3⟩
end
theorem gen0_rt' {N : List Str} {np : Nat} {fb : FS} {ds : List D} {st st' : Sto} {d : D} (hl : ds.length = np) (h : fb (startE N ds) st = .rt d st') : genF0 N np fb ds st = .ok d st' := by
  rw [ev_gen0, ev_gen, if_pos hl, h]
  rfl
abbrev rnC : FT := fAndT (fTest (fBin gLt (fVar 2) (fCB kLen (faCons (fVar 0) faNil)))) (fTest (fBin gLe (fBin gIx (fVar 0) (fVar 1)) (fBin gIx (fVar 0) (fVar 2))))
abbrev rnB : FS := fSeq (fAsg (fIfE (fTest (fBin gEq (fBin gIx (fVar 0) (fVar 1)) (fBin gIx (fVar 0) (fVar 2)))) (fBin gAdd (fVar 1) (fC (.int 1))) (fC (.int 0))) (hName 1))
  (fAsg (fBin gAdd (fVar 2) (fC (.int 1))) (hName 2))
abbrev rnE (w : List Nat) (a z : Nat) : En := [some (.str w), some (.int (a : Int)), some (.int (z : Int))]
end FL

/-! FVl: dicts compared, get, dict comprehensions, index -/
namespace FL
open PySem PySem.Spec PyProof.Rows L2
section
variable {M ks : List Nat} {Γ Γ' : Cn} {Ω : List Own} {ρ : En} {st st' : Sto} {τ α β γ κ : Type} {r : Rel τ} {v : τ} {d : D} {i j n : Nat} {Φ : Post}
theorem Rn2.eqX {α β γ : Type} {r : Rel α} {x : α} {s : Rel β} {y : β} {t : Rel γ} {z : γ} (h : Rn2 gEq r x s y t z) : Rn2 (gEqX false) r x s y t z := fun M st d1 d2 q k => by
  obtain ⟨d, e, a⟩ := h M st d1 d2 q k
  refine ⟨d, ?_, a⟩
  unfold gEqX
  have e : gEqN false d1 d2 st = .ok d st := e
  rw [e]
theorem Rn2.neX {α β γ : Type} {r : Rel α} {x : α} {s : Rel β} {y : β} {t : Rel γ} {z : γ} (h : Rn2 gNe r x s y t z) : Rn2 (gEqX true) r x s y t z := fun M st d1 d2 q k => by
  obtain ⟨d, e, a⟩ := h M st d1 d2 q k
  refine ⟨d, ?_, a⟩
  unfold gEqX
  have e : gEqN true d1 d2 st = .ok d st := e
  rw [e]
/-- two dicts that hold the same -/
def eqDv [DecidableEq κ] [DecidableEq β] (xs ys : List (κ × β)) : Bool := xs.length == ys.length && xs.all fun e => decide (dget ys e.1 = some e.2)
theorem hits_at [DecidableEq κ] [DecidableEq β] {r : Rel κ} [KeyRel r] {s : Rel β} [RelPy s] (hd : RelPy.dep s ≤ 38) {fs : List (D × D)} {ys : List (κ × β)} (k : A2 (EnAt r s M st) fs ys) : ∀ {es : List (D × D)} {xs : List (κ × β)}, A2 (EnAt r s M st) es xs → hitsD st fs es = some (xs.all fun e => decide (dget ys e.1 = some e.2))
  | _, _, .nil => rfl
  | (q, d) :: es, e :: xs, .cons a h => by
    have ih := hits_at hd k h
    have hk := KeyRel.to a.1
    have hk : q = KeyRel.kd r e.1 := hk
    unfold hitsD
    rw [hk]
    have l := look_is (k := e.1) k
    rw [List.all_cons]
    cases g : dget ys e.1 with
    | none =>
      rw [g] at l
      cases q2 : lookK fs (KeyRel.kd r e.1) with
      | none => rfl
      | some w => rw [q2] at l; cases l
    | some w =>
      obtain ⟨d2, l1, l2⟩ := look_at k g
      rw [l1]
      have t1 := RelPy.to (n := 38 - RelPy.dep s) a.2
      have t2 := RelPy.to (n := 38 - RelPy.dep s) l2
      rw [show 38 - RelPy.dep s + RelPy.dep s = 38 from by omega] at t1 t2
      have t1 : toPy st 38 d = some (RelPy.py s e.2) := t1
      have ve : valEq st d d2 = some (decide (some w = some e.2)) := by
        unfold valEq
        rw [t1, t2]
        dsimp only
        have := RelPy.inj (r := s) e.2 w
        by_cases z : e.2 = w
        · rw [this.mpr z, z]; simp
        · have : PyData.eqv (RelPy.py s e.2) (RelPy.py s w) = false := by
            cases y : PyData.eqv (RelPy.py s e.2) (RelPy.py s w) with
            | false => rfl
            | true => exact absurd (this.mp y) z
          rw [this, decide_eq_false (fun y => z (Option.some.inj y).symm)]
      dsimp only
      rw [ve, ih]
theorem r2_eqXD [DecidableEq κ] [DecidableEq β] {r : Rel κ} [KeyRel r] {s : Rel β} [RelPy s] {xs ys : List (κ × β)} (neg : Bool) (hd : RelPy.dep s ≤ 38 := by decide) : Rn2 (gEqX neg) (rDc r s) xs (rDc r s) ys rB (neg != eqDv xs ys) := fun M st d1 d2 q k => by
  obtain ⟨i, es, rfl, h1, h2, h3, h4⟩ := rDc_at.mp q
  obtain ⟨j, fs, rfl, k1, k2, k3, k4⟩ := rDc_at.mp k
  have e1 : ents st (.cel i) = some es := by unfold ents; simp only [h2]
  have e2 : ents st (.cel j) = some fs := by unfold ents; simp only [k2]
  have e3 : toPy st 40 (.cel i) = none := by
    show (items st (.cel i)).bind _ = none
    unfold items; simp only [h2]; rfl
  have e4 : gEqN neg (.cel i) (.cel j) st = .no := by
    unfold gEqN
    rw [e3]
  refine ⟨_, ?_, rB_at.mpr rfl⟩
  unfold gEqX
  rw [e4]
  dsimp only
  unfold eqDct
  rw [e1, e2]
  dsimp only
  rw [hits_at hd k4 h4]
  dsimp only
  rw [h4.len, k4.len]
  rfl
/-! ### d.get(k, x) -/
theorem Ex.get2 [DecidableEq κ] {f g h : FE} {r : Rel κ} [KeyRel r] {s : Rel β} {xs : List (κ × β)} {k : κ} {z : β} (hf : Ex Γ f (rDc r s) xs) (hg : Ex Γ g r k) (hh : Ex Γ h s z) : Ex Γ (fGet2 f g h) s ((dget xs k).getD z) := fun M ρ st q => by
  obtain ⟨d, st1, e1, p1, a1⟩ := hf M ρ st q
  obtain ⟨d2, st2, e2, p2, a2⟩ := hg M ρ st1 (q.pre p1)
  obtain ⟨d3, st3, e3, p3, a3⟩ := hh M ρ st2 (q.pre (p1.trans p2))
  obtain ⟨i, es, rfl, h1, h2, h3, h4⟩ := rDc_at.mp a1
  have n1 : ents st1 (.cel i) = some es := by unfold ents; simp only [h2]
  obtain ⟨i', es', hi', k1, k2, k3, k4⟩ := rDc_at.mp ((rDc r s).pre (p2.trans p3) a1)
  cases hi'
  have n2 : ents st3 (.cel i) = some es' := by unfold ents; simp only [k2]
  have hk := KeyRel.key (r := r) k
  rw [KeyRel.to a2] at e2
  have ko : ∃ kk, keyOf (KeyRel.kd r k) = some kk := by
    generalize KeyRel.kd r k = y at *
    cases y with
    | int i => exact ⟨_, rfl⟩
    | str s => exact ⟨_, rfl⟩
    | _ => cases hk
  obtain ⟨kk, hkk⟩ := ko
  have gd : getD' st3 (.cel i) (KeyRel.kd r k) d3 = .ok ((lookK es' (KeyRel.kd r k)).getD d3) st3 := by
    unfold getD'
    rw [hkk, n2]
  refine ⟨(lookK es' (KeyRel.kd r k)).getD d3, st3, ?_, p1.trans (p2.trans p3), ?_⟩
  · unfold fGet2
    rw [e1, R.bind_ok]
    simp only [n1, e2, R.bind_ok, e3]
    exact gd
  · cases g : dget xs k with
    | none =>
      have l := look_is (k := k) k4
      rw [g] at l
      cases q2 : lookK es' (KeyRel.kd r k) with
      | none => exact a3
      | some w => rw [q2] at l; cases l
    | some w =>
      obtain ⟨d4, l1, l2⟩ := look_at k4 g
      rw [l1]
      exact l2
/-! ### dict comprehensions -/
theorem pairs_A2 {α β γ δ : Type} {r : Rel α} [KeyRel r] {s : Rel β} : ∀ {ys : List D} {vs : List (α × β)}, A2 ((rP r s).at_ M st) ys vs → ∃ es, pairsD ys = some es ∧ A2 (EnAt r s M st) es vs
  | _, _, .nil => ⟨[], rfl, .nil⟩
  | _ :: _, _ :: _, .cons a h => by
    obtain ⟨x, y, rfl, a1, a2⟩ := rP_at.mp a
    obtain ⟨es, e1, e2⟩ := pairs_A2 (γ := γ) (δ := δ) h
    refine ⟨(x, y) :: es, ?_, .cons ⟨a1, a2⟩ e2⟩
    unfold pairsD
    rw [if_pos (by rw [KeyRel.to a1]; exact KeyRel.key _), e1]
    rfl
theorem Ex.pairQ {f g : FE} {r : Rel α} {s : Rel β} {x : α} {y : β} (h : Ex Γ f r x) (k : Ex Γ g s y) : Ex Γ (ePair f g) (rP r s) (x, y) := fun M ρ st q => by
  obtain ⟨d, st1, e1, p1, a1⟩ := h M ρ st q
  obtain ⟨d2, st2, e2, p2, a2⟩ := k M ρ st1 (q.pre p1)
  exact ⟨.tup [d, d2], st2, by unfold ePair; simp [e1, e2], p1.trans p2, rP_at.mpr ⟨d, d2, rfl, r.pre p2 a1, a2⟩⟩
theorem ExC.dcY [DecidableEq κ] {src : FI} {h : FG} {fk fv : FE} {vs : List Nat} {r : Rel α} {s : Rel κ} [KeyRel s] {t : Rel β} {xs : List α} {q : α → κ × β} {Γx : α → Cn} (hs : ExI Γ src r xs) (hb : ∀ x, x ∈ xs → Bd h (wipeC Γ vs) r x (Γx x))
    (hk : ∀ x, x ∈ xs → Ex (Γx x) fk s (q x).1) (hv : ∀ x, x ∈ xs → Ex (Γx x) fv t (q x).2) : ExC Γ (fDc src h fYes fk fv vs) (oC s t) (dputs [] (xs.map q)) := fun M ρ st sat => by
  obtain ⟨z, st1, ys, st2, e1, e2, p, hl, hl2, a⟩ := lc_run (c := fun _ => true) (q := q) (s := rP s t) hs hb (fun _ _ => ExT.yes) (fun x hx _ => Ex.pairQ (hk x hx) (hv x hx)) sat
  rw [List.filter_eq_self.mpr fun _ _ => rfl] at hl2 a
  obtain ⟨es, h1, h2⟩ := pairs_A2 (γ := Nat) (δ := Nat) a
  refine ⟨.dct (mergeD [] es), st2, ?_, p, _, rfl, ?_, puts_at h2 .nil⟩
  · unfold fDc
    simp only [e1, R.bind_ok, e2]
    unfold endD
    rw [h1]
    dsimp only
    rw [if_pos hl]
  · have := dputs_len (es := xs.map q) (es0 := [])
    rw [List.length_nil, Nat.zero_add] at this
    exact Nat.le_trans this hl2
end
end FL

/-! FVm: lists whose items are drawn, loops over what is drawn, tuples drawn and taken apart -/
namespace FL
open PySem PySem.Spec PyProof.Rows L2
section
variable {n k k1 k2 k3 : Nat} {M ks : List Nat} {Γ Γ' : Cn} {Ω : List Own} {ρ : En} {st st' : Sto} {τ α β γ κ : Type} {r : Rel τ} {v : τ} {d : D} {i j c : Nat} {Φ : PostG}
theorem WG.forGI {σ : Type} {src : FI} {h : FG} {b : FS} {r : Rel α} {is : List Nat} (S : σ → Cn × List Own) (P : Nat → σ → Prop) (a0 : σ) (c : Nat) {φ : List α → Prop} (hs : ExIG n k Γ src r φ k1)
    (h0 : Sub (S a0).1 Γ ∧ (S a0).2 = Ω) (p0 : P 0 a0) (hB : ∀ xs, φ xs → ∀ j (hj : j < xs.length) a k', P j a → k' + c ≤ k1 + c * xs.length → ∃ Γ', BdI h (S a).1 r xs[j] Γ' is ∧ (∀ o ∈ (S a).2, o.i ∉ is) ∧
      WG n k' Γ' (S a).2 b { nx := fun k2 Γ2 Ω2 => k2 ≤ k' + c ∧ ∃ a', P (j + 1) a' ∧ Sub (S a').1 Γ2 ∧ (S a').2 = Ω2, ct := fun k2 Γ2 Ω2 => k2 ≤ k' + c ∧ ∃ a', P (j + 1) a' ∧ Sub (S a').1 Γ2 ∧ (S a').2 = Ω2, bk := Φ.bk, rt := Φ.rt })
    (hk : ∀ k2 Γ2 Ω2, ¬ Φ.bk k2 Γ2 Ω2) (hE : ∀ xs, φ xs → ∀ a, P xs.length a → Φ.nx (k1 + c * xs.length) (S a).1 (S a).2) : WG n k Γ Ω (fFor src h b) Φ := fun M ks ρ st hn g sat => by
  obtain ⟨xs, z, st1, e1, f1, g1, a1, px⟩ := hs (ks ++ M) ρ st (List.mem_append_right _ hn) g sat.sat
  rw [fFor_N e1]
  have sat1 := sat.xtG f1 hn
  have key : ∀ (m i k' : Nat) (a : σ) (ks' : List Nat) (ρ' : En) (st' : Sto), SatS M ks' (S a).1 (S a).2 ρ' st' → SrcAt (ks' ++ M) st' z r xs → P i a → i ≤ xs.length → xs.length - i < m → k' ≤ k1 + c * i → Gen st' n (k' : Int) → OcG n M ks' st' Φ (loopN z h b m i ρ' st') := by
    intro m
    induction m with
    | zero => intro i k' a ks' ρ' st' _ _ _ _ hm; omega
    | succ m ih =>
      intro i k' a ks' ρ' st' sat' a' hI hi hm hkk g'
      have h1 := (a'.2 _ st' .refl).2 i
      rw [loopN]
      by_cases hl : i < xs.length
      · rw [List.getElem?_eq_getElem hl] at h1
        obtain ⟨d, e1, d1⟩ := h1
        have hb : k1 + c * i + c ≤ k1 + c * xs.length := by
          have : c * (i + 1) ≤ c * xs.length := Nat.mul_le_mul_left c hl
          rw [Nat.mul_succ] at this
          omega
        obtain ⟨Γ', hb, ho, w⟩ := hB xs px i hl a k' hI (by omega)
        obtain ⟨ρ2, e2, q2, n2⟩ := hb _ ρ' st' d sat'.sat d1
        have sat2 : SatS M ks' Γ' (S a).2 ρ2 st' := by
          refine ⟨q2, sat'.len, sat'.nd, sat'.dis, fun j o k z1 z2 => ?_⟩
          obtain ⟨y1, y2, y3⟩ := sat'.own j o k z1 z2
          have := n2 o.i (ho o (List.mem_of_getElem? z1))
          exact ⟨this.1.trans y1, this.2.trans y2, y3⟩
        have oc := w M ks' ρ2 st' hn g' sat2
        rw [e1]
        show OcG n M ks' st' Φ ((h d ρ' st').toO ρ' _)
        rw [e2]
        show OcG n M ks' st' Φ (stepO (b ρ2 st') _)
        have hci : k1 + c * i + c = k1 + c * (i + 1) := by rw [Nat.mul_succ]; omega
        revert oc
        cases b ρ2 st' with
        | no => intro oc; exact oc
        | exc c x ρ s => intro oc; exact oc
        | nx ρ3 st3 =>
          intro oc
          obtain ⟨ks3, k3, Γ3, Ω3, f3, g3, sat3, hk3, a3, i3, s3, rfl⟩ := oc
          exact (ih (i + 1) k3 a3 ks3 ρ3 st3 (sat3.sub s3) (a'.ext (f3.xt hn)) i3 hl (by omega) (by omega) g3).later f3
        | ct ρ3 st3 =>
          intro oc
          obtain ⟨ks3, k3, Γ3, Ω3, f3, g3, sat3, hk3, a3, i3, s3, rfl⟩ := oc
          exact (ih (i + 1) k3 a3 ks3 ρ3 st3 (sat3.sub s3) (a'.ext (f3.xt hn)) i3 hl (by omega) (by omega) g3).later f3
        | bk ρ3 st3 =>
          intro oc
          obtain ⟨_, _, _, _, _, _, _, q⟩ := oc
          exact absurd q (hk _ _ _)
        | rt d3 st3 => intro oc; exact oc
      · rw [List.getElem?_eq_none (by omega)] at h1
        rw [h1]
        have : i = xs.length := by omega
        subst this
        exact ⟨ks', k1 + c * xs.length, _, _, Fr.refl.toG, g'.mono (by omega), sat', hE xs px a hI⟩
  have sat2 : SatS M ks (S a0).1 (S a0).2 ρ st1 := by rw [h0.2]; exact sat1.sub h0.1
  exact (key _ 0 k1 a0 ks ρ st1 sat2 a1 p0 (Nat.zero_le _) (by have := (a1.2 _ st1 .refl).1; omega) (by omega) g1).later f1.toG
theorem WG.asgBG {f : FE} {h : FG} {φ : τ → Prop} {Γ' : τ → Cn} (he : ExG n k Γ f r φ k1) (hb : ∀ v, φ v → Bd h Γ r v (Γ' v)) (q : ∀ v, φ v → Φ.nx k1 (Γ' v) []) : WG n k Γ [] (fAsg f h) Φ := fun M ks ρ st hn g sat => by
  obtain ⟨v, d, st', e, f1, g1, a, p⟩ := he (ks ++ M) ρ st (List.mem_append_right _ hn) g sat.sat
  have sat1 := sat.xtG f1 hn
  obtain ⟨ρ', e2, s2⟩ := hb v p _ ρ st' d sat1.sat a
  unfold fAsg
  rw [e]
  show OcG n M ks st Φ ((h d ρ st').toO ρ _)
  rw [e2]
  exact ⟨ks, k1, _, [], f1.toG, g1, ⟨s2, sat.len, sat.nd, sat.dis, fun j o k z => by simp at z⟩, q v p⟩
def ExLG {τ : Type} (n k : Nat) (Γ : Cn) (fa : FA) (r : Rel τ) (φ : List τ → Prop) (k' : Nat) : Prop := ∀ M ρ st, n ∈ M → Gen st n (k : Int) → Sat M Γ ρ st → ∃ xs ds st', fa ρ st = .ok ds st' ∧ Fr n st st' ∧ Gen st' n (k' : Int) ∧ A2 (r.at_ M st') ds xs ∧ φ xs
theorem ExLG.nil {r : Rel τ} : ExLG n k Γ faNil r (· = []) k := fun M ρ st hn g sat => ⟨[], [], st, rfl, .refl, g, .nil, rfl⟩
theorem ExLG.cons {f : FE} {fa : FA} {r : Rel τ} {φ : τ → Prop} {ψ : τ → List τ → Prop} (h : ExG n k Γ f r φ k1) (q : ∀ v, φ v → ExLG n k1 Γ fa r (ψ v) k2) : ExLG n k Γ (faCons f fa) r (fun xs => ∃ v vs, φ v ∧ ψ v vs ∧ xs = v :: vs) k2 := fun M ρ st hn g sat => by
  obtain ⟨v, d, st1, e1, f1, g1, a1, p1⟩ := h M ρ st hn g sat
  obtain ⟨vs, ds, st2, e2, f2, g2, a2, p2⟩ := q v p1 M ρ st1 hn g1 (sat.xt (f1.xt hn))
  exact ⟨v :: vs, d :: ds, st2, by simp [e1, e2], f1.trans f2, g2, .cons (r.ext (f2.xt hn) a1) a2, v, vs, p1, p2, rfl⟩
theorem ExLG.imp {fa : FA} {r : Rel τ} {φ ψ : List τ → Prop} (h : ExLG n k Γ fa r φ k1) (q : ∀ xs, φ xs → ψ xs) (hk : k1 ≤ k2) : ExLG n k Γ fa r ψ k2 := fun M ρ st hn g sat => by
  obtain ⟨xs, ds, st1, e1, f1, g1, a1, p1⟩ := h M ρ st hn g sat
  exact ⟨xs, ds, st1, e1, f1, g1.mono (by omega), a1, q xs p1⟩
theorem ExG.lst {fa : FA} {r : Rel τ} {φ : List τ → Prop} (h : ExLG n k Γ fa r φ k1) (hl : ∀ xs, φ xs → xs.length ≤ lim) : ExG n k Γ (fLst fa) (rL r) φ k1 := fun M ρ st hn g sat => by
  obtain ⟨xs, ds, st1, e1, f1, g1, a1, p1⟩ := h M ρ st hn g sat
  have ll : ds.length ≤ lim := by rw [a1.len]; exact hl xs p1
  exact ⟨xs, .lst ds, st1, by simp [e1, ll], f1, g1, rL_at.mpr ⟨ds, .inl rfl, hl xs p1, a1⟩, p1⟩
theorem ExIG.list {f : FE} {r : Rel τ} {φ : List τ → Prop} (h : ExG n k Γ f (rL r) φ k1) : ExIG n k Γ (iList f) r φ k1 := fun M ρ st hn g sat => by
  obtain ⟨xs, d, st1, e1, f1, g1, a1, p1⟩ := h M ρ st hn g sat
  have q : ∃ s, iList (fun _ st => .ok d st) ρ st1 = .ok s st1 ∧ SrcAt M st1 s r xs := by
    obtain ⟨ds, h1, h2, h3⟩ := rL_at.mp a1
    rcases h1 with rfl | ⟨i, rfl, hi, hk⟩
    · exact ⟨.fix ds, by simp [iList, itemsR, items], srcAt_fix h3 h2⟩
    · exact ⟨.cel i, by simp [iList, hk], srcAt_cel hi hk h3 h2⟩
  obtain ⟨s, e2, a2⟩ := q
  refine ⟨xs, s, st1, ?_, f1, g1, a2, p1⟩
  rw [← e2]
  unfold iList
  simp only [e1, R.bind_ok]
theorem ExG.trip1 {f g h : FE} {r : Rel α} {s : Rel β} {t : Rel γ} {x : α} {y : β} {φ : γ → Prop} (h1 : Ex Γ f r x) (h2 : Ex Γ g s y) (h3 : ExG n k Γ h t φ k1) : ExG n k Γ (fTup (faCons f (faCons g (faCons h faNil)))) (rT r s t) (fun v => v.1 = x ∧ v.2.1 = y ∧ φ v.2.2) k1 := fun M ρ st hn g0 sat => by
  obtain ⟨d, st1, e1, p1, a1⟩ := h1 M ρ st sat
  obtain ⟨d2, st2, e2, p2, a2⟩ := h2 M ρ st1 (sat.pre p1)
  obtain ⟨z, d3, st3, e3, f3, g3, a3, q3⟩ := h3 M ρ st2 hn (g0.pre (p1.trans p2)) (sat.pre (p1.trans p2))
  refine ⟨(x, y, z), .tup [d, d2, d3], st3, by simp [e1, e2, e3, lim], (Fr.pre (p1.trans p2)).trans f3, g3, rT_at.mpr ⟨d, d2, d3, rfl, r.ext (f3.xt hn) (r.pre p2 a1), s.ext (f3.xt hn) a2, a3⟩, rfl, rfl, q3⟩
end
end FL

namespace Lk89
open PySem PySem.Spec PyProof.Rows L2 FL
def top (i : Nat) : Stmt := PySem.Challenge.pw_scrapstory_k89_whole_windows_and_full_ri.main.body.getD i (.Pass ⟨0, 0, 0, 0⟩)
abbrev s_is_whole : Stmt := top 7
abbrev s_is_signs : Stmt := top 9
abbrev s_windows_round : Stmt := top 15
abbrev N_windows_round : List Str := ["scrap", "size", "round_about", "at"]
def fb_windows_round : FS := (fSeq (fAsg (fBin gMul (fVar 0) (fBin gAdd (fBin gDiv (fVar 1) (fCB kLen (faCons (fVar 0) faNil))) (fC (.int 2)))) (hName 2))
  (fRet (fLc true (iRange1 (fCB kLen (faCons (fVar 0) faNil))) (hName 3) fYes (fCut (fVar 2) (foSome (fVar 3)) (foSome (fBin gAdd (fVar 3) (fVar 1)))) [3])))
def F_windows_round : F1 := genF0 N_windows_round 2 fb_windows_round

abbrev s_power_of : Stmt := top 19
abbrev N_power_of : List Str := ["many", "times", "found", "turn"]
def fb_power_of : FS := (fSeq (fAsg (fC (.int 1)) (hName 2))
  (fSeq (fFor (iRange1 (fVar 1)) (hName 3) (fAsg (fBin gMul (fVar 2) (fVar 0)) (hName 2)))
  (fRet (fVar 2))))
def F_power_of : F1 := genF0 N_power_of 2 fb_power_of

abbrev s_next_small : Stmt := top 22
abbrev N_next_small : List Str := ["signs", "scrap", "size", "longer"]
def fb_next_small : FS := (fSeq (fAsg (fCut (fBin gMul (fVar 1) (fBin gAdd (fBin gDiv (fVar 2) (fCB kLen (faCons (fVar 1) faNil))) (fC (.int 1)))) foNone (foSome (fVar 2))) (hName 3))
  (fSeq (fWhile 1000 (fAndT (fTest (fBin gNe (fVar 3) (fC (.str [])))) (fTest (fBin gEq (fBin gIx (fVar 3) (fNeg (fC (.int 1)))) (fBin gIx (fVar 0) (fNeg (fC (.int 1))))))) (fAsg (fCut (fVar 3) foNone (foSome (fNeg (fC (.int 1))))) (hName 3)))
  (fRet (fIfE (fTest (fBin gEq (fVar 3) (fC (.str [])))) (fC .non) (fBin gAdd (fCut (fVar 3) foNone (foSome (fNeg (fC (.int 1))))) (fBin gIx (fVar 0) (fBin gAdd (fBm .str mIndexS (fVar 0) (faCons (fBin gIx (fVar 3) (fNeg (fC (.int 1)))) faNil)) (fC (.int 1)))))))))
def F_next_small : F1 := genF0 N_next_small 3 fb_next_small

abbrev s__law_hash : Stmt := top 27
abbrev s__law_cell : Stmt := top 28
abbrev s__law_unlike : Stmt := top 35
abbrev s__law_turning : Stmt := top 37
abbrev s__law_stories : Stmt := top 39
abbrev N__law_stories : List Str := ["signs", "size", "found", "turn", "story", "sign"]
def fb__law_stories : FS := (fSeq (fAsg (fLst (faCons (fC (.str [])) faNil)) (hName 2))
  (fSeq (fFor (iRange1 (fVar 1)) (hName 3) (fAsg (fCB kSumA (faCons (fLc false (iList (fVar 2)) (hName 4) fYes (fLc false (iList (fVar 0)) (hName 5) fYes (fBin gAdd (fVar 4) (fVar 5)) [5]) [4]) (faCons (fLst faNil) faNil))) (hName 2)))
  (fRet (fVar 2))))
def F__law_stories : F1 := genF0 N__law_stories 2 fb__law_stories

abbrev s__law_windows : Stmt := top 40
abbrev N__law_windows : List Str := ["scrap", "size", "found", "at", "step"]
def fb__law_windows : FS := (fSeq (fAsg (fLstC faNil) (hName 2))
  (fSeq (fFor (iRange1 (fCB kLen (faCons (fVar 0) faNil))) (hName 3) (fDrop (fBm .list mAppend (fVar 2) (faCons (fBm .str mJoin (fC (.str [])) (faCons (fLc false (iRange1 (fVar 1)) (hName 4) fYes (fBin gIx (fVar 0) (fBin gMod (fBin gAdd (fVar 3) (fVar 4)) (fCB kLen (faCons (fVar 0) faNil)))) [4]) faNil)) faNil))))
  (fRet (fVar 2))))
def F__law_windows : F1 := genF0 N__law_windows 2 fb__law_windows

abbrev s_is_count : Stmt := top 8
abbrev s_is_story : Stmt := top 10
abbrev s__law_generator : Stmt := top 29
abbrev s__law_random : Stmt := top 30
abbrev s__law_turnings : Stmt := top 38
abbrev s_is_scrap : Stmt := top 11
abbrev s_check_ring_size : Stmt := top 14
abbrev N_check_ring_size : List Str := ["size"]
def fb_check_ring_size : FS := (fIf (fOrT (fNotT (fTest (fCall 1 F_is_count (faCons (fVar 0) faNil)))) (fTest (fBin gLt (fVar 0) (fC (.int 1))))) fNever fNext)
def F_check_ring_size : F1 := genF0 N_check_ring_size 1 fb_check_ring_size

abbrev s__law_pick : Stmt := top 31
abbrev s__law_drawn_order : Stmt := top 32
abbrev N__law_drawn_order : List Str := ["generator", "things", "left", "found"]
def fb__law_drawn_order : FS := (fSeq (fPar 2 3 (faCons (fCB (kCell kList) (faCons (fVar 1) faNil)) (faCons (fLstC faNil) faNil)))
  (fSeq (fWhile 1000 (fTest (fBin gNe (fVar 2) (fLst faNil))) (fDrop (fBm .list mAppend (fVar 3) (faCons (fBm .list mPop (fVar 2) (faCons (fCall 2 F__law_random (faCons (fVar 0) (faCons (fCB kLen (faCons (fVar 2) faNil)) faNil))) faNil)) faNil))))
  (fRet (fVar 3))))
def F__law_drawn_order : F1 := genF0 N__law_drawn_order 2 fb__law_drawn_order

abbrev s_check_scrap : Stmt := top 13
abbrev s_check_full_signs : Stmt := top 21
abbrev N_check_full_signs : List Str := ["signs", "at"]
def fb_check_full_signs : FS := (fIf (fOrT (fNotT (fTest (fCall 1 F_is_scrap (faCons (fVar 0) faNil)))) (fTest (fBin gNe (fLc false (iRange2 (fC (.int 1)) (fCB kLen (faCons (fVar 0) faNil))) (hName 1) (fTest (fBin gGe (fBin gIx (fVar 0) (fBin gSub (fVar 1) (fC (.int 1)))) (fBin gIx (fVar 0) (fVar 1)))) (fVar 1) [1]) (fLst faNil)))) fNever fNext)
def F_check_full_signs : F1 := genF0 N_check_full_signs 1 fb_check_full_signs

abbrev s__law_marked : Stmt := top 33
abbrev s__law_scrap : Stmt := top 36
abbrev s__law_neighbours : Stmt := top 42
abbrev N__law_neighbours : List Str := ["generator", "story", "places", "at"]
def fb__law_neighbours : FS := (fSeq (fAsg (fLc false (iRange2 (fC (.int 1)) (fCB kLen (faCons (fVar 1) faNil))) (hName 3) (fTest (fBin gNe (fBin gIx (fVar 1) (fBin gSub (fVar 3) (fC (.int 1)))) (fBin gIx (fVar 1) (fVar 3)))) (fVar 3) [3]) (hName 2))
  (fSeq (fAsg (fCall 2 F__law_pick (faCons (fVar 0) (faCons (fBin gAdd (fVar 2) (fLst (faCons (fC (.int 0)) faNil))) faNil))) (hName 3))
  (fRet (fIfE (fTest (fBin gGt (fVar 3) (fC (.int 0)))) (fBin gAdd (fBin gAdd (fBin gAdd (fCut (fVar 1) foNone (foSome (fBin gSub (fVar 3) (fC (.int 1))))) (fBin gIx (fVar 1) (fVar 3))) (fBin gIx (fVar 1) (fBin gSub (fVar 3) (fC (.int 1))))) (fCut (fVar 1) (foSome (fBin gAdd (fVar 3) (fC (.int 1)))) foNone)) (fVar 1)))))
def F__law_neighbours : F1 := genF0 N__law_neighbours 2 fb__law_neighbours

abbrev s_ring_windows : Stmt := top 16
abbrev N_ring_windows : List Str := ["scrap", "size"]
def fb_ring_windows : FS := (fSeq (fDrop (fCall 1 F_check_scrap (faCons (fVar 0) faNil)))
  (fSeq (fDrop (fCall 1 F_check_ring_size (faCons (fVar 1) faNil)))
  (fRet (fCall 2 F_windows_round (faCons (fVar 0) (faCons (fVar 1) faNil))))))
def F_ring_windows : F1 := genF0 N_ring_windows 2 fb_ring_windows

abbrev s_ring_counts : Stmt := top 17
abbrev N_ring_counts : List Str := ["scrap", "size", "found", "window"]
def fb_ring_counts : FS := (fSeq (fDrop (fCall 1 F_check_scrap (faCons (fVar 0) faNil)))
  (fSeq (fDrop (fCall 1 F_check_ring_size (faCons (fVar 1) faNil)))
  (fSeq (fAsg fDctC (hName 2))
  (fSeq (fFor (iList (fCall 2 F_windows_round (faCons (fVar 0) (faCons (fVar 1) faNil)))) (hName 3) (fAsg (fBin gAdd (fGet2 (fVar 2) (fVar 3) (fC (.int 0))) (fC (.int 1))) (hSub (fVar 2) (fVar 3))))
  (fRet (fVar 2))))))
def F_ring_counts : F1 := genF0 N_ring_counts 2 fb_ring_counts

abbrev s_full_ring : Stmt := top 23
abbrev N_full_ring : List Str := ["signs", "size", "parts", "scrap"]
def fb_full_ring : FS := (fSeq (fDrop (fCall 1 F_check_full_signs (faCons (fVar 0) faNil)))
  (fSeq (fDrop (fCall 1 F_check_ring_size (faCons (fVar 1) faNil)))
  (fSeq (fPar 2 3 (faCons (fLstC faNil) (faCons (fBin gIx (fVar 0) (fC (.int 0))) faNil)))
  (fSeq (fWhile 1000 (fTest (fBin gIsNot (fVar 3) (fC .non))) (fSeq (fIf (fTest (fBin gEq (fBin gMod (fVar 1) (fCB kLen (faCons (fVar 3) faNil))) (fC (.int 0)))) (fDrop (fBm .list mAppend (fVar 2) (faCons (fVar 3) faNil))) fNext)
  (fAsg (fCall 3 F_next_small (faCons (fVar 0) (faCons (fVar 3) (faCons (fVar 1) faNil)))) (hName 3))))
  (fRet (fBm .str mJoin (fC (.str [])) (faCons (fVar 2) faNil)))))))
def F_full_ring : F1 := genF0 N_full_ring 2 fb_full_ring

abbrev s_is_full_ring : Stmt := top 24
abbrev N_is_full_ring : List Str := ["signs", "size", "value", "window", "sign"]
def fb_is_full_ring : FS := (fSeq (fDrop (fCall 1 F_check_full_signs (faCons (fVar 0) faNil)))
  (fSeq (fDrop (fCall 1 F_check_ring_size (faCons (fVar 1) faNil)))
  (fSeq (fIf (fOrT (fNotT (fTest (fCall 1 F_is_scrap (faCons (fVar 2) faNil)))) (fNotT (fTest (fCB kAll (faCons (fLc false (iList (fVar 2)) (hName 4) fYes (fBin gIn (fVar 4) (fVar 0)) [4]) faNil))))) (fRet (fC (.bl false))) fNext)
  (fSeq (fIf (fTest (fBin gNe (fCB kLen (faCons (fVar 2) faNil)) (fCall 2 F_power_of (faCons (fCB kLen (faCons (fVar 0) faNil)) (faCons (fVar 1) faNil))))) (fRet (fC (.bl false))) fNext)
  (fRet (fBin gEq (fCB kLen (faCons (fDc (iList (fCall 2 F_windows_round (faCons (fVar 2) (faCons (fVar 1) faNil)))) (hName 3) fYes (fVar 3) (fC (.bl true)) [3]) faNil)) (fCB kLen (faCons (fVar 2) faNil))))))))
def F_is_full_ring : F1 := genF0 N_is_full_ring 3 fb_is_full_ring

abbrev s_how_many_full : Stmt := top 25
abbrev N_how_many_full : List Str := ["signs", "size", "orders", "many", "found", "turn"]
def fb_how_many_full : FS := (fSeq (fDrop (fCall 1 F_check_full_signs (faCons (fVar 0) faNil)))
  (fSeq (fDrop (fCall 1 F_check_ring_size (faCons (fVar 1) faNil)))
  (fSeq (fAsg (fC (.int 1)) (hName 2))
  (fSeq (fFor (iRange2 (fC (.int 1)) (fBin gAdd (fCB kLen (faCons (fVar 0) faNil)) (fC (.int 1)))) (hName 3) (fAsg (fBin gMul (fVar 2) (fVar 3)) (hName 2)))
  (fSeq (fAsg (fC (.int 1)) (hName 4))
  (fSeq (fFor (iRange1 (fCall 2 F_power_of (faCons (fCB kLen (faCons (fVar 0) faNil)) (faCons (fBin gSub (fVar 1) (fC (.int 1))) faNil)))) (hName 5) (fAsg (fBin gMul (fVar 4) (fVar 2)) (hName 4)))
  (fRet (fBin gDiv (fVar 4) (fCall 2 F_power_of (faCons (fCB kLen (faCons (fVar 0) faNil)) (faCons (fVar 1) faNil)))))))))))
def F_how_many_full : F1 := genF0 N_how_many_full 2 fb_how_many_full

abbrev s__law_exact : Stmt := top 34
abbrev s__law_counts_right : Stmt := top 41
abbrev N__law_counts_right : List Str := ["generator", "window", "other", "scrap", "size", "due", "counts", "told", "table"]
def fb__law_counts_right : FS := (fSeq (fPar 3 4 (faCons (fCall 3 F__law_scrap (faCons (fVar 0) (faCons (fCall 2 F__law_pick (faCons (fVar 0) (faCons (fLst (faCons (fC (.str [97, 98])) (faCons (fC (.str [97, 98, 99])) faNil))) faNil))) (faCons (fC (.int 8)) faNil)))) (faCons (fBin gAdd (fC (.int 1)) (fCall 2 F__law_random (faCons (fVar 0) (faCons (fC (.int 30)) faNil)))) faNil)))
  (fSeq (fPar 5 6 (faCons (fCall 2 F__law_windows (faCons (fVar 3) (faCons (fVar 4) faNil))) (faCons fDctC faNil)))
  (fSeq (fFor (iList (fVar 5)) (hName 1) (fAsg (fBin gAdd (fGet2 (fVar 6) (fVar 1) (fC (.int 0))) (fC (.int 1))) (hSub (fVar 6) (fVar 1))))
  (fSeq (fPar 7 8 (faCons (fCall 2 F_ring_windows (faCons (fVar 3) (faCons (fVar 4) faNil))) (faCons (fCall 2 F_ring_counts (faCons (fVar 3) (faCons (fVar 4) faNil))) faNil)))
  (fSeq (fIf (fOrT (fNotT (fTest (fCall 2 (F__law_exact 8) (faCons (fVar 7) (faCons (fVar 5) faNil))))) (fOrT (fNotT (fTest (fCall 1 (F__law_marked 4) (faCons (fVar 7) faNil)))) (fNotT (fTest (fCall 2 (F__law_exact 8) (faCons (fCallK [1, 0] 2 F_ring_windows (faCons (fVar 4) (faCons (fVar 3) faNil))) (faCons (fVar 5) faNil))))))) (fRet (fC (.bl false))) fNext)
  (fSeq (fIf (fOrT (fNotT (fTest (fCB kIsi (faCons (fVar 8) (faCons (fC (.ty .dict)) faNil))))) (fOrT (fTest (fBin (gEqX true) (fVar 8) (fVar 6))) (fTest (fBin (gEqX true) (fCallK [1, 0] 2 F_ring_counts (faCons (fVar 4) (faCons (fVar 3) faNil))) (fVar 6))))) (fRet (fC (.bl false))) fNext)
  (fSeq (fAsg (fCall 2 F__law_pick (faCons (fVar 0) (faCons (fLst (faCons (fCall 2 F__law_turning (faCons (fVar 3) (faCons (fC (.int 1)) faNil))) (faCons (fCall 3 F__law_scrap (faCons (fVar 0) (faCons (fC (.str [97, 98])) (faCons (fCB kLen (faCons (fVar 3) faNil)) faNil)))) faNil))) faNil))) (hName 2))
  (fSeq (fIf (fAndT (fTest (fBin (gEqX false) (fCB kLen (faCons (fVar 2) faNil)) (fCB kLen (faCons (fVar 3) faNil)))) (fTest (fBin (gEqX true) (fBin (gEqX false) (fCall 2 F_ring_counts (faCons (fVar 2) (faCons (fCB kLen (faCons (fVar 3) faNil)) faNil))) (fCall 2 F_ring_counts (faCons (fVar 3) (faCons (fCB kLen (faCons (fVar 3) faNil)) faNil)))) (fBin gIn (fVar 2) (fCall 1 F__law_turnings (faCons (fVar 3) faNil)))))) (fRet (fC (.bl false))) fNext)
  (fRet (fBin (gEqX false) (fCall 2 F_ring_counts (faCons (fVar 3) (faCons (fVar 4) faNil))) (fVar 6)))))))))))
def F__law_counts_right : F1 := genF0 N__law_counts_right 1 fb__law_counts_right

abbrev s__law_great_right : Stmt := top 43
abbrev N__law_great_right : List Str := ["generator", "signs", "size", "exchanged", "value", "told", "wanted", "order", "due", "sign"]
def fb__law_great_right : FS := (fSeq (fFor (iList (fLst (faCons (fTup (faCons (fC (.str [97, 98])) (faCons (fC (.int 4)) faNil))) (faCons (fTup (faCons (fC (.str [97, 98, 99])) (faCons (fC (.int 3)) faNil))) (faCons (fTup (faCons (fC (.str [97, 98])) (faCons (fC (.int 8)) faNil))) faNil))))) (hTup 2 (hCons (hName 1) (hCons (hName 2) hNil))) (fSeq (fAsg (fTup (faCons (fCall 2 F_full_ring (faCons (fVar 1) (faCons (fVar 2) faNil))) (faCons (fCB kSortX (faCons (fCall 2 F__law_stories (faCons (fVar 1) (faCons (fVar 2) faNil))) faNil)) (faCons (fCall 2 F__law_drawn_order (faCons (fVar 0) (faCons (fCB kList (faCons (fVar 1) faNil)) faNil))) faNil)))) (hTup 3 (hCons (hName 5) (hCons (hName 6) (hCons (hName 7) hNil)))))
  (fSeq (fAsg (fBm .str mJoin (fC (.str [])) (faCons (fLc false (iList (fVar 5)) (hName 9) fYes (fBin gIx (fVar 7) (fBm .str mIndexS (fVar 1) (faCons (fVar 9) faNil))) [9]) faNil)) (hName 3))
  (fSeq (fFor (iList (fLst (faCons (fVar 5) (faCons (fVar 3) (faCons (fBin gAdd (fCut (fVar 5) foNone (foSome (fNeg (fC (.int 1))))) (fBin gIx (fVar 1) (fC (.int 0)))) (faCons (fCall 2 F__law_neighbours (faCons (fVar 0) (faCons (fVar 5) faNil))) (faCons (fCall 2 F__law_neighbours (faCons (fVar 0) (faCons (fVar 3) faNil))) faNil))))))) (hName 4) (fSeq (fAsg (fBin gEq (fCB kSortX (faCons (fCall 2 F__law_windows (faCons (fVar 4) (faCons (fVar 2) faNil))) faNil)) (fVar 6)) (hName 8))
  (fIf (fNotT (fTest (fCall 2 (F__law_exact 8) (faCons (fCall 3 F_is_full_ring (faCons (fVar 1) (faCons (fVar 2) (faCons (fVar 4) faNil)))) (faCons (fVar 8) faNil))))) (fRet (fC (.bl false))) fNext)))
  (fIf (fOrT (fTest (fBin gIsNot (fCall 3 F_is_full_ring (faCons (fVar 1) (faCons (fVar 2) (faCons (fVar 5) faNil)))) (fC (.bl true)))) (fTest (fBin gIsNot (fCall 3 F_is_full_ring (faCons (fVar 1) (faCons (fVar 2) (faCons (fVar 3) faNil)))) (fC (.bl true))))) (fRet (fC (.bl false))) fNext)))))
  (fRet (fC (.bl true))))
def F__law_great_right : F1 := genF0 N__law_great_right 1 fb__law_great_right

abbrev s__law_full_right : Stmt := top 44
abbrev N__law_full_right : List Str := ["generator", "many", "turn", "wanted", "full", "told", "order", "exchanged", "values", "value", "signs", "size", "due", "story", "sign"]
def fb__law_full_right : FS := (fSeq (fAsg (fCall 2 F__law_pick (faCons (fVar 0) (faCons (fLst (faCons (fTup (faCons (fC (.str [97])) (faCons (fC (.int 3)) faNil))) (faCons (fTup (faCons (fC (.str [97, 98])) (faCons (fC (.int 1)) faNil))) (faCons (fTup (faCons (fC (.str [97, 98])) (faCons (fC (.int 2)) faNil))) (faCons (fTup (faCons (fC (.str [97, 98])) (faCons (fC (.int 3)) faNil))) (faCons (fTup (faCons (fC (.str [98, 100])) (faCons (fC (.int 3)) faNil))) (faCons (fTup (faCons (fC (.str [120, 121, 122])) (faCons (fC (.int 1)) faNil))) (faCons (fTup (faCons (fC (.str [120, 121, 122])) (faCons (fC (.int 2)) faNil))) (faCons (fTup (faCons (fC (.str [97, 98, 99, 100])) (faCons (fC (.int 1)) faNil))) faNil))))))))) faNil))) (hTup 2 (hCons (hName 10) (hCons (hName 11) hNil))))
  (fSeq (fAsg (fCB kLen (faCons (fVar 10) faNil)) (hName 1))
  (fSeq (fFor (iRange1 (fBin gSub (fVar 11) (fC (.int 1)))) (hName 2) (fAsg (fBin gMul (fVar 1) (fCB kLen (faCons (fVar 10) faNil))) (hName 1)))
  (fSeq (fAsg (fCB kSortX (faCons (fCall 2 F__law_stories (faCons (fVar 10) (faCons (fVar 11) faNil))) faNil)) (hName 3))
  (fSeq (fAsg (fIfE (fAndT (fTest (fBin gLt (fVar 1) (fC (.int 10)))) (fTest (fBin gLt (fCB kLen (faCons (fVar 10) faNil)) (fC (.int 3))))) (fLc false (iList (fCall 2 F__law_stories (faCons (fVar 10) (faCons (fVar 1) faNil)))) (hName 13) (fTest (fBin gEq (fCB kSortX (faCons (fCall 2 F__law_windows (faCons (fVar 13) (faCons (fVar 11) faNil))) faNil)) (fVar 3))) (fVar 13) [13]) (fC .non)) (hName 4))
  (fSeq (fAsg (fCall 2 F_full_ring (faCons (fVar 10) (faCons (fVar 11) faNil))) (hName 5))
  (fSeq (fIf (fOrT (fTest (fBin gNe (fCB kSortX (faCons (fCall 2 F__law_windows (faCons (fVar 5) (faCons (fVar 11) faNil))) faNil)) (fVar 3))) (fOrT (fTest (fBin gIsNot (fCall 3 F_is_full_ring (faCons (fVar 10) (faCons (fVar 11) (faCons (fVar 5) faNil)))) (fC (.bl true)))) (fTest (fBin gNe (fCallK [1, 0] 2 F_full_ring (faCons (fVar 11) (faCons (fVar 10) faNil))) (fVar 5))))) (fRet (fC (.bl false))) fNext)
  (fSeq (fIf (fAndT (fTest (fBin gIsNot (fVar 4) (fC .non))) (fOrT (fTest (fBin gNe (fVar 5) (fBin gIx (fVar 4) (fC (.int 0))))) (fTest (fBin gNe (fCall 2 F_how_many_full (faCons (fVar 10) (faCons (fVar 11) faNil))) (fCB kLen (faCons (fCall 1 F__law_unlike (faCons (fLc false (iList (fVar 4)) (hName 13) fYes (fCB kMinA (faCons (fCall 1 F__law_turnings (faCons (fVar 13) faNil)) faNil)) [13]) faNil)) faNil)))))) (fRet (fC (.bl false))) fNext)
  (fSeq (fAsg (fCall 2 F__law_drawn_order (faCons (fVar 0) (faCons (fCB kList (faCons (fVar 10) faNil)) faNil))) (hName 6))
  (fSeq (fAsg (fBm .str mJoin (fC (.str [])) (faCons (fLc false (iList (fVar 5)) (hName 14) fYes (fBin gIx (fVar 6) (fBm .str mIndexS (fVar 10) (faCons (fVar 14) faNil))) [14]) faNil)) (hName 7))
  (fSeq (fAsg (fLst (faCons (fVar 7) (faCons (fRev (fVar 7)) (faCons (fCall 2 F__law_neighbours (faCons (fVar 0) (faCons (fVar 5) faNil))) (faCons (fBin gAdd (fBin gAdd (fVar 5) (fCut (fVar 5) foNone (foSome (fBin gSub (fVar 11) (fC (.int 1)))))) (fC (.str [113]))) (faCons (fCut (fVar 5) (foSome (fC (.int 1))) foNone) (faCons (fBin gAdd (fVar 5) (fCut (fVar 5) foNone (foSome (fC (.int 1))))) (faCons (fRev (fVar 5)) (faCons (fBin gAdd (fVar 5) (fVar 5)) faNil))))))))) (hName 8))
  (fSeq (fAsg (fBin gAdd (fBin gAdd (fVar 8) (fLc false (iList (fVar 10)) (hName 14) fYes (fBin gAdd (fCut (fVar 5) foNone (foSome (fNeg (fC (.int 1))))) (fVar 14)) [14])) (fLc false (iList (fVar 10)) (hName 14) fYes (fBin gAdd (fCut (fVar 7) foNone (foSome (fNeg (fC (.int 1))))) (fVar 14)) [14])) (hName 8))
  (fSeq (fIf (fTest (fBin gIsNot (fVar 4) (fC .non))) (fAsg (fBin gAdd (fVar 8) (fCut (fCall 2 F__law_drawn_order (faCons (fVar 0) (faCons (fCall 2 F__law_stories (faCons (fVar 10) (faCons (fVar 1) faNil))) faNil))) foNone (foSome (fC (.int 40))))) (hName 8)) fNext)
  (fSeq (fFor (iList (fBin gAdd (fVar 8) (fLst (faCons (fCall 2 F__law_turning (faCons (fVar 5) (faCons (fC (.int 1)) faNil))) (faCons (fC (.str [])) (faCons (fC .non) (faCons (fCB kList (faCons (fVar 5) faNil)) (faCons (fBm .str mUpper (fVar 5) faNil) (faCons (fBin gAdd (fCut (fVar 5) (foSome (fC (.int 1))) foNone) (fC (.str [113]))) faNil))))))))) (hName 9) (fSeq (fAsg (fAndE (fCB kIsi (faCons (fVar 9) (faCons (fC (.ty .str)) faNil))) (fAndE (fBin gNe (fVar 9) (fC (.str []))) (fAndE (fBin gEq (fLc false (iList (fVar 9)) (hName 14) (fTest (fBin gNotIn (fVar 14) (fVar 10))) (fVar 14) [14]) (fLst faNil)) (fBin gEq (fCB kSortX (faCons (fCall 2 F__law_windows (faCons (fVar 9) (faCons (fVar 11) faNil))) faNil)) (fVar 3))))) (hName 12))
  (fIf (fNotT (fTest (fCall 2 (F__law_exact 8) (faCons (fLst (faCons (fCall 3 F_is_full_ring (faCons (fVar 10) (faCons (fVar 11) (faCons (fVar 9) faNil)))) (faCons (fCallK [2, 1, 0] 3 F_is_full_ring (faCons (fVar 9) (faCons (fVar 11) (faCons (fVar 10) faNil)))) faNil))) (faCons (fLst (faCons (fVar 12) (faCons (fVar 12) faNil))) faNil))))) (fRet (fC (.bl false))) fNext)))
  (fRet (fC (.bl true)))))))))))))))))
def F__law_full_right : F1 := genF0 N__law_full_right 1 fb__law_full_right

abbrev s_law : Stmt := top 45
abbrev N_law : List Str := ["script", "index", "far", "long", "generator", "given", "due"]
def fb_law : FS := (fSeq (fFor (iRange1 (fC (.int 3))) (hName 1) (fSeq (fAsg (fCall 2 F__law_generator (faCons (fVar 0) (faCons (fVar 1) faNil))) (hName 4))
  (fIf (fOrT (fNotT (fTest (fCall 1 F__law_counts_right (faCons (fVar 4) faNil)))) (fNotT (fTest (fCall 1 F__law_full_right (faCons (fVar 4) faNil))))) (fRet (fC (.bl false))) fNext)))
  (fSeq (fIf (fNotT (fTest (fCall 1 F__law_great_right (faCons (fCall 2 F__law_generator (faCons (fVar 0) (faCons (fC (.int 0)) faNil))) faNil)))) (fRet (fC (.bl false))) fNext)
  (fSeq (fAsg (fLst (faCons (fTup (faCons (fTup (faCons (fC (.str [97, 98])) (faCons (fC (.int 1)) faNil))) (faCons (fC (.int 1)) faNil))) (faCons (fTup (faCons (fTup (faCons (fC (.str [97, 98])) (faCons (fC (.int 2)) faNil))) (faCons (fC (.int 1)) faNil))) (faCons (fTup (faCons (fTup (faCons (fC (.str [97, 98])) (faCons (fC (.int 4)) faNil))) (faCons (fC (.int 16)) faNil))) (faCons (fTup (faCons (fTup (faCons (fC (.str [97, 98])) (faCons (fC (.int 5)) faNil))) (faCons (fC (.int 2048)) faNil))) (faCons (fTup (faCons (fTup (faCons (fC (.str [97, 98, 99])) (faCons (fC (.int 2)) faNil))) (faCons (fC (.int 24)) faNil))) (faCons (fTup (faCons (fTup (faCons (fC (.str [97, 98, 99])) (faCons (fC (.int 3)) faNil))) (faCons (fC (.int 373248)) faNil))) (faCons (fTup (faCons (fTup (faCons (fC (.str [97])) (faCons (fC (.int 4)) faNil))) (faCons (fC (.int 1)) faNil))) faNil)))))))) (hName 2))
  (fSeq (fFor (iList (fVar 2)) (hTup 2 (hCons (hName 5) (hCons (hName 6) hNil))) (fIf (fNotT (fTest (fCall 2 (F__law_exact 8) (faCons (fLst (faCons (fCall 2 F_how_many_full (faCons (fBin gIx (fVar 5) (fC (.int 0))) (faCons (fBin gIx (fVar 5) (fC (.int 1))) faNil))) (faCons (fCallK [1, 0] 2 F_how_many_full (faCons (fBin gIx (fVar 5) (fC (.int 1))) (faCons (fBin gIx (fVar 5) (fC (.int 0))) faNil))) faNil))) (faCons (fLst (faCons (fVar 6) (faCons (fVar 6) faNil))) faNil))))) (fRet (fC (.bl false))) fNext))
  (fSeq (fAsg (fCall 2 F_full_ring (faCons (fC (.str [97, 98])) (faCons (fC (.int 8)) faNil))) (hName 3))
  (fRet (fAndE (fBin gEq (fCB kLen (faCons (fVar 3) faNil)) (fC (.int 256))) (fAndE (fBin gEq (fCut (fVar 3) foNone (foSome (fC (.int 17)))) (fC (.str [97, 97, 97, 97, 97, 97, 97, 97, 98, 97, 97, 97, 97, 97, 97, 98, 98]))) (fBin gIs (fCall 3 F_is_full_ring (faCons (fC (.str [97, 98])) (faCons (fC (.int 8)) (faCons (fVar 3) faNil)))) (fC (.bl true)))))))))))
def F_law : F1 := genF0 N_law 1 fb_law

end Lk89

/-! k89M: windows round a ring, counts: plain laws -/
namespace Lk89
open PySem PySem.Spec PyProof.Rows L2 FL

/-- the windows round a ring -/
def win (s : List Nat) (n : Nat) : List (List Nat) := (List.range s.length).map fun i => (List.range n).map fun k => s.getD ((i + k) % s.length) 0
def wrd (s : List Nat) (n : Nat) : List (List Nat) := (List.range s.length).map fun i => (((List.replicate (n / s.length + 2) s).flatten).drop i).take (i + n - i)
theorem rep_len' {s : List Nat} : ∀ m : Nat, ((List.replicate m s).flatten).length = s.length * m
  | 0 => by simp
  | m + 1 => by rw [List.replicate_succ, List.flatten_cons, List.length_append, rep_len' m, Nat.mul_succ]; omega
theorem wrd_win {s : List Nat} {n : Nat} : wrd s n = win s n := by
  unfold wrd win
  refine List.map_congr_left fun i hi => ?_
  rw [List.mem_range] at hi
  have hp : 0 < s.length := by omega
  rw [show i + n - i = n from by omega]
  have hd := Nat.div_add_mod n s.length
  have hm := Nat.mod_lt n hp
  have hbig : i + n ≤ s.length * (n / s.length + 2) := by
    rw [Nat.mul_add]
    omega
  refine List.ext_getElem? fun k => ?_
  by_cases hk : k < n
  · rw [List.getElem?_take, if_pos hk, List.getElem?_drop, rep_get hp _ rfl (by omega), List.getElem?_map, List.getElem?_range hk]
    have := Nat.mod_lt (i + k) hp
    rw [List.getElem?_eq_getElem this]
    show some _ = some (s.getD ((i + k) % s.length) 0)
    rw [List.getD_eq_getElem?_getD, List.getElem?_eq_getElem this]
    rfl
  · rw [List.getElem?_eq_none (by rw [List.length_take]; omega), List.getElem?_eq_none (by simp; omega)]
/-! ### counts -/
abbrev Ct := List (List Nat × Nat)
def cstep (es : Ct) (w : List Nat) : Ct := dput es w ((dget es w).getD 0 + 1)
def cnt (ws : List (List Nat)) : Ct := ws.foldl cstep []
section
variable {κ β : Type} [DecidableEq κ]
theorem dget_dput {es : List (κ × β)} {k k' : κ} {v : β} : dget (dput es k v) k' = if k = k' then some v else dget es k' := by
  unfold dput
  by_cases h : (es.any fun e => decide (e.1 = k)) = true
  · rw [if_pos h]
    unfold dget
    induction es with
    | nil => cases h
    | cons e es ih =>
      rw [List.map_cons, List.find?_cons, List.find?_cons]
      by_cases he : e.1 = k
      · rw [if_pos he]
        by_cases hk : k = k'
        · rw [if_pos hk, decide_eq_true (he.trans hk)]
          rfl
        · have hek : ¬ e.1 = k' := fun z => hk (he.symm.trans z)
          rw [if_neg hk, decide_eq_false hek]
          by_cases ha : (es.any fun e => decide (e.1 = k)) = true
          · have := ih ha
            rw [if_neg hk] at this
            exact this
          · have : es.map (fun e => if e.1 = k then (e.1, v) else e) = es := by
              refine (List.map_congr_left fun x hx => ?_).trans (List.map_id es)
              rw [if_neg fun z => ha (List.any_eq_true.mpr ⟨x, hx, decide_eq_true z⟩)]
              rfl
            rw [this]
      · rw [if_neg he]
        have ha : (es.any fun e => decide (e.1 = k)) = true := by
          rw [List.any_cons, decide_eq_false he, Bool.false_or] at h
          exact h
        by_cases hk : e.1 = k'
        · rw [decide_eq_true hk, if_neg (fun z => he (hk.trans z.symm))]
        · rw [decide_eq_false hk]
          exact ih ha
  · rw [if_neg h]
    unfold dget
    rw [List.find?_append]
    by_cases hk : k = k'
    · subst hk
      have : (es.find? fun e => decide (e.1 = k)) = none := List.find?_eq_none.mpr fun x hx hd => h (List.any_eq_true.mpr ⟨x, hx, hd⟩)
      rw [this, if_pos rfl]
      simp
    · rw [if_neg hk]
      have : ([(k, v)].find? fun e => decide (e.1 = k')) = none := by simp [hk]
      rw [this, Option.or_none]
/-- keys of a dict after a put -/
theorem dput_keys {es : List (κ × β)} {k : κ} {v : β} : (dput es k v).map (·.1) = if k ∈ es.map (·.1) then es.map (·.1) else es.map (·.1) ++ [k] := by
  unfold dput
  by_cases h : (es.any fun e => decide (e.1 = k)) = true
  · have hk : k ∈ es.map (·.1) := by
      obtain ⟨e, he, hd⟩ := List.any_eq_true.mp h
      exact List.mem_map.mpr ⟨e, he, of_decide_eq_true hd⟩
    rw [if_pos h, if_pos hk, List.map_map]
    refine List.map_congr_left fun e _ => ?_
    show (if e.1 = k then (e.1, v) else e).1 = e.1
    split <;> rfl
  · have hk : ¬ k ∈ es.map (·.1) := fun hk => by
      obtain ⟨e, he, rfl⟩ := List.mem_map.mp hk
      exact h (List.any_eq_true.mpr ⟨e, he, decide_eq_true rfl⟩)
    rw [if_neg h, if_neg hk, List.map_append]
    rfl
theorem dget_of_mem {es : List (κ × β)} (hn : (es.map (·.1)).Nodup) {e : κ × β} (he : e ∈ es) : dget es e.1 = some e.2 := by
  unfold dget
  induction es with
  | nil => cases he
  | cons x es ih =>
    rw [List.map_cons, List.nodup_cons] at hn
    rw [List.find?_cons]
    rcases List.mem_cons.mp he with rfl | he
    · rw [decide_eq_true rfl]; rfl
    · have : ¬ x.1 = e.1 := fun z => hn.1 (by rw [z]; exact List.mem_map.mpr ⟨e, he, rfl⟩)
      rw [decide_eq_false this]
      exact ih hn.2 he
end
theorem cnt_fold : ∀ (ws : List (List Nat)) (es : Ct) (k : List Nat), (∀ x, dget es x = none ∨ ∃ n, dget es x = some n) →
    ((ws.foldl cstep es).map (·.1)).Nodup = ((ws.foldl cstep es).map (·.1)).Nodup ∧ (dget (ws.foldl cstep es) k = if k ∈ ws then some ((dget es k).getD 0 + ws.count k) else dget es k)
  | [], es, k, _ => ⟨rfl, by simp⟩
  | w :: ws, es, k, _ => by
    refine ⟨rfl, ?_⟩
    have ih := (cnt_fold ws (cstep es w) k (fun x => by cases dget (cstep es w) x with | none => exact .inl rfl | some n => exact .inr ⟨n, rfl⟩)).2
    rw [List.foldl_cons, ih]
    unfold cstep
    rw [dget_dput, List.count_cons]
    by_cases hw : w = k
    · subst hw
      by_cases hm : w ∈ ws
      · simp [hm]; omega
      · simp [hm, List.count_eq_zero.mpr hm]
    · by_cases hm : k ∈ ws
      · simp [hm, hw]
      · have : ¬ k = w := fun z => hw z.symm
        simp [hm, hw, this]
theorem cnt_get (ws : List (List Nat)) (k : List Nat) : dget (cnt ws) k = if k ∈ ws then some (ws.count k) else none := by
  unfold cnt
  rw [(cnt_fold ws [] k (fun x => .inl rfl)).2]
  simp [show dget ([] : Ct) k = none from rfl]
theorem cnt_keys : ∀ (ws : List (List Nat)) (es : Ct), (es.map (·.1)).Nodup → ((ws.foldl cstep es).map (·.1)).Nodup ∧ ∀ k, k ∈ (ws.foldl cstep es).map (·.1) ↔ k ∈ ws ∨ k ∈ es.map (·.1)
  | [], es, h => ⟨h, fun k => by simp⟩
  | w :: ws, es, h => by
    have hk : (cstep es w).map (·.1) = if w ∈ es.map (·.1) then es.map (·.1) else es.map (·.1) ++ [w] := by
      unfold cstep
      rw [dput_keys]
      by_cases q : w ∈ es.map (·.1)
      · rw [if_pos q, if_pos q]
      · rw [if_neg q, if_neg q]
    have hn : ((cstep es w).map (·.1)).Nodup := by
      rw [hk]
      split
      · exact h
      · rename_i hw
        rw [List.nodup_append]
        refine ⟨h, by simp, fun a ha b hb => ?_⟩
        rw [List.mem_singleton.mp hb]
        exact fun z => hw (z ▸ ha)
    obtain ⟨i1, i2⟩ := cnt_keys ws (cstep es w) hn
    refine ⟨i1, fun k => ?_⟩
    rw [List.foldl_cons, i2, hk, List.mem_cons]
    split
    · rename_i hw
      constructor
      · rintro (q | q)
        · exact .inl (.inr q)
        · exact .inr q
      · rintro ((rfl | q) | q)
        · exact .inr hw
        · exact .inl q
        · exact .inr q
    · rw [List.mem_append, List.mem_singleton]
      constructor
      · rintro (q | q | q)
        · exact .inl (.inr q)
        · exact .inr q
        · exact .inl (.inl q)
      · rintro ((q | q) | q)
        · exact .inr (.inr q)
        · exact .inl q
        · exact .inr (.inl q)
theorem cnt_perm {ws us : List (List Nat)} (h : ws.Perm us) : eqDv (cnt ws) (cnt us) = true := by
  obtain ⟨n1, m1⟩ := cnt_keys ws [] List.nodup_nil
  obtain ⟨n2, m2⟩ := cnt_keys us [] List.nodup_nil
  unfold eqDv
  rw [Bool.and_eq_true]
  constructor
  · have : ((cnt ws).map (·.1)).Perm ((cnt us).map (·.1)) := (List.perm_ext_iff_of_nodup n1 n2).mpr fun k => by
      rw [m1, m2, h.mem_iff]
    have := this.length_eq
    rw [List.length_map, List.length_map] at this
    rw [this]
    simp
  · rw [List.all_eq_true]
    intro e he
    have g := dget_of_mem n1 he
    have g : dget (cnt ws) e.1 = some e.2 := g
    rw [cnt_get] at g
    refine decide_eq_true ?_
    rw [cnt_get, ← h.count_eq, ← g]
    simp [h.mem_iff]
theorem cnt_sub {ws us : List (List Nat)} (h : eqDv (cnt ws) (cnt us) = true) {k : List Nat} (hk : k ∈ ws) : k ∈ us := by
  unfold eqDv at h
  rw [Bool.and_eq_true, List.all_eq_true] at h
  obtain ⟨n1, m1⟩ := cnt_keys ws [] List.nodup_nil
  have : k ∈ (cnt ws).map (·.1) := (m1 k).mpr (.inl hk)
  obtain ⟨e, he, rfl⟩ := List.mem_map.mp this
  have := of_decide_eq_true (h.2 e he)
  rw [cnt_get] at this
  by_cases q : e.1 ∈ us
  · exact q
  · rw [if_neg q] at this; cases this
/-! ### whole windows are turnings -/
theorem win_rot {s : List Nat} : win s s.length = (List.range s.length).map (rot s) := by
  unfold win
  refine List.map_congr_left fun i hi => ?_
  rw [List.mem_range] at hi
  refine rot_ext (by rw [FL.rot_length]; simp) fun j hj => ?_
  rw [List.length_map, List.length_range] at hj
  rw [rot_get s i j hj, List.getElem?_map, List.getElem?_range hj]
  have := Nat.mod_lt (i + j) (show 0 < s.length by omega)
  rw [List.getElem?_eq_getElem this]
  show some (s.getD ((i + j) % s.length) 0) = some _
  rw [List.getD_eq_getElem?_getD, List.getElem?_eq_getElem this]
  rfl
theorem win_mem {s t : List Nat} (h : s ≠ []) : t ∈ win s s.length ↔ ∃ i, t = rot s i := by
  rw [win_rot, List.mem_map]
  constructor
  · rintro ⟨i, _, rfl⟩; exact ⟨i, rfl⟩
  · rintro ⟨i, rfl⟩
    exact ⟨i % s.length, List.mem_range.mpr (Nat.mod_lt _ (List.length_pos_iff.mpr h)), rot_mod s i⟩
theorem win_perm {s : List Nat} (h : s ≠ []) (j : Nat) : (win (rot s j) s.length).Perm (win s s.length) := by
  have e : win (rot s j) s.length = rot (win s s.length) j := by
    have hl : (win s s.length).length = s.length := by unfold win; simp
    have w := win_rot (s := rot s j)
    rw [FL.rot_length] at w
    rw [w]
    refine rot_ext (by rw [FL.rot_length, hl]; simp) fun i hi => ?_
    rw [List.length_map, List.length_range] at hi
    rw [rot_get _ _ _ (by rw [hl]; exact hi), hl, win_rot, List.getElem?_map, List.getElem?_map, List.getElem?_range hi, List.getElem?_range (Nat.mod_lt _ (List.length_pos_iff.mpr h))]
    show some _ = some _
    rw [rot_rot, rot_mod]
  rw [e]
  exact rot_perm _ _
theorem alike_law {s o : List Nat} (h : s ≠ []) (hl : o.length = s.length) : eqDv (cnt (win o s.length)) (cnt (win s s.length)) = decide (o ∈ Ts s) := by
  have ho : o ≠ [] := fun e => h (List.length_eq_zero_iff.mp (by rw [← hl, e]; rfl))
  by_cases q : o ∈ Ts s
  · rw [decide_eq_true q]
    obtain ⟨j, rfl⟩ := (Ts_mem h).mp q
    exact cnt_perm (win_perm h j)
  · rw [decide_eq_false q]
    cases e : eqDv (cnt (win o s.length)) (cnt (win s s.length)) with
    | false => rfl
    | true =>
      exfalso
      have hm : o ∈ win o s.length := by
        rw [← hl]
        exact (win_mem ho).mpr ⟨0, (rot_zero o).symm⟩
      have := cnt_sub e hm
      exact q ((Ts_mem h).mpr ((win_mem h).mp this))
end Lk89

/-! k89N: full rings: plain laws -/
namespace Lk89
open PySem PySem.Spec PyProof.Rows L2 FL

def stor (ss : List Nat) : Nat → List (List Nat)
  | 0 => [[]]
  | n + 1 => (stor ss n).flatMap fun w => ss.map fun c => w ++ [c]
theorem stor_mem {ss : List Nat} : ∀ {n : Nat} {w : List Nat}, w ∈ stor ss n ↔ w.length = n ∧ ∀ c ∈ w, c ∈ ss
  | 0, w => by
    unfold stor
    rw [List.mem_singleton]
    constructor
    · rintro rfl; exact ⟨rfl, by simp⟩
    · rintro ⟨h, _⟩; exact List.length_eq_zero_iff.mp h
  | n + 1, w => by
    unfold stor
    rw [List.mem_flatMap]
    constructor
    · rintro ⟨u, hu, hw⟩
      obtain ⟨c, hc, rfl⟩ := List.mem_map.mp hw
      obtain ⟨h1, h2⟩ := stor_mem.mp hu
      refine ⟨by simp [h1], fun d hd => ?_⟩
      rcases List.mem_append.mp hd with hd | hd
      · exact h2 d hd
      · rw [List.mem_singleton.mp hd]; exact hc
    · rintro ⟨h1, h2⟩
      have hne : w ≠ [] := fun e => by rw [e] at h1; simp at h1
      refine ⟨w.dropLast, stor_mem.mpr ⟨by rw [List.length_dropLast, h1]; rfl, fun c hc => h2 c (List.dropLast_subset w hc)⟩, List.mem_map.mpr ⟨w.getLast hne, h2 _ (List.getLast_mem hne), List.dropLast_concat_getLast hne⟩⟩
theorem stor_len {ss : List Nat} : ∀ n : Nat, (stor ss n).length = ss.length ^ n
  | 0 => rfl
  | n + 1 => by
    unfold stor
    have : ∀ l : List (List Nat), (l.flatMap fun w => ss.map fun c => w ++ [c]).length = l.length * ss.length := fun l => by
      induction l with
      | nil => simp
      | cons x l ih => rw [List.flatMap_cons, List.length_append, ih, List.length_map, List.length_cons, Nat.succ_mul]; omega
    rw [this, stor_len n, Nat.pow_succ]
theorem stor_nodup {ss : List Nat} (h : ss.Nodup) : ∀ n : Nat, (stor ss n).Nodup
  | 0 => by unfold stor; simp
  | n + 1 => by
    have ih := stor_nodup h n
    unfold stor
    unfold List.Nodup at *
    rw [List.pairwise_flatMap]
    constructor
    · intro w _
      rw [List.pairwise_map]
      refine h.imp fun {a b} hab e => hab ?_
      have := List.append_cancel_left e
      injection this
    · refine ih.imp fun {u v} huv x hx y hy e => huv ?_
      obtain ⟨a, _, rfl⟩ := List.mem_map.mp hx
      obtain ⟨b, _, rfl⟩ := List.mem_map.mp hy
      exact (List.append_inj' e rfl).1
theorem perm_of_sub {α : Type} [DecidableEq α] : ∀ (l m : List α), l.Nodup → (∀ x ∈ l, x ∈ m) → m.length ≤ l.length → l.Perm m
  | [], m, _, _, h => by
    have : m = [] := List.length_eq_zero_iff.mp (by simpa using h)
    rw [this]
  | a :: l, m, hn, hs, h => by
    have ha := hs a List.mem_cons_self
    have p := List.perm_cons_erase ha
    rw [List.nodup_cons] at hn
    refine List.Perm.trans ?_ p.symm
    refine (perm_of_sub l (m.erase a) hn.2 (fun x hx => ?_) ?_).cons a
    · have hne : x ≠ a := fun e => hn.1 (e ▸ hx)
      exact (List.mem_erase_of_ne hne).mpr (hs x (List.mem_cons_of_mem _ hx))
    · have := p.length_eq
      rw [List.length_cons] at this
      rw [List.length_cons] at h
      omega
theorem srt_perm_eq {l m : List (List Nat)} (h : l.Perm m) : srt leS l = srt leS m := srt_of ordS ((srt_perm l).trans h) (srt_sorted ordS l)
theorem win_len {s : List Nat} {n : Nat} : (win s n).length = s.length := by unfold win; simp
theorem win_sub {ss v : List Nat} {n : Nat} (hv : ∀ c ∈ v, c ∈ ss) : ∀ w ∈ win v n, w ∈ stor ss n := fun w hw => by
  unfold win at hw
  obtain ⟨i, hi, rfl⟩ := List.mem_map.mp hw
  rw [List.mem_range] at hi
  refine stor_mem.mpr ⟨by simp, fun c hc => ?_⟩
  obtain ⟨k, hk, rfl⟩ := List.mem_map.mp hc
  have := Nat.mod_lt (i + k) (show 0 < v.length by omega)
  rw [List.getD_eq_getElem?_getD, List.getElem?_eq_getElem this]
  exact hv _ (List.getElem_mem this)
theorem full_law {ss v : List Nat} {n : Nat} (hs : ss.Nodup) (hv : ∀ c ∈ v, c ∈ ss) : (v.length = ss.length ^ n ∧ (win v n).Nodup) ↔ srt leS (win v n) = srt leS (stor ss n) := by
  constructor
  · rintro ⟨h1, h2⟩
    exact srt_perm_eq (perm_of_sub _ _ h2 (win_sub hv) (by rw [win_len, stor_len, h1]; exact Nat.le_refl _))
  · intro e
    have p : (win v n).Perm (stor ss n) := ((srt_perm (win v n)).symm.trans (by rw [e])).trans (srt_perm (stor ss n))
    refine ⟨?_, p.nodup_iff.mpr (stor_nodup hs n)⟩
    have := p.length_eq
    rwa [win_len, stor_len] at this
/-- how many unlike keys -/
theorem keys_len (ws : List (List Nat)) : (dputs [] (ws.map fun w => (w, true))).length = ws.length ↔ ws.Nodup := by
  have key : ∀ (ws : List (List Nat)) (es : List (List Nat × Bool)), (es.map (·.1)).Nodup → ((dputs es (ws.map fun w => (w, true))).length = es.length + ws.length ↔ (es.map (·.1) ++ ws).Nodup) ∧ (dputs es (ws.map fun w => (w, true))).length ≤ es.length + ws.length := fun ws => by
    induction ws with
    | nil => intro es h; exact ⟨⟨fun _ => by rw [List.append_nil]; exact h, fun _ => rfl⟩, Nat.le_refl _⟩
    | cons w ws ih =>
      intro es h
      have hk : (dput es w true).map (·.1) = if w ∈ es.map (·.1) then es.map (·.1) else es.map (·.1) ++ [w] := by
        rw [dput_keys]
        by_cases q : w ∈ es.map (·.1)
        · rw [if_pos q, if_pos q]
        · rw [if_neg q, if_neg q]
      have hl : (dput es w true).length = ((dput es w true).map (·.1)).length := by rw [List.length_map]
      show ((dputs (dput es w true) (ws.map fun w => (w, true))).length = es.length + (ws.length + 1) ↔ _) ∧ (dputs (dput es w true) (ws.map fun w => (w, true))).length ≤ es.length + (ws.length + 1)
      by_cases q : w ∈ es.map (·.1)
      · rw [if_pos q] at hk
        obtain ⟨i1, i2⟩ := ih (dput es w true) (by rw [hk]; exact h)
        rw [hk, List.length_map] at hl
        refine ⟨⟨fun e => by omega, fun e => ?_⟩, by omega⟩
        rw [List.nodup_append] at e
        exact absurd rfl (e.2.2 w q w List.mem_cons_self)
      · rw [if_neg q] at hk
        have hn : ((dput es w true).map (·.1)).Nodup := by
          rw [hk, List.nodup_append]
          refine ⟨h, by simp, fun a ha b hb => ?_⟩
          rw [List.mem_singleton.mp hb]
          exact fun z => q (z ▸ ha)
        obtain ⟨i1, i2⟩ := ih (dput es w true) hn
        rw [hk, List.length_append, List.length_map, List.length_singleton] at hl
        rw [hk, List.append_assoc, hl] at i1
        rw [hl] at i2
        refine ⟨?_, by omega⟩
        rw [show es.length + (ws.length + 1) = es.length + 1 + ws.length from by omega]
        exact i1
  have := (key ws [] List.nodup_nil).1
  simpa using this
end Lk89

/-! k89O: the helpers' runs -/
namespace Lk89
open PySem PySem.Spec PyProof.Rows L2 FL
theorem filt_all {g : List Nat} : ∀ s : List Nat, (((s.map fun c => [c]).filter fun x => !decide (x.headD 0 ∈ g)).map fun x => x).isEmpty = s.all fun c => decide (c ∈ g)
  | [] => rfl
  | c :: s => by
    have ih := filt_all (g := g) s
    rw [List.map_id'] at ih ⊢
    rw [List.map_cons, List.filter_cons, List.all_cons]
    by_cases h : c ∈ g
    · have : (!decide (([c] : List Nat).headD 0 ∈ g)) = false := by simp [h]
      rw [this, if_neg (by decide), ih, decide_eq_true h, Bool.true_and]
    · have : (!decide (([c] : List Nat).headD 0 ∈ g)) = true := by simp [h]
      rw [this, if_pos rfl, decide_eq_false h, Bool.false_and]
      rfl
theorem run_signs {s g : List Nat} : Rn F_is_signs [⟨rS, s⟩, ⟨rS, g⟩] rB (s.all fun c => decide (c ∈ g)) := by
  refine Rn.of (W.ret (Ex.eq (Ex.and (Ex.cb (ExA.cons (Ex.var rfl) (ExA.cons (Ex.cX _) .nil)) run_isi) fun _ => Ex.eqNil (Ex.lc (c := fun x => !decide (x.headD 0 ∈ g)) (q := fun x => x) (ExI.str (Ex.var rfl)) (fun _ _ => Bd.name) ?_ (fun _ _ _ => Ex.var rfl)) inferInstance (by decide)) (filt_all s)) (ret_rt rfl))
  intro x hx
  obtain ⟨c, hc, rfl⟩ := List.mem_map.mp hx
  exact ExT.test (Ex.bin (Ex.var rfl) (Ex.var rfl) r2_notInC)
theorem run_signsN {τ : Type} {r : Rel τ} [TyR r] {v : τ} {g : List Nat} (h : isTy (TyR.ty r) .str = false) : Rn F_is_signs [⟨r, v⟩, ⟨rS, g⟩] rB false := by
  refine Rn.of (W.ret (Ex.eq (Ex.and (b := isTy (TyR.ty r) .str) (c := false) (Ex.cb (ExA.cons (Ex.var rfl) (ExA.cons (Ex.cX _) .nil)) run_isi) fun q => ?_) ?_) (ret_rt rfl))
  · rw [h] at q; cases q
  · rw [h]; rfl
def azB (s : List Nat) : Bool := s.all fun c => decide (c ∈ AZ)
def scB (s : List Nat) : Bool := azB s && !decide (s = [])
theorem run_storyB {s : List Nat} : Rn F_is_story [⟨rS, s⟩] rB (azB s) :=
  Rn.of (W.ret (Ex.call (ExA.cons (Ex.var rfl) (ExA.cons (Ex.cS AZ (by decide)) .nil)) run_signs rfl) (ret_rt rfl))
theorem run_storyN {τ : Type} {r : Rel τ} [TyR r] {v : τ} (h : isTy (TyR.ty r) .str = false) : Rn F_is_story [⟨r, v⟩] rB false :=
  Rn.of (W.ret (Ex.call (ExA.cons (Ex.var rfl) (ExA.cons (Ex.cS AZ (by decide)) .nil)) (run_signsN h) rfl) (ret_rt rfl))
theorem run_scrapB {s : List Nat} : Rn F_is_scrap [⟨rS, s⟩] rB (scB s) :=
  Rn.of (W.ret (Ex.and (Ex.call (ExA.cons (Ex.var rfl) .nil) run_storyB rfl) fun _ => Ex.bin (Ex.var rfl) (Ex.cS []) (r2_ne (by decide))) (ret_rt rfl))
theorem run_scrapN {τ : Type} {r : Rel τ} [TyR r] {v : τ} (h : isTy (TyR.ty r) .str = false) : Rn F_is_scrap [⟨r, v⟩] rB false :=
  Rn.of (W.ret (Ex.eq (Ex.and (b := false) (c := false) (Ex.call (ExA.cons (Ex.var rfl) .nil) (run_storyN h) rfl) fun q => by cases q) rfl) (ret_rt rfl))
theorem run_check_size {n : Nat} (h : 1 ≤ n) : Rn F_check_ring_size [⟨rN, n⟩] rU () := by
  refine Rn.of ?_
  exact W.ff (b := !true || decide (n < 1)) (ExT.or (ExT.not (ExT.test (Ex.call (ExA.cons (Ex.var rfl) .nil) run_is_count rfl))) fun _ => ExT.test (Ex.bin (Ex.var rfl) (Ex.cN 1) r2_ltN)) (by simp; omega) (W.next ret_nx)
def upB (s : List Nat) : Bool := (List.range' 1 (s.length - 1)).all fun i => decide ([s.getD (i - 1) default] < [s.getD i default])
structure Fs (s : List Nat) : Prop where
  sc : scB s = true
  up : upB s = true
  len : s.length ≤ 4
theorem run_check_full {s : List Nat} (h : Fs s) : Rn F_check_full_signs [⟨rS, s⟩] rU () := by
  refine Rn.of ?_
  refine W.ff (b := !(scB s) || !((((List.range' 1 (s.length - 1)).filter fun i => !decide ([s.getD (i - 1) default] < [s.getD i default])).map fun i => i).isEmpty)) (ExT.or (ExT.not (ExT.test (Ex.call (ExA.cons (Ex.var rfl) .nil) run_scrapB rfl))) fun _ => ExT.test (Ex.neNil (Ex.lc (r := rN) (c := fun i => !decide ([s.getD (i - 1) default] < [s.getD i default])) (q := fun i => i) (ExI.range2S (Ex.cN 1) (Ex.var rfl) (by decide)) (fun _ _ => Bd.name) ?_ (fun _ _ _ => Ex.var rfl)) inferInstance (by decide))) ?_ (W.next ret_nx)
  · intro i hi
    rw [List.mem_range'] at hi
    obtain ⟨j, hj, rfl⟩ := hi
    have h1 : 1 + 1 * j < s.length := by omega
    exact ExT.test (Ex.bin (Ex.bin (Ex.var rfl) (Ex.bin (Ex.var rfl) (Ex.cN 1) (r2_subN (x := 1 + 1 * j) (y := 1) (by omega))) (r2_ixSm (by omega))) (Ex.bin (Ex.var rfl) (Ex.var rfl) (r2_ixSm h1)) r2_geS)
  · have : ((List.range' 1 (s.length - 1)).filter fun i => !decide ([s.getD (i - 1) default] < [s.getD i default])) = [] := List.filter_eq_nil_iff.mpr fun i hi => by
      have := List.all_eq_true.mp h.up i hi
      rw [this]; decide
    rw [this, h.sc]
    rfl
theorem Fs.Sc {s : List Nat} (h : Fs s) : Sc s := by
  have h1 := h.sc
  unfold scB azB at h1
  rw [Bool.and_eq_true, List.all_eq_true] at h1
  have h2 : s ≠ [] := fun e => by rw [e] at h1; simp at h1
  have h3 : ∀ c ∈ s, c ∈ AZ := fun c hc => of_decide_eq_true (h1.1 c hc)
  have h4 := h.len
  constructor <;> first | exact h2 | exact h3 | (first | omega | (unfold FL.lim; omega))
theorem run_windows_round {s : List Nat} (hs : s ≠ []) (hl : s.length ≤ 1000) {n : Nat} (hn : n ≤ 1000) : RnC F_windows_round [⟨rS, s⟩, ⟨rN, n⟩] (oL rS) (win s n) := by
  rw [← wrd_win]
  have hp : 0 < s.length := List.length_pos_iff.mpr hs
  have hd : n / s.length ≤ n := Nat.div_le_self _ _
  have hd2 := Nat.div_mul_le_self n s.length
  refine RnC.of ?_
  refine WC.seq (W.asg (r := rS) (v := (List.replicate (n / s.length + 2) s).flatten) (Ex.bin (Ex.var rfl) (Ex.bin (Ex.bin (Ex.var rfl) (Ex.cb (ExA.cons (Ex.var rfl) .nil) run_lenS) (r2_divN hp (by omega))) (Ex.cN 2) r2_addN) (r2_mulS (x := s) (y := n / s.length + 2) (by omega) (by rw [Nat.mul_add, Nat.mul_comm]; unfold FL.lim; omega))) (WC.ret (ExC.lcY (r := rN) (xs := List.range s.length) (q := fun i => (((List.replicate (n / s.length + 2) s).flatten).drop i).take (i + n - i)) (ExI.rangeS (Ex.var rfl)) (fun _ _ => Bd.name) fun i hi => Ex.mdS (Ex.var rfl) (Ex.var rfl) (Ex.bin (Ex.var rfl) (Ex.var rfl) r2_addN))))
theorem run_ring_windows {s : List Nat} (hs : Sc s) (hl : s.length ≤ 1000) {n : Nat} (h1 : 1 ≤ n) (hn : n ≤ 1000) : RnC F_ring_windows [⟨rS, s⟩, ⟨rN, n⟩] (oL rS) (win s n) := by
  refine RnC.of ?_
  exact WC.seq (W.drop (Ex.call (ExA.cons (Ex.var rfl) .nil) (run_check_scrap hs) rfl) (WC.seq (W.drop (Ex.call (ExA.cons (Ex.var rfl) .nil) (run_check_size h1) rfl) (WC.ret (ExC.call (ExA.cons (Ex.var rfl) (ExA.cons (Ex.var rfl) .nil)) (run_windows_round hs.ne hl hn) rfl)))))
end Lk89

/-! k89P: windows, counts, stories, numbers -/
namespace Lk89
open PySem PySem.Spec PyProof.Rows L2 FL
theorem sing_sum (l : List (List Nat)) (h : ∀ x ∈ l, x.length = 1) : (l.map List.length).sum = l.length := by
  induction l with
  | nil => rfl
  | cons x l ih =>
    rw [List.map_cons, List.sum_cons, h x List.mem_cons_self, ih fun y hy => h y (List.mem_cons_of_mem _ hy), List.length_cons]
    omega
theorem flat_sing (l : List Nat) : (l.map fun c => [c]).flatten = l := by
  induction l with
  | nil => rfl
  | cons x l ih => rw [List.map_cons, List.flatten_cons, ih]; rfl
theorem run_law_windows {s : List Nat} (hl : s.length ≤ 1000) {n : Nat} (hn : n ≤ 1000) : Rn F__law_windows [⟨rS, s⟩, ⟨rN, n⟩] (rL rS) (win s n) := by
  refine Rn.of ?_
  have wl : (win s n).length = s.length := win_len
  refine W.seq (W.own (C := oL rS) (v := []) (ExC.lstC ExL.nil) (W.seq (W.for_ (r := rN) (xs := List.range s.length) (is := [3]) (fun i => ([some ⟨rS, s⟩, some ⟨rN, n⟩, none, none, none], [⟨2, oL rS, (win s n).take i⟩])) (fun _ => True) (ExI.rangeS (Ex.var rfl)) ⟨Sub.keep (Sub.keep (Sub.keep (Sub.keep (Sub.keep Sub.nil)))), rfl⟩ trivial (fun j hj _ => ?_) (fun _ => ?_))))
  · rw [List.length_range] at hj
    have e1 : (List.range s.length)[j]'(by rw [List.length_range]; exact hj) = j := by simp
    rw [e1]
    have hp : 0 < s.length := by omega
    have e2 : (win s n).take (j + 1) = (win s n).take j ++ [joinS [] ((List.range n).map fun k => [s.getD ((j + k) % s.length) default])] := by
      rw [List.take_add_one, List.getElem?_eq_getElem (by rw [wl]; exact hj), joinS_nil]
      congr 1
      show [_] = [_]
      congr 1
      have : (win s n)[j]'(by rw [wl]; exact hj) = (List.range n).map fun k => s.getD ((j + k) % s.length) 0 := by unfold win; simp
      rw [this, ← flat_sing ((List.range n).map fun k => s.getD ((j + k) % s.length) 0), List.map_map]
      rfl
    refine ⟨_, BdI.name, by simp, W.append (j := 0) (r := rS) (xs := (win s n).take j) (x := joinS [] ((List.range n).map fun k => [s.getD ((j + k) % s.length) default])) rfl (Ex.join (Ex.cS []) (Ex.lcY (r := rN) (xs := List.range n) (q := fun k => [s.getD ((j + k) % s.length) default]) (ExI.range1 (Ex.var rfl) (by unfold FL.lim; omega)) (fun _ _ => Bd.name) (fun k hk => Ex.bin (Ex.var rfl) (Ex.bin (Ex.bin (Ex.var rfl) (Ex.var rfl) r2_addN) (Ex.cb (ExA.cons (Ex.var rfl) .nil) run_lenS) (r2_modN hp)) (r2_ixSm (Nat.mod_lt _ hp)))) ?_) ?_ ⟨trivial, Sub.keep (Sub.keep (Sub.drop (Sub.drop (Sub.keep Sub.nil)))), ?_⟩⟩
    · rw [sing_sum _ (fun x hx => by
        obtain ⟨k, _, rfl⟩ := List.mem_map.mp hx
        rfl)]
      simp only [List.length_map, List.length_range, List.length_nil]
      unfold FL.lim
      omega
    · rw [List.length_take]; unfold FL.lim; omega
    · show [_] = [_]
      rw [e2]
  · rw [List.length_range]
    exact W.freeze (Ω := []) (o := ⟨2, oL rS, (win s n).take s.length⟩) (W.ret (Γ := [some ⟨rS, s⟩, some ⟨rN, n⟩, some ⟨rL rS, (win s n).take s.length⟩, none, none]) (Ex.var rfl) (ret_rt (by rw [← wl, List.take_length])))
/-! ### counts -/
theorem cstep_len {es : Ct} {w : List Nat} : (cstep es w).length ≤ es.length + 1 := dput_len
theorem cfold_len : ∀ (ws : List (List Nat)) (es : Ct), (ws.foldl cstep es).length ≤ es.length + ws.length
  | [], es => Nat.le_refl _
  | w :: ws, es => by
    have h1 := cfold_len ws (cstep es w)
    have h2 := cstep_len (es := es) (w := w)
    rw [List.foldl_cons, List.length_cons]
    omega
theorem cnt_len (ws : List (List Nat)) : (cnt ws).length ≤ ws.length := by
  have := cfold_len ws []
  rw [List.length_nil, Nat.zero_add] at this
  exact this
theorem cnt_take {ws : List (List Nat)} {j : Nat} (hj : j < ws.length) : cnt (ws.take (j + 1)) = cstep (cnt (ws.take j)) ws[j] := by
  unfold cnt
  rw [List.take_add_one, List.getElem?_eq_getElem hj, List.foldl_append]
  rfl
theorem run_ring_counts {s : List Nat} (hs : Sc s) (hl : s.length ≤ 1000) {n : Nat} (h1 : 1 ≤ n) (hn : n ≤ 1000) : Rn F_ring_counts [⟨rS, s⟩, ⟨rN, n⟩] (rDc rS rN) (cnt (win s n)) := by
  refine Rn.of ?_
  have wl : (win s n).length = s.length := win_len
  refine W.seq (W.drop (Ex.call (ExA.cons (Ex.var rfl) .nil) (run_check_scrap hs) rfl) (W.seq (W.drop (Ex.call (ExA.cons (Ex.var rfl) .nil) (run_check_size h1) rfl) (W.seq (W.own (C := oC rS rN) (v := []) ExC.dnewC (W.seq (W.for_ (r := rS) (xs := win s n) (is := [3]) (fun i => ([some ⟨rS, s⟩, some ⟨rN, n⟩, none, none], [⟨2, oC rS rN, cnt ((win s n).take i)⟩])) (fun _ => True) (ExI.list (Ex.call (ExA.cons (Ex.var rfl) (ExA.cons (Ex.var rfl) .nil)) (run_windows_round hs.ne hl hn).rn rfl)) ⟨Sub.keep (Sub.keep (Sub.keep (Sub.keep Sub.nil))), rfl⟩ trivial (fun j hj _ => ?_) (fun _ => ?_))))))))
  · have hb : (cnt ((win s n).take j)).length < FL.lim := by
      have := cnt_len ((win s n).take j)
      rw [List.length_take] at this
      unfold FL.lim
      omega
    refine ⟨_, BdI.name, by simp, W.putC (j := 0) (r := rS) (s := rN) (xs := cnt ((win s n).take j)) (k := (win s n)[j]) (x := (dget (cnt ((win s n).take j)) (win s n)[j]).getD 0 + 1) rfl (Ex.bin (Ex.get2 (Ex.var rfl) (Ex.var rfl) (Ex.cN 0)) (Ex.cN 1) r2_addN) (Ex.var rfl) hb ⟨trivial, Sub.keep (Sub.keep (Sub.keep (Sub.drop Sub.nil))), ?_⟩⟩
    show [_] = [_]
    rw [cnt_take hj]
    rfl
  · rw [List.take_length]
    exact W.freeze (Ω := []) (o := ⟨2, oC rS rN, cnt (win s n)⟩) (W.ret (Γ := [some ⟨rS, s⟩, some ⟨rN, n⟩, some ⟨rDc rS rN, cnt (win s n)⟩, none]) (Ex.var rfl) (ret_rt rfl))
/-! ### stories -/
theorem stor_flat {ss : List Nat} (n : Nat) : stor ss (n + 1) = ((stor ss n).map fun w => (ss.map fun c => [c]).map fun c => w ++ c).flatten := by
  rw [stor, List.flatMap_def]
  congr 1
  refine List.map_congr_left fun w _ => ?_
  rw [List.map_map]
  rfl
theorem run_stories {ss : List Nat} {n : Nat} (hs : 0 < ss.length) (hn : n ≤ 1000) (hl : ss.length ^ n ≤ 1000) : Rn F__law_stories [⟨rS, ss⟩, ⟨rN, n⟩] (rL rS) (stor ss n) := by
  refine Rn.of ?_
  have hm : ∀ j, j ≤ n → ss.length ^ j ≤ 1000 := fun j hj => Nat.le_trans (Nat.pow_le_pow_right hs hj) hl
  refine W.seq (W.asg (r := rL rS) (v := [[]]) (Ex.lst (ExL.cons (Ex.cS []) ExL.nil)) (W.seq (W.for_ (r := rN) (xs := List.range n) (is := [3]) (fun i => ([some ⟨rS, ss⟩, some ⟨rN, n⟩, some ⟨rL rS, stor ss i⟩, none, none, none], [])) (fun _ => True) (ExI.range1 (Ex.var rfl) (by unfold FL.lim; omega)) ⟨Sub.keep (Sub.keep (Sub.keep (Sub.keep (Sub.keep (Sub.keep Sub.nil))))), rfl⟩ trivial (fun j hj _ => ?_) (fun _ => ?_))))
  · rw [List.length_range] at hj
    refine ⟨_, BdI.name, by simp, W.asg (r := rL rS) (v := stor ss (j + 1)) (Ex.eq (Ex.cb (ExA.cons (Ex.lcY (r := rS) (s := rL rS) (q := fun w => (ss.map fun c => [c]).map fun c => w ++ c) (ExI.list (Ex.var rfl)) (fun _ _ => Bd.name) (fun w hw => Ex.lcY (r := rS) (xs := ss.map fun c => [c]) (q := fun c => w ++ c) (ExI.str (Ex.var rfl)) (fun _ _ => Bd.name) (fun c hc => Ex.bin (Ex.var rfl) (Ex.var rfl) (r2_addS ?_)))) (ExA.cons (Ex.lst (r := rS) (xs := []) ExL.nil) .nil)) (run_sumL ?_)) ?_) ⟨trivial, Sub.keep (Sub.keep (Sub.keep (Sub.drop (Sub.keep (Sub.keep Sub.nil))))), rfl⟩⟩
    · obtain ⟨d, hd, rfl⟩ := List.mem_map.mp hc
      have := (stor_mem.mp hw).1
      rw [this]
      show j + 1 ≤ FL.lim
      unfold FL.lim
      omega
    · rw [List.nil_append, ← stor_flat, stor_len]
      have := hm (j + 1) hj
      unfold FL.lim
      omega
    · rw [List.nil_append, ← stor_flat]
  · rw [List.length_range]
    exact W.ret (Ex.var rfl) (ret_rt rfl)
/-! ### numbers -/
theorem run_power {m n : Nat} (hm : m < 18446744073709551616) (hn : n ≤ 1000) : Rn F_power_of [⟨rN, m⟩, ⟨rN, n⟩] rN (m ^ n) := by
  refine Rn.of ?_
  refine W.seq (W.asg (r := rN) (v := 1) (Ex.cN 1) (W.seq (W.for_ (r := rN) (xs := List.range n) (is := [3]) (fun i => ([some ⟨rN, m⟩, some ⟨rN, n⟩, some ⟨rN, m ^ i⟩, none], [])) (fun _ => True) (ExI.range1 (Ex.var rfl) (by unfold FL.lim; omega)) ⟨Sub.keep (Sub.keep (Sub.keep (Sub.keep Sub.nil))), rfl⟩ trivial (fun j hj _ => ?_) (fun _ => ?_))))
  · exact ⟨_, BdI.name, by simp, W.asg (r := rN) (v := m ^ (j + 1)) (Ex.bin (Ex.var rfl) (Ex.var rfl) (r2_mulN (.inr hm))) ⟨trivial, Sub.keep (Sub.keep (Sub.keep (Sub.drop Sub.nil))), rfl⟩⟩
  · rw [List.length_range]
    exact W.ret (Ex.var rfl) (ret_rt rfl)
def fac : Nat → Nat
  | 0 => 1
  | n + 1 => fac n * (n + 1)
def hmf (m n : Nat) : Nat := fac m ^ (m ^ (n - 1)) / m ^ n
theorem run_how_many {ss : List Nat} (h : Fs ss) {n : Nat} (h1 : 1 ≤ n) (hn : n ≤ 8) : Rn F_how_many_full [⟨rS, ss⟩, ⟨rN, n⟩] rN (hmf ss.length n) := by
  refine Rn.of ?_
  have h4 := h.len
  have h0 : 0 < ss.length := List.length_pos_iff.mpr h.Sc.ne
  have hp : ss.length ^ (n - 1) ≤ 4 ^ 7 := Nat.le_trans (Nat.pow_le_pow_left h4 _) (Nat.pow_le_pow_right (by decide) (by omega))
  have hq : ss.length ^ n ≤ 4 ^ 8 := Nat.le_trans (Nat.pow_le_pow_left h4 _) (Nat.pow_le_pow_right (by decide) hn)
  have hpos : 0 < ss.length ^ n := Nat.pow_pos h0
  have hf : ∀ m, m ≤ 4 → fac m ≤ 24 := by decide
  refine W.seq (W.drop (Ex.call (ExA.cons (Ex.var rfl) .nil) (run_check_full h) rfl) (W.seq (W.drop (Ex.call (ExA.cons (Ex.var rfl) .nil) (run_check_size h1) rfl) (W.seq (W.asg (r := rN) (v := 1) (Ex.cN 1) (W.seq (W.for_ (r := rN) (xs := List.range' 1 (ss.length + 1 - 1)) (is := [3]) (fun i => ([some ⟨rS, ss⟩, some ⟨rN, n⟩, some ⟨rN, fac i⟩, none, none, none], [])) (fun _ => True) (ExI.range2 (Ex.cN 1) (Ex.bin (Ex.cb (ExA.cons (Ex.var rfl) .nil) run_lenS) (Ex.cN 1) r2_addN) (by unfold FL.lim; omega) (by decide)) ⟨Sub.keep (Sub.keep (Sub.keep (Sub.keep (Sub.keep (Sub.keep Sub.nil))))), rfl⟩ trivial (fun j hj _ => ?_) (fun _ => ?_))))))))
  · have e : (List.range' 1 (ss.length + 1 - 1))[j] = j + 1 := by simp; omega
    rw [e]
    rw [List.length_range'] at hj
    exact ⟨_, BdI.name, by simp, W.asg (r := rN) (v := fac (j + 1)) (Ex.bin (Ex.var rfl) (Ex.var rfl) (r2_mulN (.inr (by omega)))) ⟨trivial, Sub.keep (Sub.keep (Sub.keep (Sub.drop (Sub.keep (Sub.keep Sub.nil))))), rfl⟩⟩
  · rw [List.length_range', Nat.add_sub_cancel]
    have hf4 := hf _ h4
    refine W.seq (W.asg (r := rN) (v := 1) (Ex.cN 1) (W.seq (W.for_ (r := rN) (xs := List.range (ss.length ^ (n - 1))) (is := [5]) (fun i => ([some ⟨rS, ss⟩, some ⟨rN, n⟩, some ⟨rN, fac ss.length⟩, none, some ⟨rN, fac ss.length ^ i⟩, none], [])) (fun _ => True) (ExI.range1 (Ex.call (ExA.cons (Ex.cb (ExA.cons (Ex.var rfl) .nil) run_lenS) (ExA.cons (Ex.bin (Ex.var rfl) (Ex.cN 1) (r2_subN (x := n) (y := 1) h1)) .nil)) (run_power (by omega) (by omega)) rfl) (by unfold FL.lim; omega)) ⟨Sub.keep (Sub.keep (Sub.keep (Sub.keep (Sub.keep (Sub.keep Sub.nil))))), rfl⟩ trivial (fun j hj _ => ?_) (fun _ => ?_))))
    · exact ⟨_, BdI.name, by simp, W.asg (r := rN) (v := fac ss.length ^ (j + 1)) (Ex.bin (Ex.var rfl) (Ex.var rfl) (r2_mulN (.inr (by omega)))) ⟨trivial, Sub.keep (Sub.keep (Sub.keep (Sub.keep (Sub.keep (Sub.drop Sub.nil))))), rfl⟩⟩
    · rw [List.length_range]
      exact W.ret (Ex.bin (Ex.var rfl) (Ex.call (ExA.cons (Ex.cb (ExA.cons (Ex.var rfl) .nil) run_lenS) (ExA.cons (Ex.var rfl) .nil)) (run_power (by omega) (by omega)) rfl) (r2_divN hpos (by omega))) (ret_rt rfl)
end Lk89

/-! k89Q: full rings made and judged -/
namespace Lk89
open PySem PySem.Spec PyProof.Rows L2 FL
section
variable {Γ : Cn}
def ixS (ss : List Nat) (c : Nat) : Option Nat := (Builtin.Str.occurrences (sv ss) (sv [c]) 0 (sv ss).length 1).head?
theorem Ex.indexS {f g : FE} {ss : List Nat} {c i : Nat} (h : Ex Γ f rS ss) (k : Ex Γ g rS [c]) (e : ixS ss c = some i) : Ex Γ (fBm .str mIndexS f (faCons g faNil)) rN i := fun M ρ st q => by
  obtain ⟨d, st1, e1, p1, a1⟩ := h M ρ st q
  obtain ⟨d2, st2, e2, p2, a2⟩ := k M ρ st1 (q.pre p1)
  obtain ⟨rfl, h1, h2⟩ := rS_at.mp a1
  obtain ⟨rfl, k1, k2⟩ := rS_at.mp a2
  have g : mIndexS (.str ss) [.str [c]] st2 = .ok (.int (i : Nat)) st2 := by
    unfold ixS at e
    unfold mIndexS
    cases q : Builtin.Str.occurrences (sv ss) (sv [c]) 0 (sv ss).length 1 with
    | nil => rw [q] at e; cases e
    | cons j js =>
      rw [q] at e
      injection e with e
      subst e
      simp only [q]
  exact ⟨_, st2, by simp [e1, e2, g, tyIs], p1.trans p2, rN_at.mpr rfl⟩
theorem Ex.upperS {f : FE} {s u : List Nat} (h : Ex Γ f rS s) (e : (Txt.upper (sv s)).cps.toList = u) (hu : okT u) (hl : u.length ≤ lim) : Ex Γ (fBm .str mUpper f faNil) rS u := fun M ρ st q => by
  obtain ⟨d, st1, e1, p1, a1⟩ := h M ρ st q
  obtain ⟨rfl, h1, h2⟩ := rS_at.mp a1
  have g : mUpper (.str s) [] st1 = .ok (.str u) st1 := by
    show (if s.length ≤ lim then _ else _) = _
    rw [if_pos h2, e]
  exact ⟨_, st1, by simp [e1, g, tyIs], p1, rS_at.mpr ⟨rfl, hu, hl⟩⟩
theorem cut_init {α : Type} (l : List α) : cut l none (some (-1)) = l.dropLast := by
  unfold cut
  rw [HT.sIx_none, List.drop_zero, Nat.sub_zero, List.dropLast_eq_take]
  have : HT.sIx l.length l.length (some (-1)) = l.length - 1 := by
    unfold HT.sIx
    simp
    omega
  rw [this]
end
def strip (c : Nat) (l : List Nat) : List Nat := (l.reverse.dropWhile (· == c)).reverse
theorem strip_snoc {c : Nat} {l : List Nat} : strip c (l ++ [c]) = strip c l := by
  unfold strip
  rw [List.reverse_append]
  simp
theorem strip_id {c : Nat} {l : List Nat} (h : l = [] ∨ l.getLastD default ≠ c) : strip c l = l := by
  rcases l.eq_nil_or_concat with rfl | ⟨m, d, rfl⟩
  · rfl
  rw [List.concat_eq_append] at h ⊢
  rcases h with h | h
  · simp at h
  · have hd : d ≠ c := by simpa using h
    unfold strip
    rw [List.reverse_append]
    simp [hd]
def stl (ss w : List Nat) (n : Nat) : List Nat := strip (ss.getLastD default) (((List.replicate (n / w.length + 1) w).flatten).take n)
def nxt (ss w : List Nat) (n : Nat) : Option (List Nat) := if stl ss w n = [] then none else some ((stl ss w n).dropLast ++ [ss.getD (ss.idxOf ((stl ss w n).getLastD default) + 1) default])
def okN (ss w : List Nat) (n : Nat) : Bool := decide (w ≠ []) && decide (w.length ≤ 1000) && (decide (stl ss w n = []) || (decide (ixS ss ((stl ss w n).getLastD default) = some (ss.idxOf ((stl ss w n).getLastD default))) && decide (ss.idxOf ((stl ss w n).getLastD default) + 1 < ss.length)))
theorem run_next {ss w : List Nat} {n : Nat} (hss : ss ≠ []) (hn : n ≤ 900) (h : okN ss w n = true) : Rn F_next_small [⟨rS, ss⟩, ⟨rS, w⟩, ⟨rN, n⟩] (rO rS) (nxt ss w n) := by
  unfold okN at h
  rw [Bool.and_eq_true, Bool.and_eq_true] at h
  obtain ⟨⟨h1, h2⟩, h3⟩ := h
  have h1 := of_decide_eq_true h1
  have h2 := of_decide_eq_true h2
  have hp : 0 < w.length := List.length_pos_iff.mpr h1
  have hd : n / w.length ≤ n := Nat.div_le_self _ _
  have hd2 := Nat.div_mul_le_self n w.length
  refine Rn.of ?_
  refine W.seq (W.asg (r := rS) (v := ((List.replicate (n / w.length + 1) w).flatten).take n) (Ex.tkS (Ex.bin (Ex.var rfl) (Ex.bin (Ex.bin (Ex.var rfl) (Ex.cb (ExA.cons (Ex.var rfl) .nil) run_lenS) (r2_divN hp (by omega))) (Ex.cN 1) r2_addN) (r2_mulS (x := w) (y := n / w.length + 1) (by omega) (by rw [Nat.mul_add, Nat.mul_comm]; unfold FL.lim; omega))) (Ex.var rfl)) (W.seq (W.while_ (σ := List Nat) (fun l => ([some ⟨rS, ss⟩, some ⟨rS, w⟩, some ⟨rN, n⟩, some ⟨rS, l⟩], [])) (fun l => strip (ss.getLastD default) l = stl ss w n ∧ l.length ≤ n) List.length (fun l => !decide (l = []) && decide ([l.getLastD default] = [ss.getLastD default])) (((List.replicate (n / w.length + 1) w).flatten).take n) ⟨Sub.keep (Sub.keep (Sub.keep (Sub.keep Sub.nil))), rfl⟩ ⟨rfl, by rw [List.length_take]; omega⟩ (by rw [List.length_take]; omega) (fun l _ => ?t1) (fun l hl hc => ?b1) (fun l hl hc => ?e1))))
  case t1 =>
    exact ExT.and (ExT.test (Ex.bin (Ex.var rfl) (Ex.cS []) (r2_ne (by decide)))) fun hb => ExT.test (Ex.bin (Ex.bin (Ex.var rfl) (Ex.neg (Ex.cI 1)) (r2_lastSm (by simpa using hb))) (Ex.bin (Ex.var rfl) (Ex.neg (Ex.cI 1)) (r2_lastSm hss)) (r2_eq (by decide)))
  case b1 =>
    rw [Bool.and_eq_true] at hc
    obtain ⟨c1, c2⟩ := hc
    have c1 : l ≠ [] := by simpa using c1
    have c2 : l.getLastD default = ss.getLastD default := by simpa using c2
    refine W.asg (r := rS) (v := l.dropLast) (Ex.eq (Ex.cutS (Ex.var rfl) ExO.no (ExO.int (Ex.neg (Ex.cI 1)))) (cut_init l)) ⟨l.dropLast, ⟨?_, ?_⟩, ?_, Sub.keep (Sub.keep (Sub.keep (Sub.keep Sub.nil))), rfl⟩
    · rw [← hl.1]
      have e : l = l.dropLast ++ [ss.getLastD default] := by
        rw [← c2]
        conv => lhs; rw [← List.dropLast_concat_getLast c1]
        congr 2
        rw [List.getLastD_eq_getLast?, List.getLast?_eq_some_getLast c1]
        rfl
      conv => rhs; rw [e]
      rw [strip_snoc]
    · rw [List.length_dropLast]; have := hl.2; omega
    · show l.dropLast.length < l.length
      have := List.length_pos_iff.mpr c1
      rw [List.length_dropLast]
      omega
  case e1 =>
    have hq : l = stl ss w n := by
      rw [← hl.1, strip_id]
      by_cases c1 : l = []
      · exact .inl c1
      · refine .inr fun e => ?_
        rw [e] at hc
        simp [c1] at hc
    subst hq
    refine W.ret (Ex.eq (Ex.ite (b := decide (stl ss w n = [])) (x := none) (y := nxt ss w n) (ExT.test (Ex.bin (Ex.var rfl) (Ex.cS []) (r2_eq (by decide)))) (fun _ => Ex.nn Ex.cU) (fun hb => ?_)) ?_) (ret_rt rfl)
    · have c1 : stl ss w n ≠ [] := by simpa using hb
      rw [hb, Bool.false_or, Bool.and_eq_true] at h3
      obtain ⟨h4, h5⟩ := h3
      have h4 := of_decide_eq_true h4
      have h5 := of_decide_eq_true h5
      unfold nxt
      rw [if_neg c1]
      refine Ex.sm (Ex.bin (Ex.eq (Ex.cutS (Ex.var rfl) ExO.no (ExO.int (Ex.neg (Ex.cI 1)))) (cut_init _)) (Ex.bin (Ex.var rfl) (Ex.bin (Ex.indexS (Ex.var rfl) (Ex.bin (Ex.var rfl) (Ex.neg (Ex.cI 1)) (r2_lastSm c1)) h4) (Ex.cN 1) r2_addN) (r2_ixSm h5)) (r2_addS ?_)) (fun M st d q => ?_)
      · have := hl.2
        rw [List.length_dropLast]
        show _ + 1 ≤ _
        unfold FL.lim
        omega
      · rw [(rS_at.mp q).1]; intro e; cases e
    · by_cases c1 : stl ss w n = []
      · rw [if_pos (decide_eq_true c1)]
        unfold nxt
        rw [if_pos c1]
      · rw [if_neg (by simpa using c1)]
/-! ### the first full ring -/
def fr (ss : List Nat) (n : Nat) : Nat → List (List Nat) → Option (List Nat) → Option (List (List Nat))
  | _, ps, none => some ps
  | 0, _, some _ => none
  | k + 1, ps, some w => if okN ss w n = true then fr ss n k (if n % w.length = 0 then ps ++ [w] else ps) (nxt ss w n) else none
def fsS (o : Option (List Nat)) : Option Ent := match o with
  | none => some ⟨rU, ()⟩
  | some w => some ⟨rS, w⟩
theorem run_full_ring {ss : List Nat} (h : Fs ss) {n : Nat} (h1 : 1 ≤ n) (hn : n ≤ 900) {ps : List (List Nat)} (hf : fr ss n 500 [] (some [ss.getD 0 default]) = some ps) (hp : (ps.map List.length).sum ≤ 1000) : Rn F_full_ring [⟨rS, ss⟩, ⟨rN, n⟩] rS ps.flatten := by
  refine Rn.of ?_
  have h0 := h.Sc.ne
  have hl0 : 0 < ss.length := List.length_pos_iff.mpr h0
  refine W.seq (W.drop (Ex.call (ExA.cons (Ex.var rfl) .nil) (run_check_full h) rfl) (W.seq (W.drop (Ex.call (ExA.cons (Ex.var rfl) .nil) (run_check_size h1) rfl) (W.seq (W.parO (C := oL rS) (s := rS) (x := []) (y := [ss.getD 0 default]) (ExC.lstC ExL.nil) (Ex.bin (Ex.var rfl) (Ex.cN 0) (r2_ixSm hl0)) (W.seq (W.while_ (σ := Nat × List (List Nat) × Option (List Nat)) (fun a => ([some ⟨rS, ss⟩, some ⟨rN, n⟩, none, fsS a.2.2], [⟨2, oL rS, a.2.1⟩])) (fun a => fr ss n a.1 a.2.1 a.2.2 = some ps ∧ a.2.1.length + a.1 ≤ 500) (fun a => a.1) (fun a => a.2.2.isSome) (500, [], some [ss.getD 0 default]) ⟨Sub.keep (Sub.keep (Sub.keep (Sub.keep Sub.nil))), rfl⟩ ⟨hf, (show 0 + 500 ≤ 500 by omega)⟩ (show (500 : Nat) < 1000 by omega) (fun a ha => ?t1) (fun a ha hc => ?b1) (fun a ha hc => ?e1))))))))
  case t1 =>
    obtain ⟨k, qs, o⟩ := a
    cases o with
    | none => exact ExT.test (Ex.bin (Ex.var (r := rU) (v := ()) rfl) (Ex.cX .non) (fun M st d1 d2 q p => by
        rw [rU_at.mp q, rX_at.mp p]; exact ⟨_, rfl, rB_at.mpr rfl⟩))
    | some w => exact ExT.test (Ex.bin (Ex.var (r := rS) (v := w) rfl) (Ex.cX .non) (fun M st d1 d2 q p => by
        rw [(rS_at.mp q).1, rX_at.mp p]; exact ⟨_, rfl, rB_at.mpr rfl⟩))
  case b1 =>
    obtain ⟨k, qs, o⟩ := a
    cases o with
    | none => cases hc
    | some w =>
      obtain ⟨ha, hk⟩ := ha
      have hk : qs.length + k ≤ 500 := hk
      cases k with
      | zero => cases ha
      | succ k =>
        have ha : fr ss n (k + 1) qs (some w) = some ps := ha
        rw [fr] at ha
        by_cases hok : okN ss w n = true
        · rw [if_pos hok] at ha
          have hw : w ≠ [] := by
            unfold okN at hok
            rw [Bool.and_eq_true, Bool.and_eq_true] at hok
            exact of_decide_eq_true hok.1.1
          have hwl : 0 < w.length := List.length_pos_iff.mpr hw
          have last : ∀ (Φ : Post) (qs' : List (List Nat)), fr ss n k qs' (nxt ss w n) = some ps → qs'.length + k ≤ 500 → (∀ a' : Nat × List (List Nat) × Option (List Nat), (fr ss n a'.1 a'.2.1 a'.2.2 = some ps ∧ a'.2.1.length + a'.1 ≤ 500) → a'.1 < k + 1 → ∀ Γ2, Sub [some ⟨rS, ss⟩, some ⟨rN, n⟩, none, fsS a'.2.2] Γ2 → Φ.nx Γ2 [⟨2, oL rS, a'.2.1⟩]) → W [some ⟨rS, ss⟩, some ⟨rN, n⟩, none, some ⟨rS, w⟩] [⟨2, oL rS, qs'⟩] (fAsg (fCall 3 F_next_small (faCons (fVar 0) (faCons (fVar 3) (faCons (fVar 1) faNil)))) (hName 3)) Φ := fun Φ qs' e1 e2 q => by
            have rn := run_next h0 hn hok
            have ex := Ex.call (n := 3) (Γ := [some ⟨rS, ss⟩, some ⟨rN, n⟩, none, some ⟨rS, w⟩]) (ExA.cons (Ex.var (i := 0) rfl) (ExA.cons (Ex.var (i := 3) rfl) (ExA.cons (Ex.var (i := 1) rfl) .nil))) rn rfl
            cases hx : nxt ss w n with
            | none =>
              rw [hx] at ex e1
              exact W.asg (r := rU) (v := ()) (Ex.conv ex fun M st d q => rU_at.mpr (rO_none.mp q)) (q (k, qs', none) ⟨e1, e2⟩ (Nat.lt_succ_self _) _ (Sub.keep (Sub.keep (Sub.keep (Sub.keep Sub.nil)))))
            | some u =>
              rw [hx] at ex e1
              exact W.asg (r := rS) (v := u) (Ex.conv ex fun M st d q => (rO_some.mp q).2) (q (k, qs', some u) ⟨e1, e2⟩ (Nat.lt_succ_self _) _ (Sub.keep (Sub.keep (Sub.keep (Sub.keep Sub.nil)))))
          refine W.seq (W.ite (b := decide (n % w.length = 0)) (ExT.test (Ex.bin (Ex.bin (Ex.var rfl) (Ex.cb (ExA.cons (Ex.var rfl) .nil) run_lenS) (r2_modN hwl)) (Ex.cN 0) (r2_eq (by decide)))) (fun hb => ?_) (fun hb => ?_))
          · rw [if_pos (of_decide_eq_true hb)] at ha
            exact W.append (j := 0) (r := rS) (xs := qs) (x := w) rfl (Ex.var rfl) (by unfold FL.lim; omega) (last _ _ ha (by rw [List.length_append, List.length_singleton]; omega) fun a' p l Γ2 s => ⟨a', p, l, s, rfl⟩)
          · rw [if_neg (of_decide_eq_false hb)] at ha
            exact FL.W.next (last _ _ ha (by omega) fun a' p l Γ2 s => ⟨a', p, l, s, rfl⟩)
        · rw [if_neg hok] at ha
          cases ha
  case e1 =>
    obtain ⟨k, qs, o⟩ := a
    cases o with
    | some w => cases hc
    | none =>
      obtain ⟨ha, _⟩ := ha
      have ha : fr ss n k qs none = some ps := ha
      have e : qs = ps := by cases k <;> (rw [fr] at ha; injection ha)
      subst e
      exact W.freeze (Ω := []) (o := ⟨2, oL rS, qs⟩) (W.ret (Γ := [some ⟨rS, ss⟩, some ⟨rN, n⟩, some ⟨rL rS, qs⟩, some ⟨rU, ()⟩]) (Ex.join (Ex.cS []) (Ex.var rfl) (by simp only [List.length_nil, Nat.mul_zero, Nat.add_zero]; unfold FL.lim; omega)) (ret_rt (joinS_nil _)))
end Lk89

/-! k89R: full rings judged; what is drawn -/
namespace Lk89
open PySem PySem.Spec PyProof.Rows L2 FL
def fullV (ss : List Nat) (n : Nat) (v : List Nat) : Bool := !decide (v = []) && (v.all (fun c => decide (c ∈ ss)) && decide (srt leS (win v n) = srt leS (stor ss n)))
structure Fn (ss : List Nat) (n : Nat) : Prop where
  fs : Fs ss
  nd : ss.Nodup
  az : ∀ c ∈ ss, c ∈ AZ
  n1 : 1 ≤ n
  n8 : n ≤ 8
  pw : ss.length ^ n ≤ 256
theorem fullV_of {ss : List Nat} {n : Nat} (h : Fn ss n) {v : List Nat} (h0 : v ≠ []) (hv : ∀ c ∈ v, c ∈ ss) : fullV ss n v = (decide (v.length = ss.length ^ n) && decide (win v n).Nodup) := by
  have e := full_law (n := n) h.nd hv
  have e2 : v.all (fun c => decide (c ∈ ss)) = true := List.all_eq_true.mpr fun c hc => decide_eq_true (hv c hc)
  unfold fullV
  rw [e2, decide_eq_false h0, ← Bool.decide_and, decide_eq_decide.mpr e]
  rfl
theorem all_sing {ss : List Nat} : ∀ v : List Nat, ((v.map fun c => [c]).map fun x => decide (x.headD 0 ∈ ss)).all id = v.all fun c => decide (c ∈ ss)
  | [] => rfl
  | c :: v => by
    rw [List.map_cons, List.map_cons, List.all_cons, List.all_cons, all_sing v]
    rfl
theorem run_is_full {ss : List Nat} {n : Nat} (h : Fn ss n) {v : List Nat} (hl : v.length ≤ 1000) : Rn F_is_full_ring [⟨rS, ss⟩, ⟨rN, n⟩, ⟨rS, v⟩] rB (fullV ss n v) := by
  refine Rn.of ?_
  have n8 := h.n8
  have h4 := h.fs.len
  refine W.seq (W.drop (Ex.call (ExA.cons (Ex.var rfl) .nil) (run_check_full h.fs) rfl) (W.seq (W.drop (Ex.call (ExA.cons (Ex.var rfl) .nil) (run_check_size h.n1) rfl) (W.seq (W.ite (b := !(scB v) || !(v.all fun c => decide (c ∈ ss))) (ExT.or (ExT.not (ExT.test (Ex.call (ExA.cons (Ex.var rfl) .nil) run_scrapB rfl))) fun _ => ExT.not (ExT.test (Ex.eq (Ex.cb (ExA.cons (Ex.lcY (r := rS) (s := rB) (q := fun x => decide (x.headD 0 ∈ ss)) (ExI.str (Ex.var rfl)) (fun _ _ => Bd.name) ?el) .nil) run_all) (all_sing v)))) (fun hb => ?t1) (fun hb => ?f1))))))
  case el =>
    intro x hx
    obtain ⟨c, hc, rfl⟩ := List.mem_map.mp hx
    exact Ex.bin (Ex.var rfl) (Ex.var rfl) r2_inC
  case t1 =>
    refine W.ret (Ex.cB false) (ret_rt ?_)
    unfold fullV
    by_cases h0 : v = []
    · rw [decide_eq_true h0]; rfl
    · by_cases h2 : v.all (fun c => decide (c ∈ ss)) = true
      · exfalso
        rw [h2] at hb
        have : scB v = true := by
          unfold scB azB
          rw [decide_eq_false h0, Bool.and_eq_true]
          exact ⟨List.all_eq_true.mpr fun c hc => decide_eq_true (h.az c (of_decide_eq_true (List.all_eq_true.mp h2 c hc))), rfl⟩
        rw [this] at hb
        cases hb
      · have h2 : v.all (fun c => decide (c ∈ ss)) = false := by simpa using h2
        rw [h2]
        simp
  case f1 =>
    have hb1 : scB v = true ∧ v.all (fun c => decide (c ∈ ss)) = true := by
      rw [Bool.or_eq_false_iff] at hb
      exact ⟨by simpa using hb.1, by simpa using hb.2⟩
    have h0 : v ≠ [] := fun e => by
      have := hb1.1
      rw [e] at this
      cases this
    have hv : ∀ c ∈ v, c ∈ ss := fun c hc => of_decide_eq_true (List.all_eq_true.mp hb1.2 c hc)
    rw [fullV_of h h0 hv]
    refine FL.W.next (W.seq (W.ite (b := !decide (v.length = ss.length ^ n)) (ExT.test (Ex.bin (Ex.cb (ExA.cons (Ex.var rfl) .nil) run_lenS) (Ex.call (ExA.cons (Ex.cb (ExA.cons (Ex.var rfl) .nil) run_lenS) (ExA.cons (Ex.var rfl) .nil)) (run_power (by omega) (by omega)) rfl) (r2_ne (by decide)))) (fun hc => ?_) (fun hc => FL.W.next (W.ret (Ex.bin (Ex.cb (ExA.cons (Ex.ofC (C := oC rS rB) (ExC.dcY (r := rS) (s := rS) (t := rB) (xs := win v n) (q := fun w => (w, true)) (ExI.list (Ex.call (ExA.cons (Ex.var rfl) (ExA.cons (Ex.var rfl) .nil)) (run_windows_round h0 hl (by omega)).rn rfl)) (fun _ _ => Bd.name) (fun _ _ => Ex.var rfl) (fun _ _ => Ex.cB true))) .nil) run_lenDc) (Ex.cb (ExA.cons (Ex.var rfl) .nil) run_lenS) (r2_eq (by decide))) (ret_rt ?_)))))
    · have : decide (v.length = ss.length ^ n) = false := by simpa using hc
      rw [this]
      exact W.ret (Ex.cB false) (ret_rt rfl)
    · have : decide (v.length = ss.length ^ n) = true := by simpa using hc
      rw [this, Bool.true_and]
      have k := keys_len (win v n)
      rw [win_len] at k
      exact decide_eq_decide.mpr k
theorem run_is_fullN {ss : List Nat} {n : Nat} (h : Fn ss n) {τ : Type} {r : Rel τ} [TyR r] {v : τ} (ht : isTy (TyR.ty r) .str = false) : Rn F_is_full_ring [⟨rS, ss⟩, ⟨rN, n⟩, ⟨r, v⟩] rB false := by
  refine Rn.of ?_
  refine W.seq (W.drop (Ex.call (ExA.cons (Ex.var rfl) .nil) (run_check_full h.fs) rfl) (W.seq (W.drop (Ex.call (ExA.cons (Ex.var rfl) .nil) (run_check_size h.n1) rfl) (W.seq (W.tt (b := true) (ExT.eq (ExT.or (b := !false) (c := false) (ExT.not (ExT.test (Ex.call (ExA.cons (Ex.var rfl) .nil) (run_scrapN ht) rfl))) fun q => by cases q) rfl) rfl (W.ret (Ex.cB false) (ret_rt rfl)))))))
/-! ### drawn -/
theorem erase_perm {α : Type} : ∀ (l : List α) (i : Nat) (h : i < l.length), (l[i] :: l.eraseIdx i).Perm l
  | x :: l, 0, h => .refl _
  | x :: l, i + 1, h => by
    have hi : i < l.length := by simpa using h
    have ih := erase_perm l i hi
    exact (List.Perm.swap x l[i] (l.eraseIdx i)).trans (ih.cons x)
theorem run_drawn_order {xs : List (List Nat)} (hx : xs.length < 1000) : RnG F__law_drawn_order (fun n => [⟨rC, n⟩, ⟨rL rS, xs⟩]) (rL rS) (fun ys => ys.Perm xs) (3 * xs.length) := by
  refine RnG.of (fun n k hk => ?_)
  refine WG.seq (WG.pure (W.parOO (C := oL rS) (E := oL rS) (x := xs) (y := []) (ExC.list (Ex.var rfl)) (ExC.lstC ExL.nil) (WG.seq (WG.whileG (σ := List (List Nat) × List (List Nat)) (fun a => ([some ⟨rC, n⟩, some ⟨rL rS, xs⟩, none, none], [⟨2, oL rS, a.1⟩, ⟨3, oL rS, a.2⟩])) (fun a => (a.1 ++ a.2).Perm xs) (fun a => a.1.length) (fun a => !a.1.isEmpty) (xs, []) 3 ⟨Sub.keep (Sub.keep (Sub.keep (Sub.keep Sub.nil))), rfl⟩ ?_ hx (fun a _ hc => ?_) (fun a _ => ExT.test (Ex.neNil (Γ := [some ⟨rC, n⟩, some ⟨rL rS, xs⟩, some ⟨rL rS, a.1⟩, some ⟨rL rS, a.2⟩]) (Ex.var rfl) inferInstance (by decide))) (fun a k' pa hc hkk => ?_) (fun a pa hc => ?_)))))
  · show (xs ++ []).Perm xs
    rw [List.append_nil]
  · cases e : a.1 with
    | nil => rw [e] at hc; cases hc
    | cons => simp
  · have hne : a.1 ≠ [] := fun e => by rw [e] at hc; cases hc
    have hl := pa.length_eq
    rw [List.length_append] at hl
    refine WG.appendPop (a := 3) (b := 2) (gi := 0) (ja := 1) (jb := 0) (r := rS) (xs := a.2) (ys := a.1) rfl rfl rfl (by decide) hne (by have : k' + 3 ≤ k + 3 * xs.length := hkk; omega) (by unfold FL.lim; omega) fun x hx => ⟨Nat.le_refl _, (a.1.eraseIdx x, a.2 ++ [a.1[x]]), ?_, ?_, Sub.keep (Sub.keep (Sub.keep (Sub.keep Sub.nil))), rfl⟩
    · show (a.1.eraseIdx x ++ (a.2 ++ [a.1[x]])).Perm xs
      refine List.Perm.trans ?_ pa
      rw [← List.append_assoc]
      refine List.perm_append_comm.trans ?_
      show (a.1[x] :: (a.1.eraseIdx x ++ a.2)).Perm _
      exact (erase_perm a.1 x hx).append_right a.2
    · show (a.1.eraseIdx x).length < a.1.length
      rw [List.length_eraseIdx_of_lt hx]
      omega
  · have e : a.1 = [] := by cases h : a.1 with
      | nil => rfl
      | cons => rw [h] at hc; cases hc
    rw [e, List.nil_append] at pa
    refine WG.pure (W.freeze (Ω := [⟨2, oL rS, a.1⟩]) (o := ⟨3, oL rS, a.2⟩) (W.ret (Γ := [some ⟨rC, n⟩, some ⟨rL rS, xs⟩, none, some ⟨rL rS, a.2⟩]) (Ex.var rfl) (retG_rt (Nat.le_refl _) pa)))
theorem run_neighbours {s : List Nat} (hl : s.length ≤ 500) : RnG F__law_neighbours (fun n => [⟨rC, n⟩, ⟨rS, s⟩]) rS (fun t => t.length = s.length ∧ ∀ c ∈ t, c ∈ s) 3 := by
  refine RnG.of (fun n k hk => ?_)
  refine WG.seq (WG.pure (W.asg (r := rL rN) (v := ((List.range' 1 (s.length - 1)).filter fun i => !decide ([s.getD (i - 1) default] = [s.getD i default])).map fun i => i) (Ex.lc (r := rN) (c := fun i => !decide ([s.getD (i - 1) default] = [s.getD i default])) (q := fun i => i) (ExI.range2S (Ex.cN 1) (Ex.var rfl) (by decide)) (fun _ _ => Bd.name) ?ht (fun _ _ _ => Ex.var rfl)) ?_))
  case ht =>
    intro i hi
    rw [List.mem_range'] at hi
    obtain ⟨j, hj, rfl⟩ := hi
    have h1 : 1 + 1 * j < s.length := by omega
    exact ExT.test (Ex.bin (Ex.bin (Ex.var rfl) (Ex.bin (Ex.var rfl) (Ex.cN 1) (r2_subN (x := 1 + 1 * j) (y := 1) (by omega))) (r2_ixSm (by omega))) (Ex.bin (Ex.var rfl) (Ex.var rfl) (r2_ixSm h1)) (r2_ne (by decide)))
  have hps : ∀ i ∈ ((List.range' 1 (s.length - 1)).filter fun i => !decide ([s.getD (i - 1) default] = [s.getD i default])).map (fun i => i), 1 ≤ i ∧ i < s.length := fun i hi => by
    rw [List.map_id'] at hi
    have hi := (List.mem_filter.mp hi).1
    rw [List.mem_range'] at hi
    obtain ⟨j, hj, rfl⟩ := hi
    omega
  have hpl : (((List.range' 1 (s.length - 1)).filter fun i => !decide ([s.getD (i - 1) default] = [s.getD i default])).map (fun i => i)).length ≤ 500 := by
    rw [List.map_id']
    refine Nat.le_trans (List.length_filter_le _ _) ?_
    rw [List.length_range']
    omega
  generalize ((List.range' 1 (s.length - 1)).filter fun i => !decide ([s.getD (i - 1) default] = [s.getD i default])).map (fun i => i) = ps at hps hpl ⊢
  refine WG.seq (WG.asgG (r := rN) (k1 := k + 3) (ExG.call (es := fun n => [⟨rC, n⟩, ⟨rL rN, ps ++ [0]⟩]) (ExA.cons (Ex.var rfl) (ExA.cons (Ex.bin (Ex.var rfl) (Ex.lst (ExL.cons (Ex.cN 0) ExL.nil)) (r2_addL (by show ps.length + 1 ≤ _; unfold FL.lim; omega))) .nil)) (run_pick (by simp)) (by omega) rfl) (fun i hi => ?_))
  have hi : i ∈ ps ++ [0] := hi
  refine WG.pure (W.ret (Ex.ite (b := decide (0 < i)) (x := s.take (i - 1) ++ [s.getD i default] ++ [s.getD (i - 1) default] ++ s.drop (i + 1)) (y := s) (ExT.test (Ex.bin (Ex.var rfl) (Ex.cN 0) r2_gtN)) (fun hb => ?_) (fun _ => Ex.var rfl)) (retG_rt (Nat.le_refl _) ?_))
  · have h0 : 0 < i := of_decide_eq_true hb
    have h1 : i < s.length := by
      rcases List.mem_append.mp hi with hi | hi
      · exact (hps i hi).2
      · rw [List.mem_singleton.mp hi] at h0; omega
    have l1 : (s.take (i - 1)).length ≤ 500 := by rw [List.length_take]; omega
    refine Ex.bin (Ex.bin (Ex.bin (Ex.tkS (Ex.var rfl) (Ex.bin (Ex.var rfl) (Ex.cN 1) (r2_subN (x := i) (y := 1) h0))) (Ex.bin (Ex.var rfl) (Ex.var rfl) (r2_ixSm h1)) (r2_addS ?_)) (Ex.bin (Ex.var rfl) (Ex.bin (Ex.var rfl) (Ex.cN 1) (r2_subN (x := i) (y := 1) h0)) (r2_ixSm (by omega))) (r2_addS ?_)) (Ex.drS (n := i + 1) (Ex.var rfl) (Ex.bin (Ex.var rfl) (Ex.cN 1) r2_addN)) (r2_addS ?_)
    · simp only [List.length_singleton]; unfold FL.lim; omega
    · simp only [List.length_append, List.length_singleton]; unfold FL.lim; omega
    · simp only [List.length_append, List.length_singleton, List.length_drop, List.length_take]; unfold FL.lim; omega
  · by_cases h0 : 0 < i
    · rw [if_pos (decide_eq_true h0)]
      have h1 : i < s.length := by
        rcases List.mem_append.mp hi with hi | hi
        · exact (hps i hi).2
        · rw [List.mem_singleton.mp hi] at h0; omega
      have gm : ∀ j, j < s.length → s.getD j default ∈ s := fun j hj => by
        rw [List.getD_eq_getElem?_getD, List.getElem?_eq_getElem hj]
        exact List.getElem_mem hj
      constructor
      · simp only [List.length_append, List.length_singleton, List.length_drop, List.length_take]
        omega
      · intro c hc
        rcases List.mem_append.mp hc with hc | hc
        · rcases List.mem_append.mp hc with hc | hc
          · rcases List.mem_append.mp hc with hc | hc
            · exact List.mem_of_mem_take hc
            · rw [List.mem_singleton.mp hc]; exact gm _ h1
          · rw [List.mem_singleton.mp hc]; exact gm _ (by omega)
        · exact List.mem_of_mem_drop hc
    · rw [if_neg (by simpa using h0)]
      exact ⟨rfl, fun c hc => hc⟩
end Lk89

/-! k89S: windows and counts are right -/
namespace Lk89
open PySem PySem.Spec PyProof.Rows L2 FL
/-- a call that draws, whose arguments draw -/
theorem ExG.callA {τ : Type} {r : Rel τ} {n k k1 c m : Nat} {Γ : Cn} {F : F1} {fa : FA} {φ : List Ent → Prop} {ψ : τ → Prop} (h : ExAG n k Γ fa φ k1) (hk : k1 + c ≤ kB) (q : ∀ es, φ es → es.length = m ∧ ∃ es' : Nat → List Ent, es' n = es ∧ RnG F es' r ψ c) : ExG n k Γ (fCall m F fa) r ψ (k1 + c) := fun M ρ st hn g sat => by
  obtain ⟨es, ds, st1, e1, f1, g1, a1, p1⟩ := h M ρ st hn g sat
  obtain ⟨hl, es', rfl, hr⟩ := q es p1
  have sat1 := sat.xt (f1.xt hn)
  obtain ⟨v, d, st2, e2, f2, g2, a2, z⟩ := hr n k1 M st1 ds hn sat1.mot g1 hk a1
  exact ⟨v, d, st2, by simp [e1, a1.len, hl, e2], f1.trans f2, g2, a2, z⟩
theorem run_scrap {ss : List Nat} {m : Nat} (h0 : ss ≠ []) (hok : okT ss) (hl : ss.length ≤ 1000) (h1 : 1 ≤ m) (hm : m ≤ 1000) : RnG F__law_scrap (fun n => [⟨rC, n⟩, ⟨rS, ss⟩, ⟨rN, m⟩]) rS (fun t => t ≠ [] ∧ t.length ≤ m ∧ ∀ c ∈ t, c ∈ ss) (3 + 3 * m) := fun n k M st ds hn hM g hk sl => by
  obtain ⟨d1, d2, d3, rfl, a1, a2, a3⟩ := sl.three
  have hkB : kB = 100000000000 := rfl
  rw [rC_at.mp a1, (rS_at.mp a2).1, rN_at.mp a3]
  obtain ⟨t, st', e, p1, p2, p3, g', f, _⟩ := sp_scrap (st := st) (n := n) (k := (k : Int)) (signs := ss) (most := (m : Int)) g (by omega) h0 hl (by omega) (by omega)
  exact ⟨t, _, st', e, f, g'.mono (by omega), rS_at.mpr ⟨rfl, okT_mem hok p3, by unfold FL.lim; omega⟩, p1, by omega, p3⟩
theorem ExG.lst2 {τ : Type} {r : Rel τ} {n k k1 : Nat} {Γ : Cn} {f g : FE} {x : τ} {φ : τ → Prop} (h1 : Ex Γ f r x) (h2 : ExG n k Γ g r φ k1) : ExG n k Γ (fLst (faCons f (faCons g faNil))) (rL r) (fun ys => ∃ y, φ y ∧ ys = [x, y]) k1 := fun M ρ st hn g0 sat => by
  obtain ⟨d, st1, e1, p1, a1⟩ := h1 M ρ st sat
  obtain ⟨y, d2, st2, e2, f2, g2, a2, q2⟩ := h2 M ρ st1 hn (g0.pre p1) (sat.pre p1)
  refine ⟨[x, y], .lst [d, d2], st2, by simp [e1, e2, lim], (Fr.pre p1).trans f2, g2, rL_at.mpr ⟨[d, d2], .inl rfl, (by show 2 ≤ lim; unfold FL.lim; omega), .cons (r.ext (f2.xt hn) a1) (.cons a2 .nil)⟩, y, q2, rfl⟩
theorem RnG.imp' {τ : Type} {r : Rel τ} {F : F1} {es : Nat → List Ent} {φ ψ : τ → Prop} {c : Nat} (h : RnG F es r φ c) (q : ∀ v, φ v → ψ v) : RnG F es r ψ c := fun n k M st ds hn hm g hk sl => by
  obtain ⟨v, d, st', e, f, g', a, p⟩ := h n k M st ds hn hm g hk sl
  exact ⟨v, d, st', e, f, g', a, q v p⟩
def ABC : List Nat := [97, 98, 99]
theorem abc_az : ∀ c ∈ ABC, c ∈ AZ := by decide
structure Sm (s : List Nat) : Prop where
  ne : s ≠ []
  len : s.length ≤ 8
  abc : ∀ c ∈ s, c ∈ ABC
theorem Sm.sc {s : List Nat} (h : Sm s) : Sc s := by
  have h1 := h.ne
  have h2 := h.len
  have h3 : ∀ c ∈ s, c ∈ AZ := fun c hc => abc_az c (h.abc c hc)
  constructor <;> first | exact h1 | exact h3 | (first | omega | (unfold FL.lim; omega))
theorem Sm.mrk {s : List Nat} (h : Sm s) {n : Nat} : ∀ w ∈ win s n, w ≠ mk' := fun w hw e => by
  have h1 := (stor_mem.mp (win_sub h.abc w hw)).2 109 (by rw [e]; decide)
  revert h1
  decide
theorem eqDv_refl (ws : List (List Nat)) : eqDv (cnt ws) (cnt ws) = true := cnt_perm (.refl _)
theorem run_counts_right : RnG F__law_counts_right (fun n => [⟨rC, n⟩]) rB (· = true) 63 := by
  have hkB : kB = 100000000000 := rfl
  refine RnG.of (fun n k hk => ?_)
  refine WG.seq (WG.parG (r := rS) (s := rN) (φ := Sm) (ψ := fun _ m => 1 ≤ m ∧ m ≤ 30) (k1 := k + 3 + 27) (k2 := k + 3 + 27 + 3) (ExG.callA (φ := fun es => ∃ ss, ss ∈ ([[97, 98], [97, 98, 99]] : List (List Nat)) ∧ es = [⟨rC, n⟩, ⟨rS, ss⟩, ⟨rN, 8⟩]) (ExAG.imp (ExAG.cons (ExG.pure (Ex.var rfl)) fun _ _ => ExAG.cons (ExG.call (es := fun n => [⟨rC, n⟩, ⟨rL rS, [[97, 98], [97, 98, 99]]⟩]) (ExA.cons (Ex.var rfl) (ExA.cons (Ex.lst (ExL.cons (Ex.cS [97, 98]) (ExL.cons (Ex.cS [97, 98, 99]) ExL.nil))) .nil)) (run_pick (by simp)) (by omega) rfl) fun _ _ => ExAG.cons (ExG.pure (Ex.cN 8)) fun _ _ => ExAG.nil) ?_) (by omega) fun es hes => ?_) (fun s hs => ExG.draw1 (i := 0) rfl (Ex.cN 30) (by decide) (by decide) (by omega)) (fun s m hs hm => ?_))
  · rintro es ⟨v, es1, h1, ⟨w, es2, h2, ⟨x, es3, h3, h4, rfl⟩, rfl⟩, rfl⟩
    have h1 : v = n := h1
    have h3 : x = 8 := h3
    have h4 : es3 = [] := h4
    subst h1 h3 h4
    exact ⟨w, h2, rfl⟩
  · obtain ⟨ss, hss, rfl⟩ := hes
    refine ⟨rfl, fun n => [⟨rC, n⟩, ⟨rS, ss⟩, ⟨rN, 8⟩], rfl, ?_⟩
    have h3 : ss ≠ [] ∧ okT ss ∧ ss.length ≤ 1000 ∧ ∀ c ∈ ss, c ∈ ABC := by
      have : ∀ ss ∈ ([[97, 98], [97, 98, 99]] : List (List Nat)), ss ≠ [] ∧ okT ss ∧ ss.length ≤ 1000 ∧ ∀ c ∈ ss, c ∈ ABC := by
        intro ss h
        rcases List.mem_cons.mp h with rfl | h
        · exact ⟨by decide, ok_az (by decide), by decide, by decide⟩
        · rw [List.mem_singleton.mp h]
          exact ⟨by decide, ok_az (by decide), by decide, by decide⟩
      exact this ss hss
    have := run_scrap (ss := ss) (m := 8) h3.1 h3.2.1 h3.2.2.1 (by decide) (by decide)
    exact RnG.imp' this fun t ht => ⟨ht.1, ht.2.1, fun c hc => h3.2.2.2 c (ht.2.2 c hc)⟩
  obtain ⟨m1, m2⟩ := hm
  have sl := hs.len
  have sc := hs.sc
  have wl : (win s m).length = s.length := win_len
  have hp : 0 < s.length := List.length_pos_iff.mpr hs.ne
  refine WG.seq (WG.parGO (r := rL rS) (φ := (· = win s m)) (E := oC rS rN) (y := []) (k1 := k + 3 + 27 + 3) (ExG.pure (Ex.call (ExA.cons (Ex.var rfl) (ExA.cons (Ex.var rfl) .nil)) (run_law_windows (by omega) (by omega)) rfl)) (fun _ _ => ExC.dnewC) (fun ws hws => ?_))
  subst hws
  refine WG.seq (WG.pure (W.for_ (r := rS) (xs := win s m) (is := [1]) (fun i => ([some ⟨rC, n⟩, none, none, some ⟨rS, s⟩, some ⟨rN, m⟩, some ⟨rL rS, win s m⟩, none, none, none], [⟨6, oC rS rN, cnt ((win s m).take i)⟩])) (fun _ => True) (ExI.list (Ex.var rfl)) ⟨Sub.keep (Sub.keep (Sub.keep (Sub.keep (Sub.keep (Sub.keep (Sub.keep (Sub.keep (Sub.keep Sub.nil)))))))), rfl⟩ trivial (fun j hj _ => ?_) (fun _ => ?_)))
  · have hb : (cnt ((win s m).take j)).length < FL.lim := by
      have := cnt_len ((win s m).take j)
      rw [List.length_take] at this
      unfold FL.lim
      omega
    refine ⟨_, BdI.name, by simp, W.putC (j := 0) (r := rS) (s := rN) (xs := cnt ((win s m).take j)) (k := (win s m)[j]) (x := (dget (cnt ((win s m).take j)) (win s m)[j]).getD 0 + 1) rfl (Ex.bin (Ex.get2 (Ex.var rfl) (Ex.var rfl) (Ex.cN 0)) (Ex.cN 1) r2_addN) (Ex.var rfl) hb ⟨trivial, Sub.keep (Sub.drop (Sub.keep (Sub.keep (Sub.keep (Sub.keep (Sub.keep (Sub.keep (Sub.keep Sub.nil)))))))), ?_⟩⟩
    show [_] = [_]
    rw [cnt_take hj]
    rfl
  rw [List.take_length]
  have cl : (cnt (win s m)).length ≤ 8 := by have := cnt_len (win s m); omega
  refine WG.seq (WG.pure (W.freeze (Ω := []) (o := ⟨6, oC rS rN, cnt (win s m)⟩) (W.parO (C := oL rS) (s := rDc rS rN) (x := win s m) (y := cnt (win s m)) (ExC.call (ExA.cons (Ex.var rfl) (ExA.cons (Ex.var rfl) .nil)) (run_ring_windows sc (by omega) m1 (by omega)) rfl) (Ex.call (ExA.cons (Ex.var rfl) (ExA.cons (Ex.var rfl) .nil)) (run_ring_counts sc (by omega) m1 (by omega)) rfl) ?_)))
  refine WG.seq (WG.pure (W.markOr (k := 0) (Ω := []) (i := 7) (r := rS) (xs := win s m) (by decide) (ExT.test (Ex.call (ExA.cons (Ex.var (r := rL rS) (v := win s m) rfl) (ExA.cons (Ex.var (r := rL rS) (v := win s m) rfl) .nil)) (run_exact rfl (by decide)) rfl)) (fun w hw => hs.mrk w hw) (by unfold FL.lim; omega) (by decide) (ExT.test (Ex.call (ExA.cons (Ex.callK (r := rL rS) (ExA.cons (Ex.var rfl) (ExA.cons (Ex.var rfl) .nil)) (PickIs.cons rfl (PickIs.cons rfl PickIs.nil)) (run_ring_windows sc (by omega) m1 (by omega)).rn rfl) (ExA.cons (Ex.var (r := rL rS) (v := win s m) rfl) .nil)) (run_exact (r := rL rS) rfl (by decide)) rfl)) (W.next ?_)))
  refine WG.seq (WG.pure (W.ff (b := !true || (true != eqDv (cnt (win s m)) (cnt (win s m)) || true != eqDv (cnt (win s m)) (cnt (win s m)))) (ExT.or (ExT.not (ExT.test (Ex.cb (ExA.cons (Ex.var rfl) (ExA.cons (Ex.cX _) .nil)) run_isi))) fun _ => ExT.or (ExT.test (Ex.bin (Ex.var rfl) (Ex.var rfl) (r2_eqXD true))) fun _ => ExT.test (Ex.bin (Ex.callK (ExA.cons (Ex.var rfl) (ExA.cons (Ex.var rfl) .nil)) (PickIs.cons rfl (PickIs.cons rfl PickIs.nil)) (run_ring_counts sc (by omega) m1 (by omega)) rfl) (Ex.var rfl) (r2_eqXD true))) (by rw [eqDv_refl]; rfl) (W.next ?_)))
  have rt : rot s 1 ≠ [] ∧ (rot s 1).length ≤ 8 := ⟨fun e => by have := FL.rot_length s 1; rw [e] at this; simp at this; omega, by rw [FL.rot_length]; exact sl⟩
  refine WG.seq (WG.asgG (r := rS) (k1 := k + 3 + 27 + 3 + 27 + 3) (ExG.imp (ExG.call2 (k1 := k + 3 + 27 + 3 + 27) (c := 3) (s := rL rS) (ψ := fun ys => ys ≠ [] ∧ ∀ y ∈ ys, Sm y) (φ := fun ys y => y ∈ ys) rfl (ExG.imp (ExG.lst2 (Ex.call (ExA.cons (Ex.var rfl) (ExA.cons (Ex.cN 1) .nil)) (run_turning sc (by decide)) rfl) (ExG.callA (c := 3 + 3 * s.length) (ψ := Sm) (φ := fun es => es = [⟨rC, n⟩, ⟨rS, [97, 98]⟩, ⟨rN, s.length⟩]) (ExAG.imp (ExAG.cons (ExG.pure (Ex.var rfl)) fun _ _ => ExAG.cons (ExG.pure (Ex.cS [97, 98])) fun _ _ => ExAG.cons (ExG.pure (Ex.cb (ExA.cons (Ex.var rfl) .nil) run_lenS)) fun _ _ => ExAG.nil) ?a1) (by omega) fun es hes => ?a2)) ?a3 (by omega)) (fun ys hys => run_pick hys.1) (by omega)) (ψ := Sm) ?a4 (Nat.le_refl _)) (fun o ho => ?_))
  case a1 =>
    rintro es ⟨v, es1, h1, ⟨w, es2, h2, ⟨x, es3, h3, h4, rfl⟩, rfl⟩, rfl⟩
    have h1 : v = n := h1
    have h2 : w = [97, 98] := h2
    have h3 : x = s.length := h3
    have h4 : es3 = [] := h4
    subst h1 h2 h3 h4
    rfl
  case a2 =>
    subst hes
    refine ⟨rfl, fun n => [⟨rC, n⟩, ⟨rS, [97, 98]⟩, ⟨rN, s.length⟩], rfl, ?_⟩
    exact RnG.imp' (run_scrap (ss := [97, 98]) (m := s.length) (by decide) (ok_az (by decide)) (by decide) (by omega) (by omega)) fun t ht => ⟨ht.1, by omega, fun c hc => by
      have : ∀ c ∈ ([97, 98] : List Nat), c ∈ ABC := by decide
      exact this c (ht.2.2 c hc)⟩
  case a3 =>
    rintro ys ⟨y, hy, rfl⟩
    refine ⟨by simp, fun z hz => ?_⟩
    rcases List.mem_cons.mp hz with rfl | hz
    · exact ⟨rt.1, rt.2, fun c hc => hs.abc c (rot_mem.mp hc)⟩
    · rw [List.mem_singleton.mp hz]; exact hy
  case a4 =>
    rintro o ⟨ys, h1, h2⟩
    exact h1.2 o h2
  have so : Sm o := ho
  have ol := so.len
  have oc := so.sc
  refine WG.seq (WG.pure (W.ff (b := decide (o.length = s.length) && !decide ((false != eqDv (cnt (win o s.length)) (cnt (win s s.length))) = decide (o ∈ Ts s))) (ExT.and (ExT.test (Ex.bin (Ex.cb (ExA.cons (Ex.var rfl) .nil) run_lenS) (Ex.cb (ExA.cons (Ex.var rfl) .nil) run_lenS) (Rn2.eqX (r2_eq (r := rN) (by decide))))) fun _ => ExT.test (Ex.bin (Ex.bin (Ex.call (ExA.cons (Ex.var rfl) (ExA.cons (Ex.cb (ExA.cons (Ex.var rfl) .nil) run_lenS) .nil)) (run_ring_counts oc (by omega) hp (by omega)) rfl) (Ex.call (ExA.cons (Ex.var rfl) (ExA.cons (Ex.cb (ExA.cons (Ex.var rfl) .nil) run_lenS) .nil)) (run_ring_counts sc (by omega) hp (by omega)) rfl) (r2_eqXD false)) (Ex.eq (w := decide (o ∈ Ts s)) (Ex.bin (Ex.var rfl) (Ex.call (ExA.cons (Ex.var rfl) .nil) (run_turnings sc) rfl) (r2_in (by decide))) (decide_eq_decide.mpr Iff.rfl)) (Rn2.neX (r2_ne (r := rB) (by decide))))) ?b1 (W.next ?_)))
  case b1 =>
    by_cases hl : o.length = s.length
    · rw [alike_law hs.ne hl]
      simp
    · rw [decide_eq_false hl]; rfl
  refine WG.pure (W.ret (Ex.bin (Ex.call (ExA.cons (Ex.var rfl) (ExA.cons (Ex.var rfl) .nil)) (run_ring_counts sc (by omega) m1 (by omega)) rfl) (Ex.var rfl) (r2_eqXD false)) (retG_rt (by omega) ?_))
  rw [eqDv_refl]
  rfl
end Lk89

/-! k89T: the first full rings; signs exchanged -/
namespace Lk89
open PySem PySem.Spec PyProof.Rows L2 FL
def FRo (ss : List Nat) (n : Nat) : Option (List (List Nat)) := fr ss n 500 [] (some [ss.getD 0 default])
def FR (ss : List Nat) (n : Nat) : List Nat := ((FRo ss n).getD []).flatten
structure Ok (ss : List Nat) (n : Nat) : Prop where
  fn : Fn ss n
  fr : FRo ss n = some ((FRo ss n).getD [])
  sum : (((FRo ss n).getD []).map List.length).sum ≤ 1000
  len : (FR ss n).length = ss.length ^ n
  al : ∀ c ∈ FR ss n, c ∈ ss
  nd : (win (FR ss n) n).Nodup
  ix : ∀ c ∈ ss, ixS ss c = some (ss.idxOf c)
theorem ok_of {ss : List Nat} {n : Nat} (a1 : scB ss = true) (a2 : upB ss = true) (a3 : ss.length ≤ 4) (a4 : ss.Nodup) (a5 : 1 ≤ n) (a6 : n ≤ 8) (a7 : ss.length ^ n ≤ 256)
    (b1 : (FRo ss n).isSome = true) (b2 : (((FRo ss n).getD []).map List.length).sum ≤ 1000) (b3 : (FR ss n).length = ss.length ^ n) (b4 : ∀ c ∈ FR ss n, c ∈ ss) (b5 : (win (FR ss n) n).Nodup) (b6 : ∀ c ∈ ss, ixS ss c = some (ss.idxOf c)) : Ok ss n := by
  refine ⟨⟨⟨a1, a2, a3⟩, a4, ?_, a5, a6, a7⟩, ?_, b2, b3, b4, b5, b6⟩
  · unfold scB azB at a1
    rw [Bool.and_eq_true, List.all_eq_true] at a1
    exact fun c hc => of_decide_eq_true (a1.1 c hc)
  · obtain ⟨x, e⟩ := Option.isSome_iff_exists.mp b1
    rw [e]; rfl
theorem ok_ab4 : Ok [97, 98] 4 := by apply ok_of <;> decide +kernel
theorem ok_abc3 : Ok [97, 98, 99] 3 := by apply ok_of <;> decide +kernel
theorem ok_ab8 : Ok [97, 98] 8 := by apply ok_of <;> decide +kernel
theorem ok_a3 : Ok [97] 3 := by apply ok_of <;> decide +kernel
theorem ok_ab1 : Ok [97, 98] 1 := by apply ok_of <;> decide +kernel
theorem ok_ab2 : Ok [97, 98] 2 := by apply ok_of <;> decide +kernel
theorem ok_ab3 : Ok [97, 98] 3 := by apply ok_of <;> decide +kernel
theorem ok_bd3 : Ok [98, 100] 3 := by apply ok_of <;> decide +kernel
theorem ok_xyz1 : Ok [120, 121, 122] 1 := by apply ok_of <;> decide +kernel
theorem ok_xyz2 : Ok [120, 121, 122] 2 := by apply ok_of <;> decide +kernel
theorem ok_abcd1 : Ok [97, 98, 99, 100] 1 := by apply ok_of <;> decide +kernel
section
variable {ss : List Nat} {n : Nat}
theorem Ok.pos (h : Ok ss n) : 0 < ss.length := List.length_pos_iff.mpr h.fn.fs.Sc.ne
theorem Ok.ne (h : Ok ss n) : FR ss n ≠ [] := fun e => by
  have := h.len
  rw [e] at this
  have p := Nat.pow_pos (n := n) h.pos
  simp at this
  omega
theorem Ok.le (h : Ok ss n) : (FR ss n).length ≤ 256 := by rw [h.len]; exact h.fn.pw
theorem Ok.full (h : Ok ss n) : fullV ss n (FR ss n) = true := by
  rw [fullV_of h.fn h.ne h.al, decide_eq_true h.len, decide_eq_true h.nd]
  rfl
theorem run_told (h : Ok ss n) : Rn F_full_ring [⟨rS, ss⟩, ⟨rN, n⟩] rS (FR ss n) := run_full_ring h.fn.fs h.fn.n1 (by have := h.fn.n8; omega) h.fr h.sum
/-! ### signs exchanged -/
def exf (ss : List Nat) (ys : List (List Nat)) (c : Nat) : Nat := (ys.getD (ss.idxOf c) default).headD 0
variable {ys : List (List Nat)}
theorem exf_get (hp : ys.Perm (ss.map fun c => [c])) {c : Nat} (hc : c ∈ ss) : ss.idxOf c < ys.length ∧ ys.getD (ss.idxOf c) default = [exf ss ys c] ∧ exf ss ys c ∈ ss := by
  have hl := hp.length_eq
  rw [List.length_map] at hl
  have h1 : ss.idxOf c < ys.length := by rw [hl]; exact List.idxOf_lt_length_iff.mpr hc
  refine ⟨h1, ?_⟩
  unfold exf
  rw [List.getD_eq_getElem?_getD, List.getElem?_eq_getElem h1]
  have hm := hp.mem_iff.mp (List.getElem_mem h1)
  obtain ⟨d, hd, e⟩ := List.mem_map.mp hm
  have e : [d] = ys[ss.idxOf c] := e
  show ys[ss.idxOf c] = [(ys[ss.idxOf c]).headD 0] ∧ (ys[ss.idxOf c]).headD 0 ∈ ss
  rw [← e]
  exact ⟨rfl, hd⟩
theorem exf_inj (hn : ss.Nodup) (hp : ys.Perm (ss.map fun c => [c])) {c d : Nat} (hc : c ∈ ss) (hd : d ∈ ss) (e : exf ss ys c = exf ss ys d) : c = d := by
  obtain ⟨c1, c2, _⟩ := exf_get hp hc
  obtain ⟨d1, d2, _⟩ := exf_get hp hd
  have hy : ys.Nodup := hp.nodup_iff.mpr (by
    unfold List.Nodup at hn ⊢
    rw [List.pairwise_map]
    exact hn.imp fun h e => h (by injection e))
  rw [e, ← d2, List.getD_eq_getElem?_getD, List.getD_eq_getElem?_getD, List.getElem?_eq_getElem c1, List.getElem?_eq_getElem d1] at c2
  have c2 : ys[ss.idxOf c] = ys[ss.idxOf d] := c2
  have hi : ss.idxOf c = ss.idxOf d := (List.getElem_inj hy).mp c2
  have e1 : ss[ss.idxOf c]'(List.idxOf_lt_length_iff.mpr hc) = c := List.getElem_idxOf _
  have e2 : ss[ss.idxOf d]'(List.idxOf_lt_length_iff.mpr hd) = d := List.getElem_idxOf _
  rw [← e1, ← e2]
  congr 1
theorem win_map {s : List Nat} {n : Nat} {f : Nat → Nat} : win (s.map f) n = (win s n).map (List.map f) := by
  unfold win
  rw [List.length_map, List.map_map]
  refine List.map_congr_left fun i hi => ?_
  rw [List.mem_range] at hi
  show _ = List.map f _
  rw [List.map_map]
  refine List.map_congr_left fun k _ => ?_
  have := Nat.mod_lt (i + k) (show 0 < s.length by omega)
  show (s.map f).getD _ 0 = f (s.getD _ 0)
  rw [List.getD_eq_getElem?_getD, List.getD_eq_getElem?_getD, List.getElem?_map, List.getElem?_eq_getElem this]
  rfl
theorem map_inj_on {f : Nat → Nat} : ∀ {u v : List Nat}, (∀ c ∈ u, c ∈ ss) → (∀ c ∈ v, c ∈ ss) → (∀ c d, c ∈ ss → d ∈ ss → f c = f d → c = d) → u.map f = v.map f → u = v
  | [], [], _, _, _, _ => rfl
  | [], _ :: _, _, _, _, e => by cases e
  | _ :: _, [], _, _, _, e => by cases e
  | a :: u, b :: v, hu, hv, hf, e => by
    rw [List.map_cons, List.map_cons] at e
    injection e with e1 e2
    rw [hf a b (hu a List.mem_cons_self) (hv b List.mem_cons_self) e1, map_inj_on (fun c hc => hu c (List.mem_cons_of_mem _ hc)) (fun c hc => hv c (List.mem_cons_of_mem _ hc)) hf e2]
def EX (ss : List Nat) (n : Nat) (ys : List (List Nat)) : List Nat := (FR ss n).map (exf ss ys)
theorem EX_mem (h : Ok ss n) (hp : ys.Perm (ss.map fun c => [c])) : ∀ c ∈ EX ss n ys, c ∈ ss := fun c hc => by
  obtain ⟨d, hd, rfl⟩ := List.mem_map.mp hc
  exact (exf_get hp (h.al d hd)).2.2
theorem EX_ne (h : Ok ss n) : EX ss n ys ≠ [] := fun e => h.ne (List.map_eq_nil_iff.mp e)
theorem EX_len : (EX ss n ys).length = (FR ss n).length := by unfold EX; rw [List.length_map]
theorem EX_full (h : Ok ss n) (hp : ys.Perm (ss.map fun c => [c])) : fullV ss n (EX ss n ys) = true := by
  rw [fullV_of h.fn (EX_ne h) (EX_mem h hp), decide_eq_true (EX_len.trans h.len)]
  have : (win (EX ss n ys) n).Nodup := by
    unfold EX
    rw [win_map]
    have nd := h.nd
    unfold List.Nodup at nd ⊢
    rw [List.pairwise_map]
    refine nd.imp_of_mem fun {u v} hu hv huv e => huv ?_
    exact map_inj_on (stor_mem.mp (win_sub h.al u hu)).2 (stor_mem.mp (win_sub h.al v hv)).2 (fun c d hc hd e => exf_inj h.fn.nd hp hc hd e) e
  rw [decide_eq_true this]
  rfl
end
end Lk89

/-! k89U: the great full rings -/
namespace Lk89
open PySem PySem.Spec PyProof.Rows L2 FL
/-! ### the great ones -/
structure Vl (ss : List Nat) (v : List Nat) : Prop where
  ne : v ≠ []
  len : v.length ≤ 256
  al : ∀ c ∈ v, c ∈ ss
section
variable {ss : List Nat} {n : Nat} {ys : List (List Nat)}
theorem vl_of (h : Ok ss n) {v : List Nat} (hl : v.length = (FR ss n).length) (ha : ∀ c ∈ v, c ∈ ss) : Vl ss v := ⟨fun e => by
  have := h.ne
  rw [e] at hl
  exact this (List.length_eq_zero_iff.mp hl.symm), by rw [hl]; exact h.le, ha⟩
theorem vl_told (h : Ok ss n) : Vl ss (FR ss n) := vl_of h rfl h.al
theorem vl_ex (h : Ok ss n) (hp : ys.Perm (ss.map fun c => [c])) : Vl ss (EX ss n ys) := vl_of h EX_len (EX_mem h hp)
theorem fullV_vl {v : List Nat} (hv : Vl ss v) : fullV ss n v = decide (srt leS (win v n) = srt leS (stor ss n)) := by
  unfold fullV
  rw [decide_eq_false hv.ne, List.all_eq_true.mpr fun c hc => decide_eq_true (hv.al c hc)]
  rfl
theorem EX_join (hp : ys.Perm (ss.map fun c => [c])) (h : Ok ss n) : joinS [] (((FR ss n).map fun c => [c]).map fun x => ys.getD (ss.idxOf (x.headD 0)) default) = EX ss n ys := by
  rw [joinS_nil]
  unfold EX
  have : (((FR ss n).map fun c => [c]).map fun x => ys.getD (ss.idxOf (x.headD 0)) default) = ((FR ss n).map (exf ss ys)).map fun c => [c] := by
    rw [List.map_map, List.map_map]
    refine List.map_congr_left fun c hc => ?_
    exact (exf_get hp (h.al c hc)).2.1
  rw [this, flat_sing]
theorem ex_exchanged {Γ : Cn} (h : Ok ss n) (hp : ys.Perm (ss.map fun c => [c])) {a b c j : Nat} (ht : look Γ a = some ⟨rS, FR ss n⟩) (h1 : ∀ x : List Nat, look ((wipeC Γ [j]).set j (some ⟨rS, x⟩)) b = some ⟨rL rS, ys⟩) (h2 : ∀ x : List Nat, look ((wipeC Γ [j]).set j (some ⟨rS, x⟩)) c = some ⟨rS, ss⟩) (h3 : ∀ x : List Nat, look ((wipeC Γ [j]).set j (some ⟨rS, x⟩)) j = some ⟨rS, x⟩) :
    Ex Γ (fBm .str mJoin (fC (.str [])) (faCons (fLc false (iList (fVar a)) (hName j) fYes (fBin gIx (fVar b) (fBm .str mIndexS (fVar c) (faCons (fVar j) faNil))) [j]) faNil)) rS (EX ss n ys) := by
  rw [← EX_join hp h]
  refine Ex.join (Ex.cS []) (Ex.lcY (r := rS) (s := rS) (xs := (FR ss n).map fun c => [c]) (q := fun x => ys.getD (ss.idxOf (x.headD 0)) default) (ExI.str (Ex.var ht)) (fun _ _ => Bd.name) (fun x hx => ?_)) ?_
  · obtain ⟨d, hd, rfl⟩ := List.mem_map.mp hx
    have hm := h.al d hd
    exact Ex.bin (Ex.var (h1 _)) (Ex.indexS (Ex.var (h2 _)) (Ex.var (h3 _)) (h.ix d hm)) (r2_ixLm (exf_get hp hm).1)
  · have e : ((((FR ss n).map fun c => [c]).map fun x => ys.getD (ss.idxOf (x.headD 0)) default).map List.length).sum = (FR ss n).length := by
      rw [sing_sum]
      · simp
      · intro x hx
        obtain ⟨w, hw, rfl⟩ := List.mem_map.mp hx
        obtain ⟨d, hd, rfl⟩ := List.mem_map.mp hw
        show (ys.getD (ss.idxOf d) default).length = 1
        rw [(exf_get hp (h.al d hd)).2.1]
        rfl
    rw [e]
    have := h.le
    simp
    unfold FL.lim
    omega
end
theorem run_great_right : RnG F__law_great_right (fun n => [⟨rC, n⟩]) rB (· = true) 54 := by
  have hkB : kB = 100000000000 := rfl
  refine RnG.of (fun n k hk => ?_)
  refine WG.seq (WG.forG (σ := Unit) (r := rP rS rN) (xs := [([97, 98], 4), ([97, 98, 99], 3), ([97, 98], 8)]) (is := [1, 2]) (fun _ => ([some ⟨rC, n⟩, none, none, none, none, none, none, none, none, none], [])) (fun _ _ => True) () 18 (ExI.list (Ex.lst (ExL.cons (Ex.pair (Ex.cS [97, 98]) (Ex.cN 4)) (ExL.cons (Ex.pair (Ex.cS [97, 98, 99]) (Ex.cN 3)) (ExL.cons (Ex.pair (Ex.cS [97, 98]) (Ex.cN 8)) ExL.nil))))) ⟨.refl, rfl⟩ trivial (fun j hj _ k' _ hkk => ?_) (fun _ _ _ h => h) (fun _ _ => ?_))
  · have hok : Ok ([(([97, 98], 4) : List Nat × Nat), ([97, 98, 99], 3), ([97, 98], 8)][j]).1 ([(([97, 98], 4) : List Nat × Nat), ([97, 98, 99], 3), ([97, 98], 8)][j]).2 := by
      have : ∀ x ∈ [(([97, 98], 4) : List Nat × Nat), ([97, 98, 99], 3), ([97, 98], 8)], Ok x.1 x.2 := by
        intro x hx
        rcases List.mem_cons.mp hx with rfl | hx
        · exact ok_ab4
        · rcases List.mem_cons.mp hx with rfl | hx
          · exact ok_abc3
          · rw [List.mem_singleton.mp hx]; exact ok_ab8
      exact this _ (List.getElem_mem hj)
    generalize [(([97, 98], 4) : List Nat × Nat), ([97, 98, 99], 3), ([97, 98], 8)][j] = x at hok
    obtain ⟨ss, m⟩ := x
    have hok : Ok ss m := hok
    have hkk : k' + 18 ≤ k + 54 := hkk
    refine ⟨_, BdI.pair BdI.name BdI.name, by simp, ?_⟩
    have s4 := hok.fn.fs.len
    have m8 := hok.fn.n8
    have m1 := hok.fn.n1
    have frl := hok.le
    have run_st : Rn F__law_stories [⟨rS, ss⟩, ⟨rN, m⟩] (rL rS) (stor ss m) := run_stories hok.pos (by omega) (by have := hok.fn.pw; omega)
    refine WG.seq (WG.asgBG (r := rT rS (rL rS) (rL rS)) (k1 := k' + 12) (φ := fun v => v.1 = FR ss m ∧ v.2.1 = srt leS (stor ss m) ∧ v.2.2.Perm (ss.map fun c => [c])) (ExG.trip1 (x := FR ss m) (y := srt leS (stor ss m)) (φ := fun v => v.Perm (ss.map fun c => [c])) (Ex.call (ExA.cons (Ex.var rfl) (ExA.cons (Ex.var rfl) .nil)) (run_told hok) rfl) (Ex.cb (ExA.cons (Ex.call (ExA.cons (Ex.var rfl) (ExA.cons (Ex.var rfl) .nil)) run_st rfl) .nil) run_sortXS) (ExG.imp (ExG.call (c := 3 * (ss.map fun c => [c]).length) (es := fun n => [⟨rC, n⟩, ⟨rL rS, ss.map fun c => [c]⟩]) (ExA.cons (Ex.var rfl) (ExA.cons (Ex.cb (ExA.cons (Ex.var rfl) .nil) run_listS) .nil)) (run_drawn_order (by rw [List.length_map]; omega)) (by rw [List.length_map]; omega) rfl) (fun _ h => h) (by rw [List.length_map]; omega))) (fun v _ => Bd.trip Bd.name Bd.name Bd.name) (fun v hv => ?_))
    obtain ⟨t, w, ys⟩ := v
    obtain ⟨e1, e2, hp⟩ := hv
    have e1 : t = FR ss m := e1
    have e2 : w = srt leS (stor ss m) := e2
    have hp : ys.Perm (ss.map fun c => [c]) := hp
    subst e1 e2
    have vt := vl_told hok
    have ve := vl_ex hok hp
    refine WG.seq (WG.pure (W.asg (r := rS) (v := EX ss m ys) (ex_exchanged hok hp (a := 5) (b := 7) (c := 1) (j := 9) rfl (fun _ => rfl) (fun _ => rfl) (fun _ => rfl)) ?_))
    have run_nb : ∀ {v : List Nat}, Vl ss v → v.length = (FR ss m).length → RnG F__law_neighbours (fun n => [⟨rC, n⟩, ⟨rS, v⟩]) rS (Vl ss) 3 := fun {v} hv hl => RnG.imp' (run_neighbours (by have := hv.len; omega)) fun t ht => vl_of hok (ht.1.trans hl) (fun c hc => hv.al c (ht.2 c hc))
    refine WG.seq (WG.forGI (σ := Unit) (r := rS) (is := [4]) (k1 := k' + 12 + 3 + 3) (fun _ => ([some ⟨rC, n⟩, some ⟨rS, ss⟩, some ⟨rN, m⟩, some ⟨rS, EX ss m ys⟩, none, some ⟨rS, FR ss m⟩, some ⟨rL rS, srt leS (stor ss m)⟩, none, none, none], [])) (fun _ _ => True) () 0 (φ := fun vs => (∀ v ∈ vs, Vl ss v) ∧ vs.length ≤ 5)
      (ExIG.list (ExG.lst (ExLG.imp (ExLG.cons (φ := Vl ss) (k1 := k' + 12) ?a1 fun _ _ => ExLG.cons (φ := Vl ss) (k1 := k' + 12) ?a2 fun _ _ => ExLG.cons (φ := Vl ss) (k1 := k' + 12) ?a3 fun _ _ => ExLG.cons (φ := Vl ss) (k1 := k' + 12 + 3) ?a4 fun _ _ => ExLG.cons (φ := Vl ss) (k1 := k' + 12 + 3 + 3) ?a5 fun _ _ => ExLG.nil) (ψ := fun vs => (∀ v ∈ vs, Vl ss v) ∧ vs.length ≤ 5) ?vs (Nat.le_refl _)) (fun xs h => by have := h.2; unfold FL.lim; omega))) ⟨by repeat' first | exact Sub.nil | apply Sub.keep | apply Sub.drop, rfl⟩ trivial ?bd (fun _ _ _ h => h) ?fin)
    case bd =>
      intro vs hvs i hi _ k2 _ hk2
      have hv := hvs.1 _ (List.getElem_mem hi)
      generalize vs[i] = v at hv
      have vl := hv.len
      refine ⟨_, BdI.name, by simp, ?_⟩
      refine WG.pure (W.seq (W.asg (r := rB) (v := decide (srt leS (win v m) = srt leS (stor ss m))) (Ex.bin (Ex.cb (ExA.cons (Ex.call (ExA.cons (Ex.var rfl) (ExA.cons (Ex.var rfl) .nil)) (run_law_windows (by omega) (by omega)) rfl) .nil) run_sortXS) (Ex.var rfl) (r2_eq (by decide))) (W.ff (b := !true) (ExT.not (ExT.test (Ex.call (ExA.cons (Ex.call (ExA.cons (Ex.var rfl) (ExA.cons (Ex.var rfl) (ExA.cons (Ex.var rfl) .nil))) (run_is_full hok.fn (by omega)) rfl) (ExA.cons (Ex.var rfl) .nil)) (run_exact (fullV_vl hv) (by decide)) rfl))) rfl (W.next ⟨Nat.le_refl _, (), trivial, by repeat' first | exact Sub.nil | apply Sub.keep | apply Sub.drop, rfl⟩))))
    case fin =>
      intro vs hvs _ _
      refine WG.pure (W.ff (b := !(true == true) || !(true == true)) (ExT.or (ExT.test (Ex.bin (Ex.eq (Ex.call (ExA.cons (Ex.var rfl) (ExA.cons (Ex.var rfl) (ExA.cons (Ex.var rfl) .nil))) (run_is_full hok.fn (by omega)) rfl) hok.full) (Ex.cB true) r2_isNot)) fun _ => ExT.test (Ex.bin (Ex.eq (Ex.call (ExA.cons (Ex.var rfl) (ExA.cons (Ex.var rfl) (ExA.cons (Ex.var rfl) .nil))) (run_is_full hok.fn (by rw [EX_len]; omega)) rfl) (EX_full hok hp)) (Ex.cB true) r2_isNot)) rfl (W.next ⟨by omega, (), trivial, by repeat' first | exact Sub.nil | apply Sub.keep | apply Sub.drop, rfl⟩))
    case a1 => exact ExG.imp (ExG.pure (Ex.var rfl)) (fun v hv => by have hv : v = FR ss m := hv; rw [hv]; exact vt) (Nat.le_refl _)
    case a2 => exact ExG.imp (ExG.pure (Ex.var rfl)) (fun v hv => by have hv : v = EX ss m ys := hv; rw [hv]; exact ve) (Nat.le_refl _)
    case a3 =>
      refine ExG.imp (ExG.pure (Ex.bin (Ex.cutS (s := FR ss m) (lo := none) (hi := some (-1)) (Ex.var rfl) ExO.no (ExO.int (Ex.neg (Ex.cI 1)))) (Ex.bin (Ex.var rfl) (Ex.cN 0) (r2_ixSm hok.pos)) (r2_addS (by rw [cut_init, List.length_dropLast, List.length_singleton]; unfold FL.lim; omega)))) ?_ (Nat.le_refl _)
      intro v hv
      have hv : v = cut (FR ss m) none (some (-1)) ++ [ss.getD 0 default] := hv
      rw [hv, cut_init]
      have h0 := List.length_pos_iff.mpr hok.ne
      refine vl_of hok (by rw [List.length_append, List.length_dropLast, List.length_singleton]; omega) fun c hc => ?_
      rcases List.mem_append.mp hc with hc | hc
      · exact hok.al c (List.dropLast_subset _ hc)
      · rw [List.mem_singleton.mp hc, List.getD_eq_getElem?_getD, List.getElem?_eq_getElem hok.pos]
        exact List.getElem_mem hok.pos
    case a4 => exact ExG.call (es := fun n => [⟨rC, n⟩, ⟨rS, FR ss m⟩]) (ExA.cons (Ex.var rfl) (ExA.cons (Ex.var rfl) .nil)) (run_nb vt rfl) (by omega) rfl
    case a5 => exact ExG.call (es := fun n => [⟨rC, n⟩, ⟨rS, EX ss m ys⟩]) (ExA.cons (Ex.var rfl) (ExA.cons (Ex.var rfl) .nil)) (run_nb ve EX_len) (by omega) rfl
    case vs =>
      rintro vs ⟨a, va, ha, ⟨b, vb, hb, ⟨c, vc, hc, ⟨d, vd, hd, ⟨e, ve, he, h0, rfl⟩, rfl⟩, rfl⟩, rfl⟩, rfl⟩
      have h0 : ve = [] := h0
      subst h0
      refine ⟨fun v hv => ?_, by simp⟩
      simp only [List.mem_cons, List.not_mem_nil, or_false] at hv
      rcases hv with rfl | rfl | rfl | rfl | rfl <;> assumption
  · exact WG.pure (W.ret (Ex.cB true) (retG_rt (Nat.le_refl _) rfl))
end Lk89

/-! k89V: full rings judged by all stories -/
namespace Lk89
open PySem PySem.Spec PyProof.Rows L2 FL
/-! ### values of unlike kinds -/
inductive Mx where
  | s (x : List Nat) | u | l (x : List Nat)
@[irreducible] def rM : Rel Mx := ⟨fun M st d v => match v with
  | .s x => rS.at_ M st d x
  | .u => d = .non
  | .l x => (rL rS).at_ M st d (x.map fun c => [c]), fun {M M' st st' d v} e h => by
  cases v with
  | s x => exact rS.ext e h
  | u => exact h
  | l x => exact (rL rS).ext e h⟩
section
variable {M : List Nat} {st : Sto} {d : D}
theorem rM_s {x : List Nat} : rM.at_ M st d (.s x) ↔ rS.at_ M st d x := by unfold rM; exact Iff.rfl
theorem rM_u : rM.at_ M st d .u ↔ d = .non := by unfold rM; exact Iff.rfl
theorem rM_l {x : List Nat} : rM.at_ M st d (.l x) ↔ (rL rS).at_ M st d (x.map fun c => [c]) := by unfold rM; exact Iff.rfl
end
theorem W_conv {α β : Type} {Γ : Cn} {Ω : List Own} {s : FS} {Φ : Post} {r : Rel α} {t : Rel β} {x : α} {y : β} (i : Nat) (h : look Γ i = some ⟨r, x⟩) (c : ∀ M st d, r.at_ M st d x → t.at_ M st d y) (k : W (Γ.set i (some ⟨t, y⟩)) Ω s Φ) : W Γ Ω s Φ := fun M ks ρ st sat => by
  refine k M ks ρ st ⟨⟨by rw [List.length_set]; exact sat.sat.len, sat.sat.mot, fun j e q => ?_⟩, sat.len, sat.nd, sat.dis, fun j o k h1 h2 => ?_⟩
  · rcases look_set q with ⟨rfl, e1, _⟩ | ⟨_, q⟩
    · cases e1
      obtain ⟨d, h1, h2⟩ := sat.sat.at_ i _ h
      exact ⟨d, h1, c _ _ _ h2⟩
    · exact sat.sat.at_ j e q
  · obtain ⟨a, b, z⟩ := sat.own j o k h1 h2
    refine ⟨a, ?_, z⟩
    have ne : i ≠ o.i := fun e => by rw [← e, h] at b; cases b
    rw [look_ne ne]
    exact b
def fullL (ss : List Nat) (n : Nat) : List (List Nat) := (stor ss (ss.length ^ n)).filter fun s => decide (srt leS (win s n) = srt leS (stor ss n))
def minT (s : List Nat) : List Nat := minL ((Ts s).headD default) (Ts s).tail
def fwB (ss : List Nat) (n : Nat) : Bool := decide (ss.length ^ n < 10) && decide (ss.length < 3)
def upp (s : List Nat) : List Nat := (Txt.upper (sv s)).cps.toList
structure Ok3 (ss : List Nat) (n : Nat) : Prop where
  ok : Ok ss n
  uo : (upp (FR ss n)).all okCp = true
  ul : (upp (FR ss n)).length ≤ 600
  f0 : fwB ss n = true → (fullL ss n).getD 0 default = FR ss n ∧ fullL ss n ≠ [] ∧ hmf ss.length n = (uq [] (srt leS ((fullL ss n).map minT))).length
theorem ok3_a3 : Ok3 [97] 3 := by refine ⟨ok_a3, ?_, ?_, ?_⟩ <;> decide +kernel
theorem ok3_ab1 : Ok3 [97, 98] 1 := by refine ⟨ok_ab1, ?_, ?_, ?_⟩ <;> decide +kernel
theorem ok3_ab2 : Ok3 [97, 98] 2 := by refine ⟨ok_ab2, ?_, ?_, ?_⟩ <;> decide +kernel
theorem ok3_ab3 : Ok3 [97, 98] 3 := by refine ⟨ok_ab3, ?_, ?_, ?_⟩ <;> decide +kernel
theorem ok3_bd3 : Ok3 [98, 100] 3 := by refine ⟨ok_bd3, ?_, ?_, ?_⟩ <;> decide +kernel
theorem ok3_xyz1 : Ok3 [120, 121, 122] 1 := by refine ⟨ok_xyz1, ?_, ?_, ?_⟩ <;> decide +kernel
theorem ok3_xyz2 : Ok3 [120, 121, 122] 2 := by refine ⟨ok_xyz2, ?_, ?_, ?_⟩ <;> decide +kernel
theorem ok3_abcd1 : Ok3 [97, 98, 99, 100] 1 := by refine ⟨ok_abcd1, ?_, ?_, ?_⟩ <;> decide +kernel
def lot : List (List Nat × Nat) := [([97], 3), ([97, 98], 1), ([97, 98], 2), ([97, 98], 3), ([98, 100], 3), ([120, 121, 122], 1), ([120, 121, 122], 2), ([97, 98, 99, 100], 1)]
theorem lot_ok : ∀ x ∈ lot, Ok3 x.1 x.2 := by
  intro x hx
  unfold lot at hx
  simp only [List.mem_cons, List.not_mem_nil, or_false] at hx
  rcases hx with rfl | rfl | rfl | rfl | rfl | rfl | rfl | rfl
  · exact ok3_a3
  · exact ok3_ab1
  · exact ok3_ab2
  · exact ok3_ab3
  · exact ok3_bd3
  · exact ok3_xyz1
  · exact ok3_xyz2
  · exact ok3_abcd1

theorem pow_loop {n m : Nat} {ss : List Nat} {Φ : Post} (h1 : 1 ≤ m) (h8 : m ≤ 8) (h4 : ss.length ≤ 4)
    (q : Φ.nx [some ⟨rC, n⟩, some ⟨rN, ss.length ^ m⟩, none, none, none, none, none, none, none, none, some ⟨rS, ss⟩, some ⟨rN, m⟩, none, none, none] []) :
    W [some ⟨rC, n⟩, some ⟨rN, ss.length⟩, none, none, none, none, none, none, none, none, some ⟨rS, ss⟩, some ⟨rN, m⟩, none, none, none] [] (fFor (iRange1 (fBin gSub (fVar 11) (fC (.int 1)))) (hName 2) (fAsg (fBin gMul (fVar 1) (fCB kLen (faCons (fVar 10) faNil))) (hName 1))) Φ := by
  refine W.for_ (r := rN) (xs := List.range (m - 1)) (is := [2]) (fun i => ([some ⟨rC, n⟩, some ⟨rN, ss.length ^ (i + 1)⟩, none, none, none, none, none, none, none, none, some ⟨rS, ss⟩, some ⟨rN, m⟩, none, none, none], [])) (fun _ => True) (ExI.range1 (Ex.bin (Ex.var rfl) (Ex.cN 1) (r2_subN (x := m) (y := 1) h1)) (show m - 1 ≤ FL.lim by unfold FL.lim; omega)) ⟨?_, rfl⟩ trivial (fun j hj _ => ?_) (fun _ => ?_)
  · show Sub [_, some ⟨rN, ss.length ^ (0 + 1)⟩, _, _, _, _, _, _, _, _, _, _, _, _, _] _
    rw [Nat.zero_add, Nat.pow_one]
    exact .refl
  · refine ⟨_, BdI.name, by simp, W.asg (r := rN) (v := ss.length ^ (j + 1) * ss.length) (Ex.bin (Ex.var rfl) (Ex.cb (ExA.cons (Ex.var rfl) .nil) run_lenS) (r2_mulN (.inr (by omega)))) ⟨trivial, ?_, rfl⟩⟩
    show Sub [_, some ⟨rN, ss.length ^ (j + 1 + 1)⟩, _, _, _, _, _, _, _, _, _, _, _, _, _] _
    rw [Nat.pow_succ ss.length (j + 1)]
    repeat' first | exact Sub.nil | apply Sub.keep | apply Sub.drop
  · have e : (List.range (m - 1)).length + 1 = m := by rw [List.length_range]; omega
    show Φ.nx [_, some ⟨rN, ss.length ^ ((List.range (m - 1)).length + 1)⟩, _, _, _, _, _, _, _, _, _, _, _, _, _] _
    rw [e]
    exact q
def fE (o : Option (List (List Nat))) : Ent := match o with
  | some L => ⟨rL rS, L⟩
  | none => ⟨rU, ()⟩
/-- the values judged -/
def V6 (v : List Nat) : Prop := v.length ≤ 600
def okM (t : List Nat) (x : Mx) : Prop := match x with
  | .s v => V6 v
  | .u => True
  | .l v => v = t
def due (ss : List Nat) (n : Nat) (x : Mx) : Bool := match x with
  | .s v => fullV ss n v
  | _ => false
section
variable {ss : List Nat} {m n : Nat} {ys : List (List Nat)} {o : Option (List (List Nat))}
abbrev gU (n : Nat) (ss : List Nat) (m : Nat) (o : Option (List (List Nat))) (ys vs : List (List Nat)) (x t d : Option Ent) : Cn :=
  [some ⟨rC, n⟩, some ⟨rN, ss.length ^ m⟩, none, some ⟨rL rS, srt leS (stor ss m)⟩, some (fE o), some ⟨rS, FR ss m⟩, some ⟨rL rS, ys⟩, some ⟨rS, EX ss m ys⟩, some ⟨rL rS, vs⟩, x, some ⟨rS, ss⟩, some ⟨rN, m⟩, d, t, none]
theorem ex_due {vs : List (List Nat)} {s : List Nat} {h : Ok ss m} (hs : V6 s) : Ex (gU n ss m o ys vs (some ⟨rS, s⟩) none none) (fAndE (fCB kIsi (faCons (fVar 9) (faCons (fC (.ty .str)) faNil))) (fAndE (fBin gNe (fVar 9) (fC (.str []))) (fAndE (fBin gEq (fLc false (iList (fVar 9)) (hName 14) (fTest (fBin gNotIn (fVar 14) (fVar 10))) (fVar 14) [14]) (fLst faNil)) (fBin gEq (fCB kSortX (faCons (fCall 2 F__law_windows (faCons (fVar 9) (faCons (fVar 11) faNil))) faNil)) (fVar 3))))) rB (fullV ss m s) := by
  have n8 := h.fn.n8
  have hs : s.length ≤ 600 := hs
  have e : (true && (!decide (s = []) && ((((s.map fun c => [c]).filter fun x => !decide (x.headD 0 ∈ ss)).map fun x => x).isEmpty && decide (srt leS (win s m) = srt leS (stor ss m))))) = fullV ss m s := by
    rw [filt_all]
    rfl
  rw [← e]
  refine Ex.and (Ex.cb (ExA.cons (Ex.var rfl) (ExA.cons (Ex.cX _) .nil)) run_isi) fun _ => Ex.and (Ex.bin (Ex.var rfl) (Ex.cS []) (r2_ne (by decide))) fun _ => Ex.and (Ex.eqNil (Ex.lc (r := rS) (xs := s.map fun c => [c]) (c := fun x => !decide (x.headD 0 ∈ ss)) (q := fun x => x) (ExI.str (Ex.var rfl)) (fun _ _ => Bd.name) (fun x hx => ?_) (fun _ _ _ => Ex.var rfl)) inferInstance (by decide)) fun _ => Ex.bin (Ex.cb (ExA.cons (Ex.call (ExA.cons (Ex.var rfl) (ExA.cons (Ex.var rfl) .nil)) (run_law_windows (by omega) (by omega)) rfl) .nil) run_sortXS) (Ex.var rfl) (r2_eq (by decide))
  obtain ⟨c, _, rfl⟩ := List.mem_map.mp hx
  exact ExT.test (Ex.bin (Ex.var rfl) (Ex.var rfl) r2_notInC)
theorem judge {Φ : Post} {vs : List (List Nat)} {x : Mx} (h : Ok ss m) (hx : okM (FR ss m) x) (q : ∀ Γ, Sub (gU n ss m o ys vs none none none) Γ → Φ.nx Γ []) :
    W (gU n ss m o ys vs (some ⟨rM, x⟩) none none) [] (fSeq (fAsg (fAndE (fCB kIsi (faCons (fVar 9) (faCons (fC (.ty .str)) faNil))) (fAndE (fBin gNe (fVar 9) (fC (.str []))) (fAndE (fBin gEq (fLc false (iList (fVar 9)) (hName 14) (fTest (fBin gNotIn (fVar 14) (fVar 10))) (fVar 14) [14]) (fLst faNil)) (fBin gEq (fCB kSortX (faCons (fCall 2 F__law_windows (faCons (fVar 9) (faCons (fVar 11) faNil))) faNil)) (fVar 3))))) (hName 12))
  (fIf (fNotT (fTest (fCall 2 (F__law_exact 8) (faCons (fLst (faCons (fCall 3 F_is_full_ring (faCons (fVar 10) (faCons (fVar 11) (faCons (fVar 9) faNil)))) (faCons (fCallK [2, 1, 0] 3 F_is_full_ring (faCons (fVar 9) (faCons (fVar 11) (faCons (fVar 10) faNil)))) faNil))) (faCons (fLst (faCons (fVar 12) (faCons (fVar 12) faNil))) faNil))))) (fRet (fC (.bl false))) fNext)) Φ := by
  have fin : ∀ {τ : Type} {r : Rel τ} {v : τ} {b : Bool}, Rn F_is_full_ring [⟨rS, ss⟩, ⟨rN, m⟩, ⟨r, v⟩] rB b → W (gU n ss m o ys vs (some ⟨r, v⟩) none (some ⟨rB, b⟩)) [] (fIf (fNotT (fTest (fCall 2 (F__law_exact 8) (faCons (fLst (faCons (fCall 3 F_is_full_ring (faCons (fVar 10) (faCons (fVar 11) (faCons (fVar 9) faNil)))) (faCons (fCallK [2, 1, 0] 3 F_is_full_ring (faCons (fVar 9) (faCons (fVar 11) (faCons (fVar 10) faNil)))) faNil))) (faCons (fLst (faCons (fVar 12) (faCons (fVar 12) faNil))) faNil))))) (fRet (fC (.bl false))) fNext) Φ := fun {τ r v b} hr => by
    refine W.ff (b := !true) (ExT.not (ExT.test (Ex.call (ExA.cons (Ex.lst (xs := [b, b]) (ExL.cons (Ex.call (ExA.cons (Ex.var rfl) (ExA.cons (Ex.var rfl) (ExA.cons (Ex.var rfl) .nil))) hr rfl) (ExL.cons (Ex.callK (ExA.cons (Ex.var rfl) (ExA.cons (Ex.var rfl) (ExA.cons (Ex.var rfl) .nil))) (PickIs.cons rfl (PickIs.cons rfl (PickIs.cons rfl PickIs.nil))) hr rfl) ExL.nil))) (ExA.cons (Ex.lst (xs := [b, b]) (ExL.cons (Ex.var rfl) (ExL.cons (Ex.var rfl) ExL.nil))) .nil)) (run_exact rfl (by decide)) rfl))) rfl (W.next (q _ ?_))
    repeat' first | exact Sub.nil | apply Sub.keep | apply Sub.drop
  cases x with
  | s v =>
    have hv : V6 v := hx
    have hv6 : v.length ≤ 600 := hv
    refine W_conv (t := rS) (y := v) 9 rfl (fun _ _ _ z => rM_s.mp z) ?_
    exact W.seq (W.asg (r := rB) (v := fullV ss m v) (ex_due (h := h) hv) (fin (run_is_full h.fn (by omega))))
  | u =>
    refine W_conv (t := rU) (y := ()) 9 rfl (fun _ _ _ z => rU_at.mpr (rM_u.mp z)) ?_
    refine W.seq (W.asg (r := rB) (v := false) (Ex.eq (Ex.and (b := false) (c := true) (Ex.cb (ExA.cons (Ex.var rfl) (ExA.cons (Ex.cX _) .nil)) run_isi) (fun e => by cases e)) rfl) (fin (run_is_fullN h.fn rfl)))
  | l v =>
    refine W_conv (t := rL rS) (y := v.map fun c => [c]) 9 rfl (fun _ _ _ z => rM_l.mp z) ?_
    refine W.seq (W.asg (r := rB) (v := false) (Ex.eq (Ex.and (b := false) (c := true) (Ex.cb (ExA.cons (Ex.var rfl) (ExA.cons (Ex.cX _) .nil)) run_isi) (fun e => by cases e)) rfl) (fin (run_is_fullN h.fn rfl)))
end
end Lk89

/-! k89W: full rings judged by all stories: the law's look -/
namespace Lk89
open PySem PySem.Spec PyProof.Rows L2 FL
def loc (ss : List Nat) (n m : Nat) : Option (List (List Nat)) := if fwB ss m = true then some (fullL ss m) else none
section
variable {ss : List Nat} {m n : Nat} {ys : List (List Nat)}
theorem fw_pow (h : Ok ss m) (hb : fwB ss m = true) : ss.length ^ (ss.length ^ m) ≤ 1000 ∧ ss.length ^ m < 10 := by
  unfold fwB at hb
  rw [Bool.and_eq_true] at hb
  have h1 := of_decide_eq_true hb.1
  have h2 := of_decide_eq_true hb.2
  refine ⟨?_, h1⟩
  have h3 : ss.length ^ (ss.length ^ m) ≤ 2 ^ (ss.length ^ m) := Nat.pow_le_pow_left (by omega) _
  have h4 : 2 ^ (ss.length ^ m) ≤ 2 ^ 9 := Nat.pow_le_pow_right (by decide) (by omega)
  omega
theorem full_Sc (h : Ok ss m) (hb : fwB ss m = true) : ∀ s ∈ fullL ss m, Sc s := fun s hs => by
  have h1 := stor_mem.mp (List.mem_filter.mp hs).1
  have p := Nat.pow_pos (n := m) h.pos
  have h2 := (fw_pow h hb).2
  have h3 : s ≠ [] := fun e => by rw [e] at h1; simp at h1; omega
  have h4 : ∀ c ∈ s, c ∈ AZ := fun c hc => h.fn.az c (h1.2 c hc)
  have h5 := h1.1
  constructor <;> first | exact h3 | exact h4 | (first | omega | (unfold FL.lim; omega))
theorem Ts_ne {s : List Nat} (h : Sc s) : Ts s ≠ [] := fun e => by
  have h2 : rot s 0 ∈ Ts s := (Ts_mem h.ne).mpr ⟨0, rfl⟩
  rw [e] at h2
  cases h2
theorem ex_minT {Γ : Cn} {s : List Nat} {i : Nat} (h : Sc s) (hl : look Γ i = some ⟨rS, s⟩) : Ex Γ (fCB kMinA (faCons (fCall 1 F__law_turnings (faCons (fVar i) faNil)) faNil)) rS (minT s) := by
  have e : (Ts s).headD default :: (Ts s).tail = Ts s := by
    have := Ts_ne h
    cases q : Ts s with
    | nil => exact absurd q this
    | cons a b => rfl
  exact Ex.cb (ExA.cons (Ex.eq (Ex.call (ExA.cons (Ex.var hl) .nil) (run_turnings h) rfl) e.symm) .nil) run_minS
abbrev gA (n : Nat) (ss : List Nat) (m : Nat) (o t : Option Ent) : Cn :=
  [some ⟨rC, n⟩, some ⟨rN, ss.length ^ m⟩, none, some ⟨rL rS, srt leS (stor ss m)⟩, o, t, none, none, none, none, some ⟨rS, ss⟩, some ⟨rN, m⟩, none, none, none]
theorem pos_pow (h : Ok ss m) : 1 ≤ ss.length ^ m ∧ ss.length ^ m ≤ 256 := ⟨Nat.pow_pos h.pos, h.fn.pw⟩
/-- full = .. -/
theorem W_full {Φ : Post} (h : Ok ss m) (q : ∀ o, (o = none ∨ (fwB ss m = true ∧ o = some (fullL ss m))) → Φ.nx (gA n ss m (some (fE o)) none) []) :
    W (gA n ss m none none) [] (fAsg (fIfE (fAndT (fTest (fBin gLt (fVar 1) (fC (.int 10)))) (fTest (fBin gLt (fCB kLen (faCons (fVar 10) faNil)) (fC (.int 3))))) (fLc false (iList (fCall 2 F__law_stories (faCons (fVar 10) (faCons (fVar 1) faNil)))) (hName 13) (fTest (fBin gEq (fCB kSortX (faCons (fCall 2 F__law_windows (faCons (fVar 13) (faCons (fVar 11) faNil))) faNil)) (fVar 3))) (fVar 13) [13]) (fC .non)) (hName 4)) Φ := by
  have n8 := h.fn.n8
  have n1 := h.fn.n1
  have pp := pos_pow h
  have ht : ExT (gA n ss m none none) (fAndT (fTest (fBin gLt (fVar 1) (fC (.int 10)))) (fTest (fBin gLt (fCB kLen (faCons (fVar 10) faNil)) (fC (.int 3))))) (fwB ss m) := ExT.and (ExT.test (Ex.bin (Ex.var rfl) (Ex.cN 10) r2_ltN)) fun _ => ExT.test (Ex.bin (Ex.cb (ExA.cons (Ex.var rfl) .nil) run_lenS) (Ex.cN 3) r2_ltN)
  by_cases hb : fwB ss m = true
  · refine W.asg (r := rL rS) (v := fullL ss m) ?_ (q (some (fullL ss m)) (.inr ⟨hb, rfl⟩))
    have fp := fw_pow h hb
    have ex : Ex (gA n ss m none none) (fLc false (iList (fCall 2 F__law_stories (faCons (fVar 10) (faCons (fVar 1) faNil)))) (hName 13) (fTest (fBin gEq (fCB kSortX (faCons (fCall 2 F__law_windows (faCons (fVar 13) (faCons (fVar 11) faNil))) faNil)) (fVar 3))) (fVar 13) [13]) (rL rS) (fullL ss m) := by
      refine Ex.eq (Ex.lc (r := rS) (s := rS) (xs := stor ss (ss.length ^ m)) (c := fun s => decide (srt leS (win s m) = srt leS (stor ss m))) (q := fun s => s) (ExI.list (Ex.call (ExA.cons (Ex.var rfl) (ExA.cons (Ex.var rfl) .nil)) (run_stories h.pos (by omega) fp.1) rfl)) (fun _ _ => Bd.name) (fun s hs => ?_) (fun _ _ _ => Ex.var rfl)) (List.map_id' _)
      have hl := (stor_mem.mp hs).1
      exact ExT.test (Ex.bin (Ex.cb (ExA.cons (Ex.call (ExA.cons (Ex.var rfl) (ExA.cons (Ex.var rfl) .nil)) (run_law_windows (by omega) (by omega)) rfl) .nil) run_sortXS) (Ex.var rfl) (r2_eq (by decide)))
    exact Ex.eq (Ex.ite (x := fullL ss m) (y := []) ht (fun _ => ex) (fun e => by rw [hb] at e; cases e)) (if_pos hb)
  · exact W.asg (r := rU) (v := ()) (Ex.eq (Ex.ite (x := ()) (y := ()) ht (fun e => absurd e hb) (fun _ => Ex.cU)) rfl) (q none (.inl rfl))
/-- the first full ring, and how many -/
theorem W_first {Φ : Post} (h : Ok3 ss m) {o : Option (List (List Nat))} (ho : o = none ∨ (fwB ss m = true ∧ o = some (fullL ss m))) (q : Φ.nx (gA n ss m (some (fE o)) (some ⟨rS, FR ss m⟩)) []) :
    W (gA n ss m (some (fE o)) (some ⟨rS, FR ss m⟩)) [] (fIf (fAndT (fTest (fBin gIsNot (fVar 4) (fC .non))) (fOrT (fTest (fBin gNe (fVar 5) (fBin gIx (fVar 4) (fC (.int 0))))) (fTest (fBin gNe (fCall 2 F_how_many_full (faCons (fVar 10) (faCons (fVar 11) faNil))) (fCB kLen (faCons (fCall 1 F__law_unlike (faCons (fLc false (iList (fVar 4)) (hName 13) fYes (fCB kMinA (faCons (fCall 1 F__law_turnings (faCons (fVar 13) faNil)) faNil)) [13]) faNil)) faNil)))))) (fRet (fC (.bl false))) fNext) Φ := by
  rcases ho with rfl | ⟨hb, rfl⟩
  · refine W.ff (b := false && false) (ExT.and (ExT.test ?_) (fun e => by cases e)) rfl (W.next q)
    exact Ex.bin (Ex.var (r := rU) (v := ()) rfl) Ex.cU (fun M st d1 d2 a b => ⟨.bl false, by rw [rU_at.mp a, rU_at.mp b]; rfl, rB_at.mpr rfl⟩)
  · obtain ⟨f1, f2, f3⟩ := h.f0 hb
    refine W.ff (b := true && (!decide (FR ss m = (fullL ss m).getD 0 default) || !decide (hmf ss.length m = (uq [] (srt leS ((fullL ss m).map minT))).length))) (ExT.and (ExT.test ?_) fun _ => ExT.or (ExT.test (Ex.bin (Ex.var rfl) (Ex.bin (Ex.var (r := rL rS) (v := fullL ss m) rfl) (Ex.cN 0) (r2_ixLm (List.length_pos_iff.mpr f2))) (r2_ne (by decide)))) fun _ => ExT.test (Ex.bin (Ex.call (ExA.cons (Ex.var rfl) (ExA.cons (Ex.var rfl) .nil)) (run_how_many h.ok.fn.fs h.ok.fn.n1 h.ok.fn.n8) rfl) (Ex.cb (ExA.cons (Ex.call (ExA.cons (Ex.lcY (r := rS) (s := rS) (xs := fullL ss m) (q := minT) (ExI.list (Ex.var rfl)) (fun _ _ => Bd.name) (fun s hs => ex_minT (full_Sc h.ok hb s hs) rfl)) .nil) run_unlike rfl) .nil) run_lenL) (r2_ne (by decide)))) ?_ (W.next q)
    · exact Ex.bin (Ex.var (r := rL rS) (v := fullL ss m) rfl) Ex.cU (fun M st d1 d2 a b => ⟨.bl true, by
        rw [rU_at.mp b]
        obtain ⟨ds, z, _⟩ := rL_at.mp a
        rcases z with rfl | ⟨k, rfl, _⟩ <;> rfl, rB_at.mpr rfl⟩)
    · rw [f1, ← f3]
      simp
end
end Lk89

/-! k89X: full_right -/
namespace Lk89
open PySem PySem.Spec PyProof.Rows L2 FL
def sm (ys : List (List Nat)) : Prop := ∀ v ∈ ys, V6 v
theorem sm_app {xs ys : List (List Nat)} (h : sm xs) (k : sm ys) : sm (xs ++ ys) := fun v hv => (List.mem_append.mp hv).elim (h v) (k v)
theorem run_full_right : RnG F__law_full_right (fun n => [⟨rC, n⟩]) rB (· = true) 1600 := by
  have hkB : kB = 100000000000 := rfl
  refine RnG.of (fun n k hk => ?_)
  refine WG.seq (WG.asgBG (r := rP rS rN) (k1 := k + 3) (φ := fun v => v ∈ lot) (ExG.call (es := fun n => [⟨rC, n⟩, ⟨rL (rP rS rN), lot⟩]) (ExA.cons (Ex.var rfl) (ExA.cons (Ex.lst (ExL.cons (Ex.pair (Ex.cS [97]) (Ex.cN 3)) (ExL.cons (Ex.pair (Ex.cS [97, 98]) (Ex.cN 1)) (ExL.cons (Ex.pair (Ex.cS [97, 98]) (Ex.cN 2)) (ExL.cons (Ex.pair (Ex.cS [97, 98]) (Ex.cN 3)) (ExL.cons (Ex.pair (Ex.cS [98, 100]) (Ex.cN 3)) (ExL.cons (Ex.pair (Ex.cS [120, 121, 122]) (Ex.cN 1)) (ExL.cons (Ex.pair (Ex.cS [120, 121, 122]) (Ex.cN 2)) (ExL.cons (Ex.pair (Ex.cS [97, 98, 99, 100]) (Ex.cN 1)) ExL.nil)))))))) (hl := by decide)) .nil)) (run_pick (by decide)) (by omega) rfl) (fun v _ => Bd.pair Bd.name Bd.name) (fun v hv => ?_))
  have hok := lot_ok v hv
  obtain ⟨ss, m⟩ := v
  have h3 : Ok3 ss m := hok
  have h := h3.ok
  clear hok hv
  have n8 := h.fn.n8
  have n1 := h.fn.n1
  have pp := pos_pow h
  have s4 := h.fn.fs.len
  have frl := h.le
  have sne := h.ne
  have fpos := List.length_pos_iff.mpr sne
  have wd : srt leS (win (FR ss m) m) = srt leS (stor ss m) := by
    have e := h.full
    rw [fullV_vl (vl_told h)] at e
    exact of_decide_eq_true e
  have run_st : Rn F__law_stories [⟨rS, ss⟩, ⟨rN, m⟩] (rL rS) (stor ss m) := run_stories h.pos (by omega) (by omega)
  refine WG.seq (WG.pure (W.asg (r := rN) (v := ss.length) (Ex.cb (ExA.cons (Ex.var rfl) .nil) run_lenS) ?_))
  refine WG.seq (WG.pure (pow_loop n1 n8 s4 ?_))
  refine WG.seq (WG.pure (W.asg (r := rL rS) (v := srt leS (stor ss m)) (Ex.cb (ExA.cons (Ex.call (ExA.cons (Ex.var rfl) (ExA.cons (Ex.var rfl) .nil)) run_st rfl) .nil) run_sortXS) ?_))
  refine WG.seq (WG.pure (W_full h fun o ho => ?_))
  refine WG.seq (WG.pure (W.asg (r := rS) (v := FR ss m) (Ex.call (ExA.cons (Ex.var rfl) (ExA.cons (Ex.var rfl) .nil)) (run_told h) rfl) ?_))
  refine WG.seq (WG.pure (W.ff (b := !decide (srt leS (win (FR ss m) m) = srt leS (stor ss m)) || (!(true == true) || !decide (FR ss m = FR ss m))) (ExT.or (ExT.test (Ex.bin (Ex.cb (ExA.cons (Ex.call (ExA.cons (Ex.var rfl) (ExA.cons (Ex.var rfl) .nil)) (run_law_windows (by omega) (by omega)) rfl) .nil) run_sortXS) (Ex.var rfl) (r2_ne (by decide)))) fun _ => ExT.or (ExT.test (Ex.bin (Ex.eq (Ex.call (ExA.cons (Ex.var rfl) (ExA.cons (Ex.var rfl) (ExA.cons (Ex.var rfl) .nil))) (run_is_full h.fn (by omega)) rfl) h.full) (Ex.cB true) r2_isNot)) fun _ => ExT.test (Ex.bin (Ex.callK (ExA.cons (Ex.var rfl) (ExA.cons (Ex.var rfl) .nil)) (PickIs.cons rfl (PickIs.cons rfl PickIs.nil)) (run_told h) rfl) (Ex.var rfl) (r2_ne (by decide)))) (by rw [wd]; simp) (W.next ?_)))
  refine WG.seq (WG.pure (W_first h3 ho ?_))
  refine WG.seq (WG.asgG (r := rL rS) (k1 := k + 3 + 12) (ExG.imp (ExG.call (c := 3 * (ss.map fun c => [c]).length) (es := fun n => [⟨rC, n⟩, ⟨rL rS, ss.map fun c => [c]⟩]) (ExA.cons (Ex.var rfl) (ExA.cons (Ex.cb (ExA.cons (Ex.var rfl) .nil) run_listS) .nil)) (run_drawn_order (by rw [List.length_map]; omega)) (by rw [List.length_map]; omega) rfl) (fun _ h => h) (by rw [List.length_map]; omega)) (fun ys hp => ?_))
  have hp : ys.Perm (ss.map fun c => [c]) := hp
  have exl : (EX ss m ys).length = (FR ss m).length := EX_len
  refine WG.seq (WG.pure (W.asg (r := rS) (v := EX ss m ys) (ex_exchanged h hp (a := 5) (b := 6) (c := 10) (j := 14) rfl (fun _ => rfl) (fun _ => rfl) (fun _ => rfl)) ?_))
  have V6l : ∀ {v : List Nat}, v.length ≤ 600 → V6 v := fun z => z
  refine WG.seq (WG.asgG (r := rL rS) (k1 := k + 3 + 12 + 3) (ExG.lst (ExLG.imp (ExLG.cons (φ := V6) (k1 := k + 3 + 12) ?a1 fun _ _ => ExLG.cons (φ := V6) (k1 := k + 3 + 12) ?a2 fun _ _ => ExLG.cons (φ := V6) (k1 := k + 3 + 12 + 3) ?a3 fun _ _ => ExLG.cons (φ := V6) (k1 := k + 3 + 12 + 3) ?a4 fun _ _ => ExLG.cons (φ := V6) (k1 := k + 3 + 12 + 3) ?a5 fun _ _ => ExLG.cons (φ := V6) (k1 := k + 3 + 12 + 3) ?a6 fun _ _ => ExLG.cons (φ := V6) (k1 := k + 3 + 12 + 3) ?a7 fun _ _ => ExLG.cons (φ := V6) (k1 := k + 3 + 12 + 3) ?a8 fun _ _ => ExLG.nil) (ψ := fun vs => sm vs ∧ vs.length ≤ 8) ?vs (Nat.le_refl _)) (fun xs h => by have := h.2; unfold FL.lim; omega)) ?rest)
  case a1 => exact ExG.imp (ExG.pure (Ex.var rfl)) (fun v hv => by have hv : v = EX ss m ys := hv; rw [hv]; exact V6l (by omega)) (Nat.le_refl _)
  case a2 => exact ExG.imp (ExG.pure (Ex.revS (Ex.var rfl))) (fun v hv => by have hv : v = (EX ss m ys).reverse := hv; rw [hv]; exact V6l (by rw [List.length_reverse]; omega)) (Nat.le_refl _)
  case a3 => exact ExG.imp (ExG.call (es := fun n => [⟨rC, n⟩, ⟨rS, FR ss m⟩]) (ExA.cons (Ex.var rfl) (ExA.cons (Ex.var rfl) .nil)) (run_neighbours (by omega)) (by omega) rfl) (fun v hv => V6l (by rw [hv.1]; omega)) (Nat.le_refl _)
  case a4 => exact ExG.imp (ExG.pure (Ex.bin (Ex.bin (Ex.var rfl) (Ex.tkS (s := FR ss m) (n := m - 1) (Ex.var rfl) (Ex.bin (Ex.var rfl) (Ex.cN 1) (r2_subN (x := m) (y := 1) n1))) (r2_addS (by rw [List.length_take]; unfold FL.lim; omega))) (Ex.cS [113]) (r2_addS (by rw [List.length_append, List.length_take, List.length_singleton]; unfold FL.lim; omega)))) (fun v hv => by have hv : v = FR ss m ++ (FR ss m).take (m - 1) ++ [113] := hv; rw [hv]; exact V6l (by rw [List.length_append, List.length_append, List.length_take, List.length_singleton]; omega)) (Nat.le_refl _)
  case a5 => exact ExG.imp (ExG.pure (Ex.drS (s := FR ss m) (n := 1) (Ex.var rfl) (Ex.cN 1))) (fun v hv => by have hv : v = (FR ss m).drop 1 := hv; rw [hv]; exact V6l (by rw [List.length_drop]; omega)) (Nat.le_refl _)
  case a6 => exact ExG.imp (ExG.pure (Ex.bin (Ex.var rfl) (Ex.tkS (s := FR ss m) (n := 1) (Ex.var rfl) (Ex.cN 1)) (r2_addS (by rw [List.length_take]; unfold FL.lim; omega)))) (fun v hv => by have hv : v = FR ss m ++ (FR ss m).take 1 := hv; rw [hv]; exact V6l (by rw [List.length_append, List.length_take]; omega)) (Nat.le_refl _)
  case a7 => exact ExG.imp (ExG.pure (Ex.revS (Ex.var rfl))) (fun v hv => by have hv : v = (FR ss m).reverse := hv; rw [hv]; exact V6l (by rw [List.length_reverse]; omega)) (Nat.le_refl _)
  case a8 => exact ExG.imp (ExG.pure (Ex.bin (Ex.var rfl) (Ex.var rfl) (r2_addS (by unfold FL.lim; omega)))) (fun v hv => by have hv : v = FR ss m ++ FR ss m := hv; rw [hv]; exact V6l (by rw [List.length_append]; omega)) (Nat.le_refl _)
  case vs =>
    rintro vs ⟨a, va, ha, ⟨b, vb, hb, ⟨c, vc, hc, ⟨d, vd, hd, ⟨e, ve, he, ⟨f, vf, hf, ⟨g, vg, hg, ⟨i, vi, hi, h0, rfl⟩, rfl⟩, rfl⟩, rfl⟩, rfl⟩, rfl⟩, rfl⟩, rfl⟩
    have h0 : vi = [] := h0
    subst h0
    refine ⟨fun v hv => ?_, by simp⟩
    simp only [List.mem_cons, List.not_mem_nil, or_false] at hv
    rcases hv with rfl | rfl | rfl | rfl | rfl | rfl | rfl | rfl <;> assumption
  case rest =>
    intro vs0 hvs0
    obtain ⟨hv0, hl0⟩ := hvs0
    have ci : ∀ {w : List Nat}, w.length ≤ 256 → ∀ c : List Nat, c.length = 1 → (cut w none (some (-1)) ++ c).length ≤ 600 := fun {w} hw c hc => by
      rw [cut_init, List.length_append, List.length_dropLast, hc]
      omega
    have c1 : ∀ c ∈ ss.map (fun c => [c]), c.length = 1 := fun c hc => by obtain ⟨d, _, rfl⟩ := List.mem_map.mp hc; rfl
    have cl : ∀ {w : List Nat}, (w.map fun c => [c]).length = w.length := fun {w} => List.length_map ..
    refine WG.seq (WG.pure (W.asg (r := rL rS) (v := vs0 ++ (ss.map fun c => [c]).map (fun c => cut (FR ss m) none (some (-1)) ++ c) ++ (ss.map fun c => [c]).map (fun c => cut (EX ss m ys) none (some (-1)) ++ c)) (Ex.bin (Ex.bin (Ex.var rfl) (Ex.lcY (r := rS) (s := rS) (xs := ss.map fun c => [c]) (q := fun c => cut (FR ss m) none (some (-1)) ++ c) (ExI.str (Ex.var rfl)) (fun _ _ => Bd.name) (fun c hc => Ex.bin (Ex.cutS (s := FR ss m) (lo := none) (hi := some (-1)) (Ex.var rfl) ExO.no (ExO.int (Ex.neg (Ex.cI 1)))) (Ex.var rfl) (r2_addS (by rw [cut_init, List.length_dropLast, c1 c hc]; unfold FL.lim; omega)))) (r2_addL (by rw [List.length_map, cl]; unfold FL.lim; omega))) (Ex.lcY (r := rS) (s := rS) (xs := ss.map fun c => [c]) (q := fun c => cut (EX ss m ys) none (some (-1)) ++ c) (ExI.str (Ex.var rfl)) (fun _ _ => Bd.name) (fun c hc => Ex.bin (Ex.cutS (s := EX ss m ys) (lo := none) (hi := some (-1)) (Ex.var rfl) ExO.no (ExO.int (Ex.neg (Ex.cI 1)))) (Ex.var rfl) (r2_addS (by rw [cut_init, List.length_dropLast, c1 c hc]; unfold FL.lim; omega)))) (r2_addL (by simp only [List.length_append, List.length_map]; unfold FL.lim; omega))) ?_))
    have hv1 : sm (vs0 ++ (ss.map fun c => [c]).map (fun c => cut (FR ss m) none (some (-1)) ++ c) ++ (ss.map fun c => [c]).map (fun c => cut (EX ss m ys) none (some (-1)) ++ c)) := by
      refine sm_app (sm_app hv0 ?_) ?_
      · intro v hv
        obtain ⟨c, hc, rfl⟩ := List.mem_map.mp hv
        exact V6l (ci frl c (c1 c hc))
      · intro v hv
        obtain ⟨c, hc, rfl⟩ := List.mem_map.mp hv
        exact V6l (ci (by omega) c (c1 c hc))
    have hl1 : (vs0 ++ (ss.map fun c => [c]).map (fun c => cut (FR ss m) none (some (-1)) ++ c) ++ (ss.map fun c => [c]).map (fun c => cut (EX ss m ys) none (some (-1)) ++ c)).length ≤ 16 := by
      simp only [List.length_append, List.length_map]
      omega
    generalize vs0 ++ (ss.map fun c => [c]).map (fun c => cut (FR ss m) none (some (-1)) ++ c) ++ (ss.map fun c => [c]).map (fun c => cut (EX ss m ys) none (some (-1)) ++ c) = vs1 at hv1 hl1
    have sc : Sc (FR ss m) := by
      have h5 : ∀ c ∈ FR ss m, c ∈ AZ := fun c hc => h.fn.az c (h.al c hc)
      constructor <;> first | exact sne | exact h5 | (first | omega | (unfold FL.lim; omega))
    have rest2 : ∀ (k' : Nat) (vs : List (List Nat)), k' ≤ k + 1600 → sm vs → vs.length ≤ 56 → WG n k' (gU n ss m o ys vs none none none) [] (fSeq (fFor (iList (fBin gAdd (fVar 8) (fLst (faCons (fCall 2 F__law_turning (faCons (fVar 5) (faCons (fC (.int 1)) faNil))) (faCons (fC (.str [])) (faCons (fC .non) (faCons (fCB kList (faCons (fVar 5) faNil)) (faCons (fBm .str mUpper (fVar 5) faNil) (faCons (fBin gAdd (fCut (fVar 5) (foSome (fC (.int 1))) foNone) (fC (.str [113]))) faNil))))))))) (hName 9) (fSeq (fAsg (fAndE (fCB kIsi (faCons (fVar 9) (faCons (fC (.ty .str)) faNil))) (fAndE (fBin gNe (fVar 9) (fC (.str []))) (fAndE (fBin gEq (fLc false (iList (fVar 9)) (hName 14) (fTest (fBin gNotIn (fVar 14) (fVar 10))) (fVar 14) [14]) (fLst faNil)) (fBin gEq (fCB kSortX (faCons (fCall 2 F__law_windows (faCons (fVar 9) (faCons (fVar 11) faNil))) faNil)) (fVar 3))))) (hName 12))
  (fIf (fNotT (fTest (fCall 2 (F__law_exact 8) (faCons (fLst (faCons (fCall 3 F_is_full_ring (faCons (fVar 10) (faCons (fVar 11) (faCons (fVar 9) faNil)))) (faCons (fCallK [2, 1, 0] 3 F_is_full_ring (faCons (fVar 9) (faCons (fVar 11) (faCons (fVar 10) faNil)))) faNil))) (faCons (fLst (faCons (fVar 12) (faCons (fVar 12) faNil))) faNil))))) (fRet (fC (.bl false))) fNext)))
  (fRet (fC (.bl true)))) (retG (k + 1600) rB (· = true)) := by
      intro k' vs hk' hv hl
      refine WG.seq (WG.pure (W.for_ (r := rM) (xs := vs.map Mx.s ++ [Mx.s (rot (FR ss m) 1), Mx.s [], Mx.u, Mx.l (FR ss m), Mx.s (upp (FR ss m)), Mx.s ((FR ss m).drop 1 ++ [113])]) (is := [9]) (fun _ => (gU n ss m o ys vs none none none, [])) (fun _ => True) (ExI.list (Ex.bin (Ex.mapL (g := Mx.s) (Ex.var rfl) (fun _ _ _ _ a => rM_s.mpr a)) (Ex.lst (r := rM) (ExL.cons (v := Mx.s (rot (FR ss m) 1)) (Ex.conv (Ex.call (ExA.cons (Ex.var rfl) (ExA.cons (Ex.cN 1) .nil)) (run_turning sc (by decide)) rfl) (fun _ _ _ a => rM_s.mpr a)) (ExL.cons (v := Mx.s []) (Ex.conv (Ex.cS []) (fun _ _ _ a => rM_s.mpr a)) (ExL.cons (v := Mx.u) (Ex.conv Ex.cU (fun _ _ _ a => rM_u.mpr (rU_at.mp a))) (ExL.cons (v := Mx.l (FR ss m)) (Ex.conv (Ex.cb (ExA.cons (Ex.var rfl) .nil) run_listS) (fun _ _ _ a => rM_l.mpr a)) (ExL.cons (v := Mx.s (upp (FR ss m))) (Ex.conv (Ex.upperS (Ex.var rfl) rfl h3.uo (by have := h3.ul; unfold upp at this; unfold FL.lim; omega)) (fun _ _ _ a => rM_s.mpr a)) (ExL.cons (v := Mx.s ((FR ss m).drop 1 ++ [113])) (Ex.conv (Ex.bin (Ex.drS (s := FR ss m) (n := 1) (Ex.var rfl) (Ex.cN 1)) (Ex.cS [113]) (r2_addS (by rw [List.length_drop, List.length_singleton]; unfold FL.lim; omega))) (fun _ _ _ a => rM_s.mpr a)) ExL.nil))))))) (r2_addL (by rw [List.length_map]; show vs.length + 6 ≤ _; unfold FL.lim; omega)))) ⟨.refl, rfl⟩ trivial (fun j hj _ => ?_) (fun _ => ?_)))
      · refine ⟨_, BdI.name, by simp, judge h ?_ (fun Γ hs => ⟨trivial, hs, rfl⟩)⟩
        have : ∀ x ∈ vs.map Mx.s ++ [Mx.s (rot (FR ss m) 1), Mx.s [], Mx.u, Mx.l (FR ss m), Mx.s (upp (FR ss m)), Mx.s ((FR ss m).drop 1 ++ [113])], okM (FR ss m) x := by
          intro x hx
          rcases List.mem_append.mp hx with hx | hx
          · obtain ⟨v, hv', rfl⟩ := List.mem_map.mp hx
            exact hv v hv'
          · simp only [List.mem_cons, List.not_mem_nil, or_false] at hx
            rcases hx with rfl | rfl | rfl | rfl | rfl | rfl
            · show (rot (FR ss m) 1).length ≤ 600
              rw [FL.rot_length]; omega
            · show (0 : Nat) ≤ 600
              omega
            · trivial
            · rfl
            · exact h3.ul
            · show ((FR ss m).drop 1 ++ [113]).length ≤ 600
              rw [List.length_append, List.length_drop, List.length_singleton]; omega
        exact this _ (List.getElem_mem hj)
      · exact WG.pure (W.ret (Ex.cB true) (retG_rt hk' rfl))
    rcases ho with rfl | ⟨hb, rfl⟩
    · refine WG.seq (WG.pure (W.ff (b := false) (ExT.test ?_) rfl (W.next (rest2 _ vs1 (by omega) hv1 (by omega)))))
      exact Ex.bin (Ex.var (r := rU) (v := ()) rfl) Ex.cU (fun M st d1 d2 a b => ⟨.bl false, by rw [rU_at.mp a, rU_at.mp b]; rfl, rB_at.mpr rfl⟩)
    · have fp := fw_pow h hb
      have sl : (stor ss (ss.length ^ m)).length ≤ 512 := by
        rw [stor_len]
        have h3 : ss.length ^ (ss.length ^ m) ≤ 2 ^ (ss.length ^ m) := Nat.pow_le_pow_left (by
          unfold fwB at hb
          rw [Bool.and_eq_true] at hb
          have := of_decide_eq_true hb.2
          omega) _
        have h4 : 2 ^ (ss.length ^ m) ≤ 2 ^ 9 := Nat.pow_le_pow_right (by decide) (by omega)
        omega
      have dl : ∀ {vs : List (List Nat)}, (∃ xs k, (xs : List (List Nat)) = vs1 ∧ (∃ (zs : List (List Nat)) (j : Nat), zs.Perm (stor ss (ss.length ^ m)) ∧ j = 40 ∧ k = zs.take j) ∧ vs = xs ++ k) → sm vs ∧ vs.length ≤ 56 := by
        rintro vs ⟨xs, k, rfl, ⟨zs, j, hp, rfl, rfl⟩, rfl⟩
        refine ⟨sm_app hv1 fun v hv => ?_, by rw [List.length_append, List.length_take]; omega⟩
        have := (stor_mem.mp (hp.mem_iff.mp (List.mem_of_mem_take hv))).1
        exact V6l (by omega)
      refine WG.seq (WG.tt (b := true) (ExT.test ?_) rfl (WG.asgG (r := rL rS) (k1 := k + 3 + 12 + 3 + 3 * (stor ss (ss.length ^ m)).length) (ExG.bin (φ := (· = vs1)) (k1 := k + 3 + 12 + 3) (ψ := fun _ ys => ∃ (zs : List (List Nat)) (j : Nat), zs.Perm (stor ss (ss.length ^ m)) ∧ j = 40 ∧ ys = zs.take j) (z := fun a b => a ++ b) (ExG.pure (Ex.var rfl)) (fun _ _ => ExG.tk (φ := fun zs => zs.Perm (stor ss (ss.length ^ m))) (ψ := (· = 40)) (ExG.call (es := fun n => [⟨rC, n⟩, ⟨rL rS, stor ss (ss.length ^ m)⟩]) (ExA.cons (Ex.var rfl) (ExA.cons (Ex.call (ExA.cons (Ex.var rfl) (ExA.cons (Ex.var rfl) .nil)) (run_stories h.pos (by omega) fp.1) rfl) .nil)) (run_drawn_order (by omega)) (by omega) rfl) (fun _ _ => ExG.pure (Ex.cN 40))) ?ho) ?hr))
      · exact Ex.bin (Ex.var (r := rL rS) (v := fullL ss m) rfl) Ex.cU (fun M st d1 d2 a b => ⟨.bl true, by
          rw [rU_at.mp b]
          obtain ⟨ds, z, _⟩ := rL_at.mp a
          rcases z with rfl | ⟨k, rfl, _⟩ <;> rfl, rB_at.mpr rfl⟩)
      case ho =>
        rintro a b rfl ⟨zs, j, hp, rfl, rfl⟩
        exact r2_addL (by rw [List.length_take]; unfold FL.lim; omega)
      case hr =>
        intro vs hv
        obtain ⟨a, b, h1, h2, e⟩ := hv
        obtain ⟨d1, d2⟩ := dl ⟨a, b, h1, h2, e⟩
        exact rest2 _ vs (by omega) d1 d2
end Lk89

namespace Lk89
open PySem PySem.Spec PyProof.Rows L2 FL
def farL : List ((List Nat × Nat) × Nat) := [(([97, 98], 1), 1), (([97, 98], 2), 1), (([97, 98], 4), 16), (([97, 98], 5), 2048), (([97, 98, 99], 2), 24), (([97, 98, 99], 3), 373248), (([97], 4), 1)]
structure okF (x : (List Nat × Nat) × Nat) : Prop where
  fs : Fs x.1.1
  n1 : 1 ≤ x.1.2
  n8 : x.1.2 ≤ 8
  eq : hmf x.1.1.length x.1.2 = x.2
theorem far_ok : ∀ x ∈ farL, okF x := by
  intro x hx
  unfold farL at hx
  simp only [List.mem_cons, List.not_mem_nil, or_false] at hx
  rcases hx with rfl | rfl | rfl | rfl | rfl | rfl | rfl <;> exact ⟨⟨by decide +kernel, by decide +kernel, by decide +kernel⟩, by decide, by decide, by decide +kernel⟩
theorem long_is : FR [97, 98] 8 = FR [97, 98] 8 ∧ (FR [97, 98] 8).take 17 = [97, 97, 97, 97, 97, 97, 97, 97, 98, 97, 97, 97, 97, 97, 97, 98, 98] := ⟨rfl, by decide +kernel⟩
abbrev tailS : FS := (fSeq (fAsg (fLst (faCons (fTup (faCons (fTup (faCons (fC (.str [97, 98])) (faCons (fC (.int 1)) faNil))) (faCons (fC (.int 1)) faNil))) (faCons (fTup (faCons (fTup (faCons (fC (.str [97, 98])) (faCons (fC (.int 2)) faNil))) (faCons (fC (.int 1)) faNil))) (faCons (fTup (faCons (fTup (faCons (fC (.str [97, 98])) (faCons (fC (.int 4)) faNil))) (faCons (fC (.int 16)) faNil))) (faCons (fTup (faCons (fTup (faCons (fC (.str [97, 98])) (faCons (fC (.int 5)) faNil))) (faCons (fC (.int 2048)) faNil))) (faCons (fTup (faCons (fTup (faCons (fC (.str [97, 98, 99])) (faCons (fC (.int 2)) faNil))) (faCons (fC (.int 24)) faNil))) (faCons (fTup (faCons (fTup (faCons (fC (.str [97, 98, 99])) (faCons (fC (.int 3)) faNil))) (faCons (fC (.int 373248)) faNil))) (faCons (fTup (faCons (fTup (faCons (fC (.str [97])) (faCons (fC (.int 4)) faNil))) (faCons (fC (.int 1)) faNil))) faNil)))))))) (hName 2))
  (fSeq (fFor (iList (fVar 2)) (hTup 2 (hCons (hName 5) (hCons (hName 6) hNil))) (fIf (fNotT (fTest (fCall 2 (F__law_exact 8) (faCons (fLst (faCons (fCall 2 F_how_many_full (faCons (fBin gIx (fVar 5) (fC (.int 0))) (faCons (fBin gIx (fVar 5) (fC (.int 1))) faNil))) (faCons (fCallK [1, 0] 2 F_how_many_full (faCons (fBin gIx (fVar 5) (fC (.int 1))) (faCons (fBin gIx (fVar 5) (fC (.int 0))) faNil))) faNil))) (faCons (fLst (faCons (fVar 6) (faCons (fVar 6) faNil))) faNil))))) (fRet (fC (.bl false))) fNext))
  (fSeq (fAsg (fCall 2 F_full_ring (faCons (fC (.str [97, 98])) (faCons (fC (.int 8)) faNil))) (hName 3))
  (fRet (fAndE (fBin gEq (fCB kLen (faCons (fVar 3) faNil)) (fC (.int 256))) (fAndE (fBin gEq (fCut (fVar 3) foNone (foSome (fC (.int 17)))) (fC (.str [97, 97, 97, 97, 97, 97, 97, 97, 98, 97, 97, 97, 97, 97, 97, 98, 98]))) (fBin gIs (fCall 3 F_is_full_ring (faCons (fC (.str [97, 98])) (faCons (fC (.int 8)) (faCons (fVar 3) faNil)))) (fC (.bl true)))))))))
theorem tail_true {ρ : En} {st : Sto} (hl : ρ.length = 7) : ∃ st', tailS ρ st = .rt (.bl true) st' := by
  refine W.sp (Γ := [none, none, none, none, none, none, none]) ?_ hl (fun i => by match i with | 0 => rfl | 1 => rfl | 2 => rfl | 3 => rfl | 4 => rfl | 5 => rfl | 6 => rfl | i + 7 => rfl)
  refine W.seq (W.asg (r := rL (rP (rP rS rN) rN)) (v := farL) (Ex.lst (ExL.cons (Ex.pair (Ex.pair (Ex.cS [97, 98]) (Ex.cN 1)) (Ex.cN 1)) (ExL.cons (Ex.pair (Ex.pair (Ex.cS [97, 98]) (Ex.cN 2)) (Ex.cN 1)) (ExL.cons (Ex.pair (Ex.pair (Ex.cS [97, 98]) (Ex.cN 4)) (Ex.cN 16)) (ExL.cons (Ex.pair (Ex.pair (Ex.cS [97, 98]) (Ex.cN 5)) (Ex.cN 2048)) (ExL.cons (Ex.pair (Ex.pair (Ex.cS [97, 98, 99]) (Ex.cN 2)) (Ex.cN 24)) (ExL.cons (Ex.pair (Ex.pair (Ex.cS [97, 98, 99]) (Ex.cN 3)) (Ex.cN 373248)) (ExL.cons (Ex.pair (Ex.pair (Ex.cS [97]) (Ex.cN 4)) (Ex.cN 1)) ExL.nil))))))) (hl := by decide)) ?_)
  refine W.seq (W.for_ (r := rP (rP rS rN) rN) (xs := farL) (is := [5, 6]) (fun _ => ([none, none, some ⟨rL (rP (rP rS rN) rN), farL⟩, none, none, none, none], [])) (fun _ => True) (ExI.list (Ex.var rfl)) ⟨.refl, rfl⟩ trivial (fun j hj _ => ?_) (fun _ => ?_))
  · have ok := far_ok _ (List.getElem_mem hj)
    generalize farL[j] = x at ok
    obtain ⟨⟨ss, n⟩, z⟩ := x
    obtain ⟨o1, o2, o3, o4⟩ := ok
    have o4 : hmf ss.length n = z := o4
    refine ⟨_, BdI.pair BdI.name BdI.name, by simp, W.ff (b := !true) (ExT.not (ExT.test (Ex.call (ExA.cons (Ex.lst (xs := [hmf ss.length n, hmf ss.length n]) (ExL.cons (Ex.call (ExA.cons (Ex.bin (Ex.var rfl) (Ex.cN 0) r2_fst) (ExA.cons (Ex.bin (Ex.var rfl) (Ex.cN 1) r2_snd) .nil)) (run_how_many o1 o2 o3) rfl) (ExL.cons (Ex.callK (ExA.cons (Ex.bin (Ex.var rfl) (Ex.cN 1) r2_snd) (ExA.cons (Ex.bin (Ex.var rfl) (Ex.cN 0) r2_fst) .nil)) (PickIs.cons rfl (PickIs.cons rfl PickIs.nil)) (run_how_many o1 o2 o3) rfl) ExL.nil))) (ExA.cons (Ex.lst (xs := [z, z]) (ExL.cons (Ex.var rfl) (ExL.cons (Ex.var rfl) ExL.nil))) .nil)) (run_exact (by rw [o4]) (by decide)) rfl))) rfl (W.next ⟨trivial, by repeat' first | exact Sub.nil | apply Sub.keep | apply Sub.drop, rfl⟩)⟩
  · have fl := ok_ab8.len
    have e8 : ([97, 98] : List Nat).length ^ 8 = 256 := rfl
    rw [e8] at fl
    refine W.seq (W.asg (r := rS) (v := FR [97, 98] 8) (Ex.call (ExA.cons (Ex.cS [97, 98]) (ExA.cons (Ex.cN 8) .nil)) (run_told ok_ab8) rfl) ?_)
    refine W.ret (Ex.and (Ex.bin (Ex.cb (ExA.cons (Ex.var rfl) .nil) run_lenS) (Ex.cN 256) (r2_eq (by decide))) fun _ => Ex.and (Ex.bin (Ex.tkS (s := FR [97, 98] 8) (n := 17) (Ex.var rfl) (Ex.cN 17)) (Ex.cS [97, 97, 97, 97, 97, 97, 97, 97, 98, 97, 97, 97, 97, 97, 97, 98, 98]) (r2_eq (by decide))) fun _ => Ex.bin (Ex.call (ExA.cons (Ex.cS [97, 98]) (ExA.cons (Ex.cN 8) (ExA.cons (Ex.var rfl) .nil))) (run_is_full ok_ab8.fn (by omega)) rfl) (Ex.cB true) r2_is) (ret_rt ?_)
    show (decide ((FR [97, 98] 8).length = 256) && (decide ((FR [97, 98] 8).take 17 = _) && (fullV [97, 98] 8 (FR [97, 98] 8) == true))) = true
    rw [fl, long_is.2, ok_ab8.full]
    rfl
abbrev bodyS : FS := (fSeq (fAsg (fCall 2 F__law_generator (faCons (fVar 0) (faCons (fVar 1) faNil))) (hName 4))
  (fIf (fOrT (fNotT (fTest (fCall 1 F__law_counts_right (faCons (fVar 4) faNil)))) (fNotT (fTest (fCall 1 F__law_full_right (faCons (fVar 4) faNil))))) (fRet (fC (.bl false))) fNext))
theorem sp_law {ns : List Int} {st : Sto} : ∃ st', F_law [.ro (ns.map D.int)] st = .ok (.bl true) st' := by
  have hkB : kB = 100000000000 := rfl
  have gen : ∀ (j : Nat) (st : Sto), ∃ x y, F__law_generator [.ro (ns.map D.int), .int (j : Int)] st = .ok (.cel st.length) (st ++ [.lst [.int x, .int y, .int (1000 * j)]]) ∧ Gen (st ++ [.lst [.int x, .int y, .int (1000 * j)]]) st.length ((1000 * j : Nat) : Int) := fun j st => by
    obtain ⟨x, y, h1⟩ := sp_generator (ns := ns) (i := j) (st := st)
    refine ⟨x, y, h1, ?_⟩
    have := gen_new (st := st) (a := x) (b := y) (i := j)
    rw [show ((1000 * j : Nat) : Int) = 1000 * (j : Int) from by omega]
    exact this
  have step : ∀ (j : Nat), j < 3 → ∀ (a b : Option D) (st : Sto), ∃ a' b' st', ((hName 1 (.int (j : Int)) [some (.ro (ns.map D.int)), a, none, none, b, none, none] st).toO [some (.ro (ns.map D.int)), a, none, none, b, none, none] fun ρ1 st1 => bodyS ρ1 st1) = .nx [some (.ro (ns.map D.int)), a', none, none, b', none, none] st' := by
    intro j hj a b st
    obtain ⟨x, y, h1, g0⟩ := gen j st
    obtain ⟨st1, p1, p2⟩ := run_counts_right.sp g0 (by omega)
    obtain ⟨st2, q1, q2⟩ := run_full_right.sp p2 (by omega)
    refine ⟨some (.int (j : Int)), some (.cel st.length), st2, ?_⟩
    generalize (st ++ [Co.lst [.int x, .int y, .int (1000 * j)]]) = st0 at *
    generalize ns.map D.int = NS at *
    generalize (j : Int) = J at *
    generalize st.length = n at *
    simp [h1, p1, q1]
  obtain ⟨ρ', st', e, a, b, rfl⟩ := loopF_inv (g := hName 1) (b := bodyS)
    (p := fun j : Nat => D.int (j : Int)) (fun _ ρ _ => ∃ a b, ρ = [some (.ro (ns.map D.int)), a, none, none, b, none, none]) [0, 1, 2] 0 [some (.ro (ns.map D.int)), none, none, none, none, none, none] st ⟨none, none, rfl⟩ (fun k hk ρ s hI => by
      obtain ⟨a, b, rfl⟩ := hI
      have hk4 : ([0, 1, 2] : List Nat)[k] < 3 := by
        have : ∀ x ∈ ([0, 1, 2] : List Nat), x < 3 := by decide
        exact this _ (List.getElem_mem hk)
      obtain ⟨a', b', s', e⟩ := step _ hk4 a b s
      exact ⟨_, s', e, a', b', rfl⟩)
  obtain ⟨x, y, h1, g0⟩ := gen 0 st'
  obtain ⟨st1, p1, p2⟩ := run_great_right.sp g0 (by omega)
  obtain ⟨st2, e2⟩ := tail_true (ρ := [some (.ro (ns.map D.int)), a, none, none, b, none, none]) (st := st1) rfl
  refine ⟨st2, ?_⟩
  have hr : iRange1 (fC (.int 3)) [some (.ro (ns.map D.int)), none, none, none, none, none, none] st = .ok (.fix ([0, 1, 2].map fun j : Nat => D.int (j : Int))) st := rfl
  refine gen0_rt' rfl ?_
  unfold fb_law
  show fSeq _ (fSeq _ tailS) [some (.ro (ns.map D.int)), none, none, none, none, none, none] st = _
  rw [ev_Seq, ev_For, hr]
  show (match (loopF _ _ _ _ _) with | .nx ρ1 st1 => _ | o => o) = _
  rw [e]
  show fSeq _ tailS [some (.ro (ns.map D.int)), a, none, none, b, none, none] st' = _
  generalize tailS = TS at e2 ⊢
  generalize (st' ++ [Co.lst [.int x, .int y, .int (1000 * ((0 : Nat) : Int))]]) = st0 at *
  generalize ns.map D.int = NS at *
  have h1 : F__law_generator [.ro NS, .int 0] st' = .ok (.cel st'.length) st0 := h1
  generalize st'.length = n at *
  simp [h1, p1, e2]
end Lk89

namespace Lk89
open PySem PySem.Spec PyProof.Rows L2 FL
theorem le_lv {a b : Nat} (h : Nat.ble a b = true) : a ≤ b := Nat.le_of_ble_eq_true h
theorem le_add {a b n : Nat} (h : a ≤ b) : a ≤ n + b := Nat.le_trans h (Nat.le_add_left _ _)
structure Hy (K : PySem.W.Frag) (mg : Str → Option Value) : Prop where
  b_all : mg "all" = none
  b_bool : mg "bool" = none
  b_dict : mg "dict" = none
  b_int : mg "int" = none
  b_isinstance : mg "isinstance" = none
  b_len : mg "len" = none
  b_list : mg "list" = none
  b_max : mg "max" = none
  b_min : mg "min" = none
  b_range : mg "range" = none
  b_sorted : mg "sorted" = none
  b_str : mg "str" = none
  b_sum : mg "sum" = none
  b_tuple : mg "tuple" = none
  b_zip : mg "zip" = none
  g_SMALL : ∃ t, mg "SMALL" = some (.str (sv [97, 98, 99, 100, 101, 102, 103, 104, 105, 106, 107, 108, 109, 110, 111, 112, 113, 114, 115, 116, 117, 118, 119, 120, 121, 122]) t)
  f_is_whole : HasD K mg "is_whole" s_is_whole
  f_is_count : HasD K mg "is_count" s_is_count
  f_is_signs : HasD K mg "is_signs" s_is_signs
  f_is_story : HasD K mg "is_story" s_is_story
  f_is_scrap : HasD K mg "is_scrap" s_is_scrap
  f_check_scrap : HasD K mg "check_scrap" s_check_scrap
  f_check_ring_size : HasD K mg "check_ring_size" s_check_ring_size
  f_windows_round : HasD K mg "windows_round" s_windows_round
  f_ring_windows : HasD K mg "ring_windows" s_ring_windows
  f_ring_counts : HasD K mg "ring_counts" s_ring_counts
  f_power_of : HasD K mg "power_of" s_power_of
  f_check_full_signs : HasD K mg "check_full_signs" s_check_full_signs
  f_next_small : HasD K mg "next_small" s_next_small
  f_full_ring : HasD K mg "full_ring" s_full_ring
  f_is_full_ring : HasD K mg "is_full_ring" s_is_full_ring
  f_how_many_full : HasD K mg "how_many_full" s_how_many_full
  f__law_hash : HasD K mg "_law_hash" s__law_hash
  f__law_cell : HasD K mg "_law_cell" s__law_cell
  f__law_generator : HasD K mg "_law_generator" s__law_generator
  f__law_random : HasD K mg "_law_random" s__law_random
  f__law_pick : HasD K mg "_law_pick" s__law_pick
  f__law_drawn_order : HasD K mg "_law_drawn_order" s__law_drawn_order
  f__law_marked : HasD K mg "_law_marked" s__law_marked
  f__law_exact : HasD K mg "_law_exact" s__law_exact
  f__law_unlike : HasD K mg "_law_unlike" s__law_unlike
  f__law_scrap : HasD K mg "_law_scrap" s__law_scrap
  f__law_turning : HasD K mg "_law_turning" s__law_turning
  f__law_turnings : HasD K mg "_law_turnings" s__law_turnings
  f__law_stories : HasD K mg "_law_stories" s__law_stories
  f__law_windows : HasD K mg "_law_windows" s__law_windows
  f__law_counts_right : HasD K mg "_law_counts_right" s__law_counts_right
  f__law_neighbours : HasD K mg "_law_neighbours" s__law_neighbours
  f__law_great_right : HasD K mg "_law_great_right" s__law_great_right
  f__law_full_right : HasD K mg "_law_full_right" s__law_full_right
  f_law : HasD K mg "law" s_law
section
variable {P : Program} {w : World} {K : PySem.W.Frag} {mg : Str → Option Value} {base : Heap}
theorem sc_is_whole : FnScope N_is_whole ["value"] (defScope s_is_whole) := ⟨rfl, rfl, rfl, by decide +kernel, rfl, by decide +kernel, by decide +kernel⟩
theorem d_is_whole (h : Hy K mg) : DefC P w K mg base CX0 1 s_is_whole "is_whole" ["value"] F_is_whole :=
  DefC.of0 h.f_is_whole sc_is_whole (fun _ _ _ _ _ _ us hl => match us, hl with | [_], _ => rfl) clean_gen0 nox_gen0 (fun cdv A outer sh H E f hr =>
      (ss_one (ss_ret (se_and (se_callB (c_isi) h.b_isinstance (sa_cons (se_var (i := 0)) (sa_cons (se_ty .int h.b_int) sa_nil))) (se_one (se_not (se_callB (c_isi) h.b_isinstance (sa_cons (se_var (i := 0)) (sa_cons (se_ty .bool h.b_bool) sa_nil)))))))))
theorem sc_is_signs : FnScope N_is_signs ["value", "signs"] (defScope s_is_signs) := ⟨rfl, rfl, rfl, by decide +kernel, rfl, by decide +kernel, by decide +kernel⟩
theorem d_is_signs (h : Hy K mg) : DefC P w K mg base CX0 1 s_is_signs "is_signs" ["value", "signs"] F_is_signs :=
  DefC.of0 h.f_is_signs sc_is_signs (fun _ _ _ _ _ _ us hl => match us, hl with | [_, _], _ => rfl) clean_gen0 nox_gen0 (fun cdv A outer sh H E f hr =>
      (ss_one (ss_ret (se_and (se_callB (c_isi) h.b_isinstance (sa_cons (se_var (i := 0)) (sa_cons (se_ty .str h.b_str) sa_nil))) (se_one (se_cmp (o_eq hr.units) (se_lc false  (own := [("sign", 2)]) rfl sc_is_signs.nd (si_list (se_var (i := 0))) (blkOk (show blkB N_is_signs (defScope s_is_signs) _ _ = true by first | decide +kernel | rfl)) (fun _ _ _ _ _ => (sv_name (i := 2) sc_is_signs.nd)) (fun _ _ _ _ _ => (sp_one (st_cmp (o_notIn (RoomG.u65 hr)) (se_var (i := 2)) (se_var (i := 1))))) (fun _ _ _ _ _ => (se_var (i := 2)))) (se_lst sa_nil)))))))
theorem sc_windows_round : FnScope N_windows_round ["scrap", "size"] (defScope s_windows_round) := ⟨rfl, rfl, rfl, by decide +kernel, rfl, by decide +kernel, by decide +kernel⟩
theorem d_windows_round (h : Hy K mg) : DefC P w K mg base CX0 1 s_windows_round "windows_round" ["scrap", "size"] F_windows_round :=
  DefC.of0 h.f_windows_round sc_windows_round (fun _ _ _ _ _ _ us hl => match us, hl with | [_, _], _ => rfl) clean_gen0 nox_gen0 (fun cdv A outer sh H E f hr =>
      (ss_cons (ss_set (i := 2) sc_windows_round.nd (se_bin o_mul (se_var (i := 0)) (se_bin o_add (se_bin o_div (se_var (i := 1)) (se_callB (c_len) h.b_len (sa_cons (se_var (i := 0)) sa_nil))) se_int)))
      (ss_one (ss_ret (se_lc true  (own := [("at", 3)]) rfl sc_windows_round.nd (si_range1 h.b_range (se_callB (c_len) h.b_len (sa_cons (se_var (i := 0)) sa_nil))) (blkOk (show blkB N_windows_round (defScope s_windows_round) _ _ = true by first | decide +kernel | rfl)) (fun _ _ _ _ _ => (sv_name (i := 3) sc_windows_round.nd)) (fun _ _ _ _ _ => sp_nil) (fun _ _ _ _ _ => (se_cut (se_var (i := 2)) (so_some (se_var (i := 3))) (so_some (se_bin o_add (se_var (i := 3)) (se_var (i := 1)))))))))))
theorem sc_power_of : FnScope N_power_of ["many", "times"] (defScope s_power_of) := ⟨rfl, rfl, rfl, by decide +kernel, rfl, by decide +kernel, by decide +kernel⟩
theorem d_power_of (h : Hy K mg) : DefC P w K mg base CX0 1 s_power_of "power_of" ["many", "times"] F_power_of :=
  DefC.of0 h.f_power_of sc_power_of (fun _ _ _ _ _ _ us hl => match us, hl with | [_, _], _ => rfl) clean_gen0 nox_gen0 (fun cdv A outer sh H E f hr =>
      (ss_cons (ss_set (i := 2) sc_power_of.nd se_int)
      (ss_cons (ss_for PassesOwn.never rfl (si_range1 h.b_range (se_var (i := 1))) (sg_name (i := 3) sc_power_of.nd) (ss_one (ss_set (i := 2) sc_power_of.nd (se_bin o_mul (se_var (i := 2)) (se_var (i := 0))))))
      (ss_one (ss_ret (se_var (i := 2)))))))
theorem sc_next_small : FnScope N_next_small ["signs", "scrap", "size"] (defScope s_next_small) := ⟨rfl, rfl, rfl, by decide +kernel, rfl, by decide +kernel, by decide +kernel⟩
theorem d_next_small (h : Hy K mg) : DefC P w K mg base CX0 1 s_next_small "next_small" ["signs", "scrap", "size"] F_next_small :=
  DefC.of0 h.f_next_small sc_next_small (fun _ _ _ _ _ _ us hl => match us, hl with | [_, _, _], _ => rfl) clean_gen0 nox_gen0 (fun cdv A outer sh H E f hr =>
      (ss_cons (ss_set (i := 3) sc_next_small.nd (se_cut (se_bin o_mul (se_var (i := 1)) (se_bin o_add (se_bin o_div (se_var (i := 2)) (se_callB (c_len) h.b_len (sa_cons (se_var (i := 1)) sa_nil))) se_int)) so_none (so_some (se_var (i := 2)))))
      (ss_cons (ss_while 1000 PassesOwn.never (SW.st (sw_and (st_cmp (o_ne hr.units) (se_var (i := 3)) (se_str (s := []))) (sw_and1 (st_cmp (o_eq hr.units) (se_ix (RoomG.u1 hr) (se_var (i := 3)) (se_neg se_int)) (se_ix (RoomG.u1 hr) (se_var (i := 0)) (se_neg se_int)))))) (ss_one (ss_set (i := 3) sc_next_small.nd (se_cut (se_var (i := 3)) so_none (so_some (se_neg se_int))))))
      (ss_one (ss_ret (se_ifExp (st_cmp (o_eq hr.units) (se_var (i := 3)) (se_str (s := []))) se_non (se_bin o_add (se_cut (se_var (i := 3)) so_none (so_some (se_neg se_int))) (se_ix (RoomG.u1 hr) (se_var (i := 0)) (se_bin o_add (se_bm .str m_indexS pl_str sl_str_index rfl (se_var (i := 0)) (sa_cons (se_ix (RoomG.u1 hr) (se_var (i := 3)) (se_neg se_int)) sa_nil)) se_int)))))))))
theorem sc__law_hash : FnScope N__law_hash ["seed", "index"] (defScope s__law_hash) := ⟨rfl, rfl, rfl, by decide +kernel, rfl, by decide +kernel, by decide +kernel⟩
theorem d__law_hash (h : Hy K mg) : DefC P w K mg base CX0 1 s__law_hash "_law_hash" ["seed", "index"] F__law_hash :=
  DefC.of0 h.f__law_hash sc__law_hash (fun _ _ _ _ _ _ us hl => match us, hl with | [_, _], _ => rfl) clean_gen0 nox_gen0 (fun cdv A outer sh H E f hr =>
      (ss_cons (ss_set (i := 2) sc__law_hash.nd (se_bin o_mod (se_callTy c_int h.b_int (sa_cons (se_bin o_add (se_bin o_add (se_bin o_add (se_bin o_mul (se_var (i := 0)) se_int) (se_bin o_mul (se_bin o_mul se_int (se_var (i := 1))) (se_var (i := 1)))) (se_bin o_mul se_int (se_var (i := 1)))) se_int) sa_nil)) se_int))
      (ss_cons (ss_set (i := 2) sc__law_hash.nd (se_bin o_mod (se_callTy c_int h.b_int (sa_cons (se_bin o_add (se_bin o_add (se_bin o_mul (se_var (i := 2)) (se_var (i := 2))) (se_bin o_mul se_int (se_var (i := 1)))) se_int) sa_nil)) se_int))
      (ss_one (ss_ret (se_bin o_mod (se_callTy c_int h.b_int (sa_cons (se_bin o_mul (se_var (i := 2)) se_int) sa_nil)) se_int))))))
theorem sc__law_cell : FnScope N__law_cell ["script", "index"] (defScope s__law_cell) := ⟨rfl, rfl, rfl, by decide +kernel, rfl, by decide +kernel, by decide +kernel⟩
theorem d__law_cell (h : Hy K mg) : DefC P w K mg base CX0 1 s__law_cell "_law_cell" ["script", "index"] F__law_cell :=
  DefC.of0 h.f__law_cell sc__law_cell (fun _ _ _ _ _ _ us hl => match us, hl with | [_, _], _ => rfl) clean_gen0 nox_gen0 (fun cdv A outer sh H E f hr =>
      (ss_cons (ss_if (st_cmp o_lt (se_var (i := 1)) (se_callB (c_len) h.b_len (sa_cons (se_var (i := 0)) sa_nil))) (ss_one (ss_ret (se_ix (RoomG.u1 hr) (se_var (i := 0)) (se_var (i := 1))))) ss_nil)
      (ss_one (ss_ret (se_bin o_mod (se_callB (c_sum rfl) h.b_sum (sa_cons (se_cut (se_var (i := 0)) so_none (so_some se_int)) sa_nil)) se_int)))))
theorem sc__law_unlike : FnScope N__law_unlike ["items"] (defScope s__law_unlike) := ⟨rfl, rfl, rfl, by decide +kernel, rfl, by decide +kernel, by decide +kernel⟩
theorem d__law_unlike (h : Hy K mg) : DefC P w K mg base CX0 1 s__law_unlike "_law_unlike" ["items"] F__law_unlike :=
  DefC.of0 h.f__law_unlike sc__law_unlike (fun _ _ _ _ _ _ us hl => match us, hl with | [_], _ => rfl) clean_gen0 nox_gen0 (fun cdv A outer sh H E f hr =>
      (ss_cons (ss_set (i := 1) sc__law_unlike.nd (se_lstC sa_nil))
      (ss_cons (ss_for PassesOwn.never rfl (si_list (se_callB c_sorted h.b_sorted (sa_cons (se_var (i := 0)) sa_nil))) (sg_name (i := 2) sc__law_unlike.nd) (ss_one (ss_if (st_cmp (o_notIn (RoomG.u65 hr)) (se_var (i := 2)) (se_var (i := 1))) (ss_one (ss_expr (se_bm .list m_append pl_list sl_list_append rfl (se_var (i := 1)) (sa_cons (se_var (i := 2)) sa_nil)))) ss_nil)))
      (ss_one (ss_ret (se_var (i := 1)))))))
theorem sc__law_turning : FnScope N__law_turning ["scrap", "many"] (defScope s__law_turning) := ⟨rfl, rfl, rfl, by decide +kernel, rfl, by decide +kernel, by decide +kernel⟩
theorem d__law_turning (h : Hy K mg) : DefC P w K mg base CX0 1 s__law_turning "_law_turning" ["scrap", "many"] F__law_turning :=
  DefC.of0 h.f__law_turning sc__law_turning (fun _ _ _ _ _ _ us hl => match us, hl with | [_, _], _ => rfl) clean_gen0 nox_gen0 (fun cdv A outer sh H E f hr =>
      (ss_cons (ss_set (i := 2) sc__law_turning.nd (se_callTy (c_list rfl) h.b_list (sa_cons (se_var (i := 0)) sa_nil)))
      (ss_cons (ss_for PassesOwn.never rfl (si_range1 h.b_range (se_var (i := 1))) (sg_name (i := 3) sc__law_turning.nd) (ss_one (ss_set (i := 2) sc__law_turning.nd (se_bin o_add (se_cut (se_var (i := 2)) (so_some se_int) so_none) (se_cut (se_var (i := 2)) so_none (so_some se_int))))))
      (ss_one (ss_ret (se_bm .str m_join pl_str sl_str_join rfl (se_str (s := [])) (sa_cons (se_var (i := 2)) sa_nil)))))))
theorem sc__law_stories : FnScope N__law_stories ["signs", "size"] (defScope s__law_stories) := ⟨rfl, rfl, rfl, by decide +kernel, rfl, by decide +kernel, by decide +kernel⟩
theorem d__law_stories (h : Hy K mg) : DefC P w K mg base CX0 1 s__law_stories "_law_stories" ["signs", "size"] F__law_stories :=
  DefC.of0 h.f__law_stories sc__law_stories (fun _ _ _ _ _ _ us hl => match us, hl with | [_, _], _ => rfl) clean_gen0 nox_gen0 (fun cdv A outer sh H E f hr =>
      (ss_cons (ss_set (i := 2) sc__law_stories.nd (se_lst (sa_cons (se_str (s := [])) sa_nil)))
      (ss_cons (ss_for PassesOwn.never rfl (si_range1 h.b_range (se_var (i := 1))) (sg_name (i := 3) sc__law_stories.nd) (ss_one (ss_set (i := 2) sc__law_stories.nd (se_callB (c_sumA rfl) h.b_sum (sa_cons (se_lc false  (own := [("story", 4)]) rfl sc__law_stories.nd (si_list (se_var (i := 2))) (blkOk (show blkB N__law_stories (defScope s__law_stories) _ _ = true by first | decide +kernel | rfl)) (fun _ _ _ _ _ => (sv_name (i := 4) sc__law_stories.nd)) (fun _ _ _ _ _ => sp_nil) (fun _ _ _ _ _ => (se_lc false  (own := [("sign", 5)]) rfl sc__law_stories.nd (si_list (se_var (i := 0))) (blkOk (show blkB N__law_stories _ _ _ = true by first | decide +kernel | rfl)) (fun _ _ _ _ _ => (sv_name (i := 5) sc__law_stories.nd)) (fun _ _ _ _ _ => sp_nil) (fun _ _ _ _ _ => (se_bin o_add (se_var (i := 4)) (se_var (i := 5))))))) (sa_cons (se_lst sa_nil) sa_nil))))))
      (ss_one (ss_ret (se_var (i := 2)))))))
theorem sc__law_windows : FnScope N__law_windows ["scrap", "size"] (defScope s__law_windows) := ⟨rfl, rfl, rfl, by decide +kernel, rfl, by decide +kernel, by decide +kernel⟩
theorem d__law_windows (h : Hy K mg) : DefC P w K mg base CX0 1 s__law_windows "_law_windows" ["scrap", "size"] F__law_windows :=
  DefC.of0 h.f__law_windows sc__law_windows (fun _ _ _ _ _ _ us hl => match us, hl with | [_, _], _ => rfl) clean_gen0 nox_gen0 (fun cdv A outer sh H E f hr =>
      (ss_cons (ss_set (i := 2) sc__law_windows.nd (se_lstC sa_nil))
      (ss_cons (ss_for PassesOwn.never rfl (si_range1 h.b_range (se_callB (c_len) h.b_len (sa_cons (se_var (i := 0)) sa_nil))) (sg_name (i := 3) sc__law_windows.nd) (ss_one (ss_expr (se_bm .list m_append pl_list sl_list_append rfl (se_var (i := 2)) (sa_cons (se_bm .str m_join pl_str sl_str_join rfl (se_str (s := [])) (sa_cons (se_lc false  (own := [("step", 4)]) rfl sc__law_windows.nd (si_range1 h.b_range (se_var (i := 1))) (blkOk (show blkB N__law_windows (defScope s__law_windows) _ _ = true by first | decide +kernel | rfl)) (fun _ _ _ _ _ => (sv_name (i := 4) sc__law_windows.nd)) (fun _ _ _ _ _ => sp_nil) (fun _ _ _ _ _ => (se_ix (RoomG.u1 hr) (se_var (i := 0)) (se_bin o_mod (se_bin o_add (se_var (i := 3)) (se_var (i := 4))) (se_callB (c_len) h.b_len (sa_cons (se_var (i := 0)) sa_nil)))))) sa_nil)) sa_nil)))))
      (ss_one (ss_ret (se_var (i := 2)))))))
theorem sc_is_count : FnScope N_is_count ["value"] (defScope s_is_count) := ⟨rfl, rfl, rfl, by decide +kernel, rfl, by decide +kernel, by decide +kernel⟩
theorem d_is_count (h : Hy K mg) : DefC P w K mg base CX0 2 s_is_count "is_count" ["value"] F_is_count :=
  DefC.of0 h.f_is_count sc_is_count (fun _ _ _ _ _ _ us hl => match us, hl with | [_], _ => rfl) clean_gen0 nox_gen0 (fun cdv A outer sh H E f hr =>
      (ss_one (ss_ret (se_and (se_call (F := F_is_whole) (ps := ["value"]) (x := "is_whole") (s := s_is_whole) (DefC.mono (k := 1) (j := 1) (d_is_whole h) (le_lv (by decide))) hr pass_0 (sa_cons (se_var (i := 0)) sa_nil)) (se_one (se_cmp o_ge (se_var (i := 0)) se_int))))))
theorem sc_is_story : FnScope N_is_story ["value"] (defScope s_is_story) := ⟨rfl, rfl, rfl, by decide +kernel, rfl, by decide +kernel, by decide +kernel⟩
theorem d_is_story (h : Hy K mg) : DefC P w K mg base CX0 2 s_is_story "is_story" ["value"] F_is_story :=
  DefC.of0 h.f_is_story sc_is_story (fun _ _ _ _ _ _ us hl => match us, hl with | [_], _ => rfl) clean_gen0 nox_gen0 (fun cdv A outer sh H E f hr =>
      (ss_one (ss_ret (se_call (F := F_is_signs) (ps := ["value", "signs"]) (x := "is_signs") (s := s_is_signs) (DefC.mono (k := 1) (j := 1) (d_is_signs h) (le_lv (by decide))) hr pass_0 (sa_cons (se_var (i := 0)) (sa_cons (se_gstr (s := [97, 98, 99, 100, 101, 102, 103, 104, 105, 106, 107, 108, 109, 110, 111, 112, 113, 114, 115, 116, 117, 118, 119, 120, 121, 122]) h.g_SMALL) sa_nil))))))
theorem sc__law_generator : FnScope N__law_generator ["script", "index"] (defScope s__law_generator) := ⟨rfl, rfl, rfl, by decide +kernel, rfl, by decide +kernel, by decide +kernel⟩
theorem d__law_generator (h : Hy K mg) : DefC P w K mg base CX0 2 s__law_generator "_law_generator" ["script", "index"] F__law_generator :=
  DefC.of0 h.f__law_generator sc__law_generator (fun _ _ _ _ _ _ us hl => match us, hl with | [_, _], _ => rfl) clean_gen0 nox_gen0 (fun cdv A outer sh H E f hr =>
      (ss_cons (ss_set (i := 2) sc__law_generator.nd (se_call (F := F__law_cell) (ps := ["script", "index"]) (x := "_law_cell") (s := s__law_cell) (DefC.mono (k := 1) (j := 1) (d__law_cell h) (le_lv (by decide))) hr pass_0 (sa_cons (se_var (i := 0)) (sa_cons (se_var (i := 1)) sa_nil))))
      (ss_one (ss_ret (se_lstC (sa_cons (se_bin o_mod (se_callTy c_int h.b_int (sa_cons (se_callB (c_max rfl) h.b_max (sa_cons (se_bin o_sub (se_var (i := 2)) (se_bin o_pow se_int se_int)) (sa_cons se_int sa_nil))) sa_nil)) (se_bin o_pow (se_bin o_pow se_int se_int) se_int)) (sa_cons (se_bin o_mod (se_callTy c_int h.b_int (sa_cons (se_var (i := 2)) sa_nil)) se_int) (sa_cons (se_bin o_mul se_int (se_var (i := 1))) sa_nil))))))))
theorem sc__law_random : FnScope N__law_random ["generator", "bound"] (defScope s__law_random) := ⟨rfl, rfl, rfl, by decide +kernel, rfl, by decide +kernel, by decide +kernel⟩
theorem d__law_random (h : Hy K mg) : DefC P w K mg base CX0 2 s__law_random "_law_random" ["generator", "bound"] F__law_random :=
  DefC.of0 h.f__law_random sc__law_random (fun _ _ _ _ _ _ us hl => match us, hl with | [_, _], _ => rfl) clean_gen0 nox_gen0 (fun cdv A outer sh H E f hr =>
      (ss_cons (ss_if (st_cmp o_gt (se_ix (RoomG.u1 hr) (se_var (i := 0)) se_int) se_int) (ss_cons (ss_set (i := 2) sc__law_random.nd (se_bin o_mod (se_callTy c_int h.b_int (sa_cons (se_ix (RoomG.u1 hr) (se_var (i := 0)) se_int) sa_nil)) (se_var (i := 1))))
      (ss_cons (ss_asg (se_bin o_div (se_ix (RoomG.u1 hr) (se_var (i := 0)) se_int) (se_var (i := 1))) (sg_sub (RoomG.u1 hr) (se_var (i := 0)) se_int))
      (ss_one (ss_ret (se_var (i := 2)))))) ss_nil)
      (ss_cons (ss_set (i := 2) sc__law_random.nd se_int)
      (ss_cons (ss_for PassesOwn.never rfl (si_range1 h.b_range (se_bin o_add se_int (se_bin o_div (se_bits (se_var (i := 1))) se_int))) (sg_name (i := 3) sc__law_random.nd) (ss_cons (ss_asg (se_bin o_add (se_ix (RoomG.u1 hr) (se_var (i := 0)) se_int) se_int) (sg_sub (RoomG.u1 hr) (se_var (i := 0)) se_int))
      (ss_one (ss_set (i := 2) sc__law_random.nd (se_bin o_add (se_bin o_mul (se_var (i := 2)) se_int) (se_call (F := F__law_hash) (ps := ["seed", "index"]) (x := "_law_hash") (s := s__law_hash) (DefC.mono (k := 1) (j := 1) (d__law_hash h) (le_lv (by decide))) hr pass_0 (sa_cons (se_ix (RoomG.u1 hr) (se_var (i := 0)) se_int) (sa_cons (se_ix (RoomG.u1 hr) (se_var (i := 0)) se_int) sa_nil))))))))
      (ss_one (ss_ret (se_bin o_mod (se_callTy c_int h.b_int (sa_cons (se_var (i := 2)) sa_nil)) (se_var (i := 1)))))))))
theorem sc__law_turnings : FnScope N__law_turnings ["scrap"] (defScope s__law_turnings) := ⟨rfl, rfl, rfl, by decide +kernel, rfl, by decide +kernel, by decide +kernel⟩
theorem d__law_turnings (h : Hy K mg) : DefC P w K mg base CX0 2 s__law_turnings "_law_turnings" ["scrap"] F__law_turnings :=
  DefC.of0 h.f__law_turnings sc__law_turnings (fun _ _ _ _ _ _ us hl => match us, hl with | [_], _ => rfl) clean_gen0 nox_gen0 (fun cdv A outer sh H E f hr =>
      (ss_one (ss_ret (se_call (F := F__law_unlike) (ps := ["items"]) (x := "_law_unlike") (s := s__law_unlike) (DefC.mono (k := 1) (j := 1) (d__law_unlike h) (le_lv (by decide))) hr pass_0 (sa_cons (se_lc false  (own := [("many", 1)]) rfl sc__law_turnings.nd (si_range1 h.b_range (se_callB (c_len) h.b_len (sa_cons (se_var (i := 0)) sa_nil))) (blkOk (show blkB N__law_turnings (defScope s__law_turnings) _ _ = true by first | decide +kernel | rfl)) (fun _ _ _ _ _ => (sv_name (i := 1) sc__law_turnings.nd)) (fun _ _ _ _ _ => sp_nil) (fun _ _ _ _ _ => (se_call (F := F__law_turning) (ps := ["scrap", "many"]) (x := "_law_turning") (s := s__law_turning) (DefC.mono (k := 1) (j := 1) (d__law_turning h) (le_lv (by decide))) hr pass_0 (sa_cons (se_var (i := 0)) (sa_cons (se_var (i := 1)) sa_nil))))) sa_nil)))))
theorem sc_is_scrap : FnScope N_is_scrap ["value"] (defScope s_is_scrap) := ⟨rfl, rfl, rfl, by decide +kernel, rfl, by decide +kernel, by decide +kernel⟩
theorem d_is_scrap (h : Hy K mg) : DefC P w K mg base CX0 3 s_is_scrap "is_scrap" ["value"] F_is_scrap :=
  DefC.of0 h.f_is_scrap sc_is_scrap (fun _ _ _ _ _ _ us hl => match us, hl with | [_], _ => rfl) clean_gen0 nox_gen0 (fun cdv A outer sh H E f hr =>
      (ss_one (ss_ret (se_and (se_call (F := F_is_story) (ps := ["value"]) (x := "is_story") (s := s_is_story) (DefC.mono (k := 2) (j := 2) (d_is_story h) (le_lv (by decide))) hr pass_0 (sa_cons (se_var (i := 0)) sa_nil)) (se_one (se_cmp (o_ne hr.units) (se_var (i := 0)) (se_str (s := []))))))))
theorem sc_check_ring_size : FnScope N_check_ring_size ["size"] (defScope s_check_ring_size) := ⟨rfl, rfl, rfl, by decide +kernel, rfl, by decide +kernel, by decide +kernel⟩
theorem d_check_ring_size (h : Hy K mg) : DefC P w K mg base CX0 3 s_check_ring_size "check_ring_size" ["size"] F_check_ring_size :=
  DefC.of0 h.f_check_ring_size sc_check_ring_size (fun _ _ _ _ _ _ us hl => match us, hl with | [_], _ => rfl) clean_gen0 nox_gen0 (fun cdv A outer sh H E f hr =>
      (ss_one (ss_if (SW.st (sw_or (st_not (st_val (se_call (F := F_is_count) (ps := ["value"]) (x := "is_count") (s := s_is_count) (DefC.mono (k := 2) (j := 2) (d_is_count h) (le_lv (by decide))) hr pass_0 (sa_cons (se_var (i := 0)) sa_nil)))) (sw_or1 (st_cmp o_lt (se_var (i := 0)) se_int)))) (ss_one ss_never) ss_nil)))
theorem sc__law_pick : FnScope N__law_pick ["generator", "things"] (defScope s__law_pick) := ⟨rfl, rfl, rfl, by decide +kernel, rfl, by decide +kernel, by decide +kernel⟩
theorem d__law_pick (h : Hy K mg) : DefC P w K mg base CX0 3 s__law_pick "_law_pick" ["generator", "things"] F__law_pick :=
  DefC.of0 h.f__law_pick sc__law_pick (fun _ _ _ _ _ _ us hl => match us, hl with | [_, _], _ => rfl) clean_gen0 nox_gen0 (fun cdv A outer sh H E f hr =>
      (ss_one (ss_ret (se_ix (RoomG.u1 hr) (se_var (i := 1)) (se_call (F := F__law_random) (ps := ["generator", "bound"]) (x := "_law_random") (s := s__law_random) (DefC.mono (k := 2) (j := 2) (d__law_random h) (le_lv (by decide))) hr pass_0 (sa_cons (se_var (i := 0)) (sa_cons (se_callB (c_len) h.b_len (sa_cons (se_var (i := 1)) sa_nil)) sa_nil)))))))
theorem sc__law_drawn_order : FnScope N__law_drawn_order ["generator", "things"] (defScope s__law_drawn_order) := ⟨rfl, rfl, rfl, by decide +kernel, rfl, by decide +kernel, by decide +kernel⟩
theorem d__law_drawn_order (h : Hy K mg) : DefC P w K mg base CX0 3 s__law_drawn_order "_law_drawn_order" ["generator", "things"] F__law_drawn_order :=
  DefC.of0 h.f__law_drawn_order sc__law_drawn_order (fun _ _ _ _ _ _ us hl => match us, hl with | [_, _], _ => rfl) clean_gen0 nox_gen0 (fun cdv A outer sh H E f hr =>
      (ss_cons (ss_par (i := 2) (j := 3) rfl sc__law_drawn_order.nd (sa_cons (se_callTy (c_listC rfl) h.b_list (sa_cons (se_var (i := 1)) sa_nil)) (sa_cons (se_lstC sa_nil) sa_nil)))
      (ss_cons (ss_while 1000 PassesOwn.never (st_cmp (o_ne hr.units) (se_var (i := 2)) (se_lst sa_nil)) (ss_one (ss_expr (se_bm .list m_append pl_list sl_list_append rfl (se_var (i := 3)) (sa_cons (se_bm .list m_pop pl_list sl_list_pop rfl (se_var (i := 2)) (sa_cons (se_call (F := F__law_random) (ps := ["generator", "bound"]) (x := "_law_random") (s := s__law_random) (DefC.mono (k := 2) (j := 2) (d__law_random h) (le_lv (by decide))) hr pass_0 (sa_cons (se_var (i := 0)) (sa_cons (se_callB (c_len) h.b_len (sa_cons (se_var (i := 2)) sa_nil)) sa_nil))) sa_nil)) sa_nil)))))
      (ss_one (ss_ret (se_var (i := 3)))))))
theorem sc_check_scrap : FnScope N_check_scrap ["scrap"] (defScope s_check_scrap) := ⟨rfl, rfl, rfl, by decide +kernel, rfl, by decide +kernel, by decide +kernel⟩
theorem d_check_scrap (h : Hy K mg) : DefC P w K mg base CX0 4 s_check_scrap "check_scrap" ["scrap"] F_check_scrap :=
  DefC.of0 h.f_check_scrap sc_check_scrap (fun _ _ _ _ _ _ us hl => match us, hl with | [_], _ => rfl) clean_gen0 nox_gen0 (fun cdv A outer sh H E f hr =>
      (ss_one (ss_if (st_not (st_val (se_call (F := F_is_scrap) (ps := ["value"]) (x := "is_scrap") (s := s_is_scrap) (DefC.mono (k := 3) (j := 3) (d_is_scrap h) (le_lv (by decide))) hr pass_0 (sa_cons (se_var (i := 0)) sa_nil)))) (ss_one ss_never) ss_nil)))
theorem sc_check_full_signs : FnScope N_check_full_signs ["signs"] (defScope s_check_full_signs) := ⟨rfl, rfl, rfl, by decide +kernel, rfl, by decide +kernel, by decide +kernel⟩
theorem d_check_full_signs (h : Hy K mg) : DefC P w K mg base CX0 4 s_check_full_signs "check_full_signs" ["signs"] F_check_full_signs :=
  DefC.of0 h.f_check_full_signs sc_check_full_signs (fun _ _ _ _ _ _ us hl => match us, hl with | [_], _ => rfl) clean_gen0 nox_gen0 (fun cdv A outer sh H E f hr =>
      (ss_one (ss_if (SW.st (sw_or (st_not (st_val (se_call (F := F_is_scrap) (ps := ["value"]) (x := "is_scrap") (s := s_is_scrap) (DefC.mono (k := 3) (j := 3) (d_is_scrap h) (le_lv (by decide))) hr pass_0 (sa_cons (se_var (i := 0)) sa_nil)))) (sw_or1 (st_cmp (o_ne hr.units) (se_lc false  (own := [("at", 1)]) rfl sc_check_full_signs.nd (si_range2 h.b_range se_int (se_callB (c_len) h.b_len (sa_cons (se_var (i := 0)) sa_nil))) (blkOk (show blkB N_check_full_signs (defScope s_check_full_signs) _ _ = true by first | decide +kernel | rfl)) (fun _ _ _ _ _ => (sv_name (i := 1) sc_check_full_signs.nd)) (fun _ _ _ _ _ => (sp_one (st_cmp o_ge (se_ix (RoomG.u1 hr) (se_var (i := 0)) (se_bin o_sub (se_var (i := 1)) se_int)) (se_ix (RoomG.u1 hr) (se_var (i := 0)) (se_var (i := 1)))))) (fun _ _ _ _ _ => (se_var (i := 1)))) (se_lst sa_nil))))) (ss_one ss_never) ss_nil)))
theorem sc__law_marked : FnScope N__law_marked ["told"] (defScope s__law_marked) := ⟨rfl, rfl, rfl, by decide +kernel, rfl, by decide +kernel, by decide +kernel⟩
theorem st__law_marked (h : Hy K mg) {k : Nat} (hk : 0 ≤ k) {F : F1} (dr : ∀ {P : Program} {w : World} {base : Heap}, DefC P w K mg base CX0 k s__law_marked "_law_marked" ["told"] F) : DefC P w K mg base CX0 (k + 1) s__law_marked "_law_marked" ["told"] (genF0 N__law_marked 1 (fb__law_marked F)) :=
  DefC.of0 h.f__law_marked sc__law_marked (fun _ _ _ _ _ _ us hl => match us, hl with | [_], _ => rfl) clean_gen0 nox_gen0 (fun cdv A outer sh H E f hr =>
      (ss_cons (ss_if (st_val (se_callB (c_isi) h.b_isinstance (sa_cons (se_var (i := 0)) (sa_cons (se_ty .list h.b_list) sa_nil)))) (ss_cons (ss_if (SW.st (sw_and (st_cmp (o_ne hr.units) (se_var (i := 0)) (se_lst sa_nil)) (sw_and1 (st_cmp (o_eq hr.units) (se_ix (RoomG.u1 hr) (se_var (i := 0)) (se_neg se_int)) (se_str (s := [109, 97, 114, 107, 101, 100])))))) (ss_one (ss_ret se_bl)) ss_nil)
      (ss_cons (ss_setLc false (i := 1) (own := [("item", 2)]) rfl sc__law_marked.nd (si_list (se_var (i := 0))) (blkOk (show blkB N__law_marked (defScope s__law_marked) _ _ = true by first | decide +kernel | rfl)) (fun _ _ _ _ _ => (sv_name (i := 2) sc__law_marked.nd)) (fun _ _ _ _ _ => sp_nil) (fun _ _ _ _ _ => (se_call (F := F) (ps := ["told"]) (x := "_law_marked") (s := s__law_marked) (DefC.mono (k := k) (j := k) dr (Nat.le_refl _)) hr pass_0 (sa_cons (se_var (i := 2)) sa_nil))))
      (ss_cons (ss_expr (se_bm .list m_append pl_list sl_list_append rfl (se_var (i := 0)) (sa_cons (se_str (s := [109, 97, 114, 107, 101, 100])) sa_nil)))
      (ss_one (ss_ret (se_cmp (o_notIn (RoomG.u65 hr)) se_bl (se_var (i := 1)))))))) ss_nil)
      (ss_cons (ss_if (st_val (se_callB (c_isi) h.b_isinstance (sa_cons (se_var (i := 0)) (sa_cons (se_ty .tuple h.b_tuple) sa_nil)))) (ss_one (ss_ret (se_cmp (o_notIn (RoomG.u65 hr)) se_bl (se_lc false  (own := [("item", 2)]) rfl sc__law_marked.nd (si_list (se_var (i := 0))) (blkOk (show blkB N__law_marked (defScope s__law_marked) _ _ = true by first | decide +kernel | rfl)) (fun _ _ _ _ _ => (sv_name (i := 2) sc__law_marked.nd)) (fun _ _ _ _ _ => sp_nil) (fun _ _ _ _ _ => (se_call (F := F) (ps := ["told"]) (x := "_law_marked") (s := s__law_marked) (DefC.mono (k := k) (j := k) dr (Nat.le_refl _)) hr pass_0 (sa_cons (se_var (i := 2)) sa_nil))))))) ss_nil)
      (ss_one (ss_ret (se_or (se_cmp o_is (se_var (i := 0)) se_non) (se_one (se_callB (c_isi) h.b_isinstance (sa_cons (se_var (i := 0)) (sa_cons (se_tup (sa_cons (se_ty .int h.b_int) (sa_cons (se_ty .str h.b_str) sa_nil))) sa_nil))))))))))
theorem dn__law_marked (h : Hy K mg) : ∀ (n : Nat) {P : Program} {w : World} {base : Heap}, DefC P w K mg base CX0 (n + 0) s__law_marked "_law_marked" ["told"] (F__law_marked n) := by
  intro n
  induction n with
  | zero => intro P w base; exact DefC.nil h.f__law_marked (fun _ _ _ _ _ _ us hl => match us, hl with | [_], _ => rfl)
  | succ n ih =>
    intro P w base
    have e : n + 1 + 0 = n + 0 + 1 := by omega
    rw [e]
    exact st__law_marked h (Nat.le_add_left _ _) ih
theorem d__law_marked (h : Hy K mg) : DefC P w K mg base CX0 4 s__law_marked "_law_marked" ["told"] (F__law_marked 4) := dn__law_marked h 4
theorem sc__law_scrap : FnScope N__law_scrap ["generator", "signs", "most"] (defScope s__law_scrap) := ⟨rfl, rfl, rfl, by decide +kernel, rfl, by decide +kernel, by decide +kernel⟩
theorem d__law_scrap (h : Hy K mg) : DefC P w K mg base CX0 4 s__law_scrap "_law_scrap" ["generator", "signs", "most"] F__law_scrap :=
  DefC.of0 h.f__law_scrap sc__law_scrap (fun _ _ _ _ _ _ us hl => match us, hl with | [_, _, _], _ => rfl) clean_gen0 nox_gen0 (fun cdv A outer sh H E f hr =>
      (ss_one (ss_ret (se_bm .str m_join pl_str sl_str_join rfl (se_str (s := [])) (sa_cons (se_lc false  (own := [("at", 3)]) rfl sc__law_scrap.nd (si_range1 h.b_range (se_bin o_add se_int (se_call (F := F__law_random) (ps := ["generator", "bound"]) (x := "_law_random") (s := s__law_random) (DefC.mono (k := 2) (j := 3) (d__law_random h) (le_lv (by decide))) hr pass_0 (sa_cons (se_var (i := 0)) (sa_cons (se_var (i := 2)) sa_nil))))) (blkOk (show blkB N__law_scrap (defScope s__law_scrap) _ _ = true by first | decide +kernel | rfl)) (fun _ _ _ _ _ => (sv_name (i := 3) sc__law_scrap.nd)) (fun _ _ _ _ _ => sp_nil) (fun _ _ _ _ _ => (se_call (F := F__law_pick) (ps := ["generator", "things"]) (x := "_law_pick") (s := s__law_pick) (DefC.mono (k := 3) (j := 3) (d__law_pick h) (le_lv (by decide))) hr pass_0 (sa_cons (se_var (i := 0)) (sa_cons (se_callTy (c_list rfl) h.b_list (sa_cons (se_var (i := 1)) sa_nil)) sa_nil))))) sa_nil)))))
theorem sc__law_neighbours : FnScope N__law_neighbours ["generator", "story"] (defScope s__law_neighbours) := ⟨rfl, rfl, rfl, by decide +kernel, rfl, by decide +kernel, by decide +kernel⟩
theorem d__law_neighbours (h : Hy K mg) : DefC P w K mg base CX0 4 s__law_neighbours "_law_neighbours" ["generator", "story"] F__law_neighbours :=
  DefC.of0 h.f__law_neighbours sc__law_neighbours (fun _ _ _ _ _ _ us hl => match us, hl with | [_, _], _ => rfl) clean_gen0 nox_gen0 (fun cdv A outer sh H E f hr =>
      (ss_cons (ss_setLc false (i := 2) (own := [("at", 3)]) rfl sc__law_neighbours.nd (si_range2 h.b_range se_int (se_callB (c_len) h.b_len (sa_cons (se_var (i := 1)) sa_nil))) (blkOk (show blkB N__law_neighbours (defScope s__law_neighbours) _ _ = true by first | decide +kernel | rfl)) (fun _ _ _ _ _ => (sv_name (i := 3) sc__law_neighbours.nd)) (fun _ _ _ _ _ => (sp_one (st_cmp (o_ne hr.units) (se_ix (RoomG.u1 hr) (se_var (i := 1)) (se_bin o_sub (se_var (i := 3)) se_int)) (se_ix (RoomG.u1 hr) (se_var (i := 1)) (se_var (i := 3)))))) (fun _ _ _ _ _ => (se_var (i := 3))))
      (ss_cons (ss_set (i := 3) sc__law_neighbours.nd (se_call (F := F__law_pick) (ps := ["generator", "things"]) (x := "_law_pick") (s := s__law_pick) (DefC.mono (k := 3) (j := 3) (d__law_pick h) (le_lv (by decide))) hr pass_0 (sa_cons (se_var (i := 0)) (sa_cons (se_bin o_add (se_var (i := 2)) (se_lst (sa_cons se_int sa_nil))) sa_nil))))
      (ss_one (ss_ret (se_ifExp (st_cmp o_gt (se_var (i := 3)) se_int) (se_bin o_add (se_bin o_add (se_bin o_add (se_cut (se_var (i := 1)) so_none (so_some (se_bin o_sub (se_var (i := 3)) se_int))) (se_ix (RoomG.u1 hr) (se_var (i := 1)) (se_var (i := 3)))) (se_ix (RoomG.u1 hr) (se_var (i := 1)) (se_bin o_sub (se_var (i := 3)) se_int))) (se_cut (se_var (i := 1)) (so_some (se_bin o_add (se_var (i := 3)) se_int)) so_none)) (se_var (i := 1))))))))
theorem sc_ring_windows : FnScope N_ring_windows ["scrap", "size"] (defScope s_ring_windows) := ⟨rfl, rfl, rfl, by decide +kernel, rfl, by decide +kernel, by decide +kernel⟩
theorem d_ring_windows (h : Hy K mg) : DefC P w K mg base CX0 5 s_ring_windows "ring_windows" ["scrap", "size"] F_ring_windows :=
  DefC.of0 h.f_ring_windows sc_ring_windows (fun _ _ _ _ _ _ us hl => match us, hl with | [_, _], _ => rfl) clean_gen0 nox_gen0 (fun cdv A outer sh H E f hr =>
      (ss_cons (ss_expr (se_call (F := F_check_scrap) (ps := ["scrap"]) (x := "check_scrap") (s := s_check_scrap) (DefC.mono (k := 4) (j := 4) (d_check_scrap h) (le_lv (by decide))) hr pass_0 (sa_cons (se_var (i := 0)) sa_nil)))
      (ss_cons (ss_expr (se_call (F := F_check_ring_size) (ps := ["size"]) (x := "check_ring_size") (s := s_check_ring_size) (DefC.mono (k := 3) (j := 4) (d_check_ring_size h) (le_lv (by decide))) hr pass_0 (sa_cons (se_var (i := 1)) sa_nil)))
      (ss_one (ss_ret (se_call (F := F_windows_round) (ps := ["scrap", "size"]) (x := "windows_round") (s := s_windows_round) (DefC.mono (k := 1) (j := 4) (d_windows_round h) (le_lv (by decide))) hr pass_0 (sa_cons (se_var (i := 0)) (sa_cons (se_var (i := 1)) sa_nil))))))))
theorem sc_ring_counts : FnScope N_ring_counts ["scrap", "size"] (defScope s_ring_counts) := ⟨rfl, rfl, rfl, by decide +kernel, rfl, by decide +kernel, by decide +kernel⟩
theorem d_ring_counts (h : Hy K mg) : DefC P w K mg base CX0 5 s_ring_counts "ring_counts" ["scrap", "size"] F_ring_counts :=
  DefC.of0 h.f_ring_counts sc_ring_counts (fun _ _ _ _ _ _ us hl => match us, hl with | [_, _], _ => rfl) clean_gen0 nox_gen0 (fun cdv A outer sh H E f hr =>
      (ss_cons (ss_expr (se_call (F := F_check_scrap) (ps := ["scrap"]) (x := "check_scrap") (s := s_check_scrap) (DefC.mono (k := 4) (j := 4) (d_check_scrap h) (le_lv (by decide))) hr pass_0 (sa_cons (se_var (i := 0)) sa_nil)))
      (ss_cons (ss_expr (se_call (F := F_check_ring_size) (ps := ["size"]) (x := "check_ring_size") (s := s_check_ring_size) (DefC.mono (k := 3) (j := 4) (d_check_ring_size h) (le_lv (by decide))) hr pass_0 (sa_cons (se_var (i := 1)) sa_nil)))
      (ss_cons (ss_set (i := 2) sc_ring_counts.nd se_dnewC)
      (ss_cons (ss_for PassesOwn.never rfl (si_list (se_call (F := F_windows_round) (ps := ["scrap", "size"]) (x := "windows_round") (s := s_windows_round) (DefC.mono (k := 1) (j := 4) (d_windows_round h) (le_lv (by decide))) hr pass_0 (sa_cons (se_var (i := 0)) (sa_cons (se_var (i := 1)) sa_nil)))) (sg_name (i := 3) sc_ring_counts.nd) (ss_one (ss_asg (se_bin o_add (se_get2 (RoomG.u1 hr) (se_var (i := 2)) (se_var (i := 3)) se_int) se_int) (sg_sub (RoomG.u1 hr) (se_var (i := 2)) (se_var (i := 3))))))
      (ss_one (ss_ret (se_var (i := 2)))))))))
theorem sc_full_ring : FnScope N_full_ring ["signs", "size"] (defScope s_full_ring) := ⟨rfl, rfl, rfl, by decide +kernel, rfl, by decide +kernel, by decide +kernel⟩
theorem d_full_ring (h : Hy K mg) : DefC P w K mg base CX0 5 s_full_ring "full_ring" ["signs", "size"] F_full_ring :=
  DefC.of0 h.f_full_ring sc_full_ring (fun _ _ _ _ _ _ us hl => match us, hl with | [_, _], _ => rfl) clean_gen0 nox_gen0 (fun cdv A outer sh H E f hr =>
      (ss_cons (ss_expr (se_call (F := F_check_full_signs) (ps := ["signs"]) (x := "check_full_signs") (s := s_check_full_signs) (DefC.mono (k := 4) (j := 4) (d_check_full_signs h) (le_lv (by decide))) hr pass_0 (sa_cons (se_var (i := 0)) sa_nil)))
      (ss_cons (ss_expr (se_call (F := F_check_ring_size) (ps := ["size"]) (x := "check_ring_size") (s := s_check_ring_size) (DefC.mono (k := 3) (j := 4) (d_check_ring_size h) (le_lv (by decide))) hr pass_0 (sa_cons (se_var (i := 1)) sa_nil)))
      (ss_cons (ss_par (i := 2) (j := 3) rfl sc_full_ring.nd (sa_cons (se_lstC sa_nil) (sa_cons (se_ix (RoomG.u1 hr) (se_var (i := 0)) se_int) sa_nil)))
      (ss_cons (ss_while 1000 PassesOwn.never (st_cmp o_isNot (se_var (i := 3)) se_non) (ss_cons (ss_if (st_cmp (o_eq hr.units) (se_bin o_mod (se_var (i := 1)) (se_callB (c_len) h.b_len (sa_cons (se_var (i := 3)) sa_nil))) se_int) (ss_one (ss_expr (se_bm .list m_append pl_list sl_list_append rfl (se_var (i := 2)) (sa_cons (se_var (i := 3)) sa_nil)))) ss_nil)
      (ss_one (ss_set (i := 3) sc_full_ring.nd (se_call (F := F_next_small) (ps := ["signs", "scrap", "size"]) (x := "next_small") (s := s_next_small) (DefC.mono (k := 1) (j := 4) (d_next_small h) (le_lv (by decide))) hr pass_0 (sa_cons (se_var (i := 0)) (sa_cons (se_var (i := 3)) (sa_cons (se_var (i := 1)) sa_nil))))))))
      (ss_one (ss_ret (se_bm .str m_join pl_str sl_str_join rfl (se_str (s := [])) (sa_cons (se_var (i := 2)) sa_nil)))))))))
theorem sc_is_full_ring : FnScope N_is_full_ring ["signs", "size", "value"] (defScope s_is_full_ring) := ⟨rfl, rfl, rfl, by decide +kernel, rfl, by decide +kernel, by decide +kernel⟩
theorem d_is_full_ring (h : Hy K mg) : DefC P w K mg base CX0 5 s_is_full_ring "is_full_ring" ["signs", "size", "value"] F_is_full_ring :=
  DefC.of0 h.f_is_full_ring sc_is_full_ring (fun _ _ _ _ _ _ us hl => match us, hl with | [_, _, _], _ => rfl) clean_gen0 nox_gen0 (fun cdv A outer sh H E f hr =>
      (ss_cons (ss_expr (se_call (F := F_check_full_signs) (ps := ["signs"]) (x := "check_full_signs") (s := s_check_full_signs) (DefC.mono (k := 4) (j := 4) (d_check_full_signs h) (le_lv (by decide))) hr pass_0 (sa_cons (se_var (i := 0)) sa_nil)))
      (ss_cons (ss_expr (se_call (F := F_check_ring_size) (ps := ["size"]) (x := "check_ring_size") (s := s_check_ring_size) (DefC.mono (k := 3) (j := 4) (d_check_ring_size h) (le_lv (by decide))) hr pass_0 (sa_cons (se_var (i := 1)) sa_nil)))
      (ss_cons (ss_if (SW.st (sw_or (st_not (st_val (se_call (F := F_is_scrap) (ps := ["value"]) (x := "is_scrap") (s := s_is_scrap) (DefC.mono (k := 3) (j := 4) (d_is_scrap h) (le_lv (by decide))) hr pass_0 (sa_cons (se_var (i := 2)) sa_nil)))) (sw_or1 (st_not (st_val (se_callB (c_all rfl) h.b_all (sa_cons (se_lc false  (own := [("sign", 4)]) rfl sc_is_full_ring.nd (si_list (se_var (i := 2))) (blkOk (show blkB N_is_full_ring (defScope s_is_full_ring) _ _ = true by first | decide +kernel | rfl)) (fun _ _ _ _ _ => (sv_name (i := 4) sc_is_full_ring.nd)) (fun _ _ _ _ _ => sp_nil) (fun _ _ _ _ _ => (se_cmp (o_in (RoomG.u65 hr)) (se_var (i := 4)) (se_var (i := 0))))) sa_nil))))))) (ss_one (ss_ret se_bl)) ss_nil)
      (ss_cons (ss_if (st_cmp (o_ne hr.units) (se_callB (c_len) h.b_len (sa_cons (se_var (i := 2)) sa_nil)) (se_call (F := F_power_of) (ps := ["many", "times"]) (x := "power_of") (s := s_power_of) (DefC.mono (k := 1) (j := 4) (d_power_of h) (le_lv (by decide))) hr pass_0 (sa_cons (se_callB (c_len) h.b_len (sa_cons (se_var (i := 0)) sa_nil)) (sa_cons (se_var (i := 1)) sa_nil)))) (ss_one (ss_ret se_bl)) ss_nil)
      (ss_one (ss_ret (se_cmp (o_eq hr.units) (se_callB (c_len) h.b_len (sa_cons (se_dc (own := [("window", 3)]) rfl sc_is_full_ring.nd (si_list (se_call (F := F_windows_round) (ps := ["scrap", "size"]) (x := "windows_round") (s := s_windows_round) (DefC.mono (k := 1) (j := 4) (d_windows_round h) (le_lv (by decide))) hr pass_0 (sa_cons (se_var (i := 2)) (sa_cons (se_var (i := 1)) sa_nil)))) (blkOk (show blkB N_is_full_ring (defScope s_is_full_ring) _ _ = true by first | decide +kernel | rfl)) (fun _ _ _ _ _ => (sv_name (i := 3) sc_is_full_ring.nd)) (fun _ _ _ _ _ => sp_nil) (fun _ _ _ _ _ => (se_var (i := 3))) (fun _ _ _ _ _ => se_bl)) sa_nil)) (se_callB (c_len) h.b_len (sa_cons (se_var (i := 2)) sa_nil))))))))))
theorem sc_how_many_full : FnScope N_how_many_full ["signs", "size"] (defScope s_how_many_full) := ⟨rfl, rfl, rfl, by decide +kernel, rfl, by decide +kernel, by decide +kernel⟩
theorem d_how_many_full (h : Hy K mg) : DefC P w K mg base CX0 5 s_how_many_full "how_many_full" ["signs", "size"] F_how_many_full :=
  DefC.of0 h.f_how_many_full sc_how_many_full (fun _ _ _ _ _ _ us hl => match us, hl with | [_, _], _ => rfl) clean_gen0 nox_gen0 (fun cdv A outer sh H E f hr =>
      (ss_cons (ss_expr (se_call (F := F_check_full_signs) (ps := ["signs"]) (x := "check_full_signs") (s := s_check_full_signs) (DefC.mono (k := 4) (j := 4) (d_check_full_signs h) (le_lv (by decide))) hr pass_0 (sa_cons (se_var (i := 0)) sa_nil)))
      (ss_cons (ss_expr (se_call (F := F_check_ring_size) (ps := ["size"]) (x := "check_ring_size") (s := s_check_ring_size) (DefC.mono (k := 3) (j := 4) (d_check_ring_size h) (le_lv (by decide))) hr pass_0 (sa_cons (se_var (i := 1)) sa_nil)))
      (ss_cons (ss_set (i := 2) sc_how_many_full.nd se_int)
      (ss_cons (ss_for PassesOwn.never rfl (si_range2 h.b_range se_int (se_bin o_add (se_callB (c_len) h.b_len (sa_cons (se_var (i := 0)) sa_nil)) se_int)) (sg_name (i := 3) sc_how_many_full.nd) (ss_one (ss_set (i := 2) sc_how_many_full.nd (se_bin o_mul (se_var (i := 2)) (se_var (i := 3))))))
      (ss_cons (ss_set (i := 4) sc_how_many_full.nd se_int)
      (ss_cons (ss_for PassesOwn.never rfl (si_range1 h.b_range (se_call (F := F_power_of) (ps := ["many", "times"]) (x := "power_of") (s := s_power_of) (DefC.mono (k := 1) (j := 4) (d_power_of h) (le_lv (by decide))) hr pass_0 (sa_cons (se_callB (c_len) h.b_len (sa_cons (se_var (i := 0)) sa_nil)) (sa_cons (se_bin o_sub (se_var (i := 1)) se_int) sa_nil)))) (sg_name (i := 5) sc_how_many_full.nd) (ss_one (ss_set (i := 4) sc_how_many_full.nd (se_bin o_mul (se_var (i := 4)) (se_var (i := 2))))))
      (ss_one (ss_ret (se_bin o_div (se_var (i := 4)) (se_call (F := F_power_of) (ps := ["many", "times"]) (x := "power_of") (s := s_power_of) (DefC.mono (k := 1) (j := 4) (d_power_of h) (le_lv (by decide))) hr pass_0 (sa_cons (se_callB (c_len) h.b_len (sa_cons (se_var (i := 0)) sa_nil)) (sa_cons (se_var (i := 1)) sa_nil)))))))))))))
theorem sc__law_exact : FnScope N__law_exact ["told", "due"] (defScope s__law_exact) := ⟨rfl, rfl, rfl, by decide +kernel, rfl, by decide +kernel, by decide +kernel⟩
theorem st__law_exact (h : Hy K mg) {k : Nat} (hk : 0 ≤ k) {F : F1} (dr : ∀ {P : Program} {w : World} {base : Heap}, DefC P w K mg base CX0 k s__law_exact "_law_exact" ["told", "due"] F) : DefC P w K mg base CX0 (k + 1) s__law_exact "_law_exact" ["told", "due"] (genF0 N__law_exact 2 (fb__law_exact F)) :=
  DefC.of0 h.f__law_exact sc__law_exact (fun _ _ _ _ _ _ us hl => match us, hl with | [_, _], _ => rfl) clean_gen0 nox_gen0 (fun cdv A outer sh H E f hr =>
      (ss_cons (ss_if (st_val (se_callB (c_isi) h.b_isinstance (sa_cons (se_var (i := 1)) (sa_cons (se_ty .list h.b_list) sa_nil)))) (ss_one (ss_ret (se_and (se_callB (c_isi) h.b_isinstance (sa_cons (se_var (i := 0)) (sa_cons (se_ty .list h.b_list) sa_nil))) (se_and (se_cmp (o_eq hr.units) (se_callB (c_len) h.b_len (sa_cons (se_var (i := 0)) sa_nil)) (se_callB (c_len) h.b_len (sa_cons (se_var (i := 1)) sa_nil))) (se_one (se_cmp (o_notIn (RoomG.u65 hr)) se_bl (se_lc false  (own := [("one", 2), ("other", 3)]) rfl sc__law_exact.nd (si_zip h.b_zip (sa_cons (se_var (i := 0)) (sa_cons (se_var (i := 1)) sa_nil))) (blkOk (show blkB N__law_exact (defScope s__law_exact) _ _ = true by first | decide +kernel | rfl)) (fun _ _ _ _ _ => (sv_tup (n := 2) rfl (svs_cons (sv_name (i := 2) sc__law_exact.nd) (svs_cons (sv_name (i := 3) sc__law_exact.nd) svs_nil)))) (fun _ _ _ _ _ => sp_nil) (fun _ _ _ _ _ => (se_call (F := F) (ps := ["told", "due"]) (x := "_law_exact") (s := s__law_exact) (DefC.mono (k := k) (j := k) dr (Nat.le_refl _)) hr pass_0 (sa_cons (se_var (i := 2)) (sa_cons (se_var (i := 3)) sa_nil))))))))))) ss_nil)
      (ss_cons (ss_if (st_val (se_callB (c_isi) h.b_isinstance (sa_cons (se_var (i := 1)) (sa_cons (se_ty .tuple h.b_tuple) sa_nil)))) (ss_one (ss_ret (se_and (se_callB (c_isi) h.b_isinstance (sa_cons (se_var (i := 0)) (sa_cons (se_ty .tuple h.b_tuple) sa_nil))) (se_and (se_cmp (o_eq hr.units) (se_callB (c_len) h.b_len (sa_cons (se_var (i := 0)) sa_nil)) (se_callB (c_len) h.b_len (sa_cons (se_var (i := 1)) sa_nil))) (se_one (se_cmp (o_notIn (RoomG.u65 hr)) se_bl (se_lc false  (own := [("one", 2), ("other", 3)]) rfl sc__law_exact.nd (si_zip h.b_zip (sa_cons (se_var (i := 0)) (sa_cons (se_var (i := 1)) sa_nil))) (blkOk (show blkB N__law_exact (defScope s__law_exact) _ _ = true by first | decide +kernel | rfl)) (fun _ _ _ _ _ => (sv_tup (n := 2) rfl (svs_cons (sv_name (i := 2) sc__law_exact.nd) (svs_cons (sv_name (i := 3) sc__law_exact.nd) svs_nil)))) (fun _ _ _ _ _ => sp_nil) (fun _ _ _ _ _ => (se_call (F := F) (ps := ["told", "due"]) (x := "_law_exact") (s := s__law_exact) (DefC.mono (k := k) (j := k) dr (Nat.le_refl _)) hr pass_0 (sa_cons (se_var (i := 2)) (sa_cons (se_var (i := 3)) sa_nil))))))))))) ss_nil)
      (ss_cons (ss_if (st_cmp o_is (se_var (i := 1)) se_non) (ss_one (ss_ret (se_cmp o_is (se_var (i := 0)) se_non))) ss_nil)
      (ss_cons (ss_if (st_cmp o_is (se_var (i := 1)) se_bl) (ss_one (ss_ret (se_cmp o_is (se_var (i := 0)) se_bl))) ss_nil)
      (ss_cons (ss_if (st_cmp o_is (se_var (i := 1)) se_bl) (ss_one (ss_ret (se_cmp o_is (se_var (i := 0)) se_bl))) ss_nil)
      (ss_cons (ss_if (st_val (se_callB (c_isi) h.b_isinstance (sa_cons (se_var (i := 1)) (sa_cons (se_ty .int h.b_int) sa_nil)))) (ss_one (ss_ret (se_and (se_callB (c_isi) h.b_isinstance (sa_cons (se_var (i := 0)) (sa_cons (se_ty .int h.b_int) sa_nil))) (se_and (se_not (se_callB (c_isi) h.b_isinstance (sa_cons (se_var (i := 0)) (sa_cons (se_ty .bool h.b_bool) sa_nil)))) (se_one (se_cmp (o_eq hr.units) (se_var (i := 0)) (se_var (i := 1)))))))) ss_nil)
      (ss_one (ss_ret (se_and (se_callB (c_isi) h.b_isinstance (sa_cons (se_var (i := 0)) (sa_cons (se_ty .str h.b_str) sa_nil))) (se_one (se_cmp (o_eq hr.units) (se_var (i := 0)) (se_var (i := 1))))))))))))))
theorem dn__law_exact (h : Hy K mg) : ∀ (n : Nat) {P : Program} {w : World} {base : Heap}, DefC P w K mg base CX0 (n + 0) s__law_exact "_law_exact" ["told", "due"] (F__law_exact n) := by
  intro n
  induction n with
  | zero => intro P w base; exact DefC.nil h.f__law_exact (fun _ _ _ _ _ _ us hl => match us, hl with | [_, _], _ => rfl)
  | succ n ih =>
    intro P w base
    have e : n + 1 + 0 = n + 0 + 1 := by omega
    rw [e]
    exact st__law_exact h (Nat.le_add_left _ _) ih
theorem d__law_exact (h : Hy K mg) : DefC P w K mg base CX0 8 s__law_exact "_law_exact" ["told", "due"] (F__law_exact 8) := dn__law_exact h 8
theorem sc__law_counts_right : FnScope N__law_counts_right ["generator"] (defScope s__law_counts_right) := ⟨rfl, rfl, rfl, by decide +kernel, rfl, by decide +kernel, by decide +kernel⟩
theorem d__law_counts_right (h : Hy K mg) : DefC P w K mg base CX0 9 s__law_counts_right "_law_counts_right" ["generator"] F__law_counts_right :=
  DefC.of0 h.f__law_counts_right sc__law_counts_right (fun _ _ _ _ _ _ us hl => match us, hl with | [_], _ => rfl) clean_gen0 nox_gen0 (fun cdv A outer sh H E f hr =>
      (ss_cons (ss_par (i := 3) (j := 4) rfl sc__law_counts_right.nd (sa_cons (se_call (F := F__law_scrap) (ps := ["generator", "signs", "most"]) (x := "_law_scrap") (s := s__law_scrap) (DefC.mono (k := 4) (j := 8) (d__law_scrap h) (le_lv (by decide))) hr pass_0 (sa_cons (se_var (i := 0)) (sa_cons (se_call (F := F__law_pick) (ps := ["generator", "things"]) (x := "_law_pick") (s := s__law_pick) (DefC.mono (k := 3) (j := 8) (d__law_pick h) (le_lv (by decide))) hr pass_0 (sa_cons (se_var (i := 0)) (sa_cons (se_lst (sa_cons (se_str (s := [97, 98])) (sa_cons (se_str (s := [97, 98, 99])) sa_nil))) sa_nil))) (sa_cons se_int sa_nil)))) (sa_cons (se_bin o_add se_int (se_call (F := F__law_random) (ps := ["generator", "bound"]) (x := "_law_random") (s := s__law_random) (DefC.mono (k := 2) (j := 8) (d__law_random h) (le_lv (by decide))) hr pass_0 (sa_cons (se_var (i := 0)) (sa_cons se_int sa_nil)))) sa_nil)))
      (ss_cons (ss_par (i := 5) (j := 6) rfl sc__law_counts_right.nd (sa_cons (se_call (F := F__law_windows) (ps := ["scrap", "size"]) (x := "_law_windows") (s := s__law_windows) (DefC.mono (k := 1) (j := 8) (d__law_windows h) (le_lv (by decide))) hr pass_0 (sa_cons (se_var (i := 3)) (sa_cons (se_var (i := 4)) sa_nil))) (sa_cons se_dnewC sa_nil)))
      (ss_cons (ss_for PassesOwn.never rfl (si_list (se_var (i := 5))) (sg_name (i := 1) sc__law_counts_right.nd) (ss_one (ss_asg (se_bin o_add (se_get2 (RoomG.u1 hr) (se_var (i := 6)) (se_var (i := 1)) se_int) se_int) (sg_sub (RoomG.u1 hr) (se_var (i := 6)) (se_var (i := 1))))))
      (ss_cons (ss_par (i := 7) (j := 8) rfl sc__law_counts_right.nd (sa_cons (se_call (F := F_ring_windows) (ps := ["scrap", "size"]) (x := "ring_windows") (s := s_ring_windows) (DefC.mono (k := 5) (j := 8) (d_ring_windows h) (le_lv (by decide))) hr pass_0 (sa_cons (se_var (i := 3)) (sa_cons (se_var (i := 4)) sa_nil))) (sa_cons (se_call (F := F_ring_counts) (ps := ["scrap", "size"]) (x := "ring_counts") (s := s_ring_counts) (DefC.mono (k := 5) (j := 8) (d_ring_counts h) (le_lv (by decide))) hr pass_0 (sa_cons (se_var (i := 3)) (sa_cons (se_var (i := 4)) sa_nil))) sa_nil)))
      (ss_cons (ss_if (SW.st (sw_or (st_not (st_val (se_call (F := (F__law_exact 8)) (ps := ["told", "due"]) (x := "_law_exact") (s := s__law_exact) (DefC.mono (k := 8) (j := 8) (d__law_exact h) (le_lv (by decide))) hr pass_0 (sa_cons (se_var (i := 7)) (sa_cons (se_var (i := 5)) sa_nil))))) (sw_or (st_not (st_val (se_call (F := (F__law_marked 4)) (ps := ["told"]) (x := "_law_marked") (s := s__law_marked) (DefC.mono (k := 4) (j := 8) (d__law_marked h) (le_lv (by decide))) hr pass_0 (sa_cons (se_var (i := 7)) sa_nil)))) (sw_or1 (st_not (st_val (se_call (F := (F__law_exact 8)) (ps := ["told", "due"]) (x := "_law_exact") (s := s__law_exact) (DefC.mono (k := 8) (j := 8) (d__law_exact h) (le_lv (by decide))) hr pass_0 (sa_cons (se_callK [1, 0] (F := F_ring_windows) (ps := ["scrap", "size"]) (x := "ring_windows") (s := s_ring_windows) (ks := ["size", "scrap"]) (DefC.mono (k := 5) (j := 8) (d_ring_windows h) (le_lv (by decide))) hr pass0 (sk_cons (se_var (i := 4)) (sk_cons (se_var (i := 3)) sk_nil)) (fun _ _ _ _ _ _ us hl => match us, hl with | [_, _], _ => rfl)) (sa_cons (se_var (i := 5)) sa_nil))))))))) (ss_one (ss_ret se_bl)) ss_nil)
      (ss_cons (ss_if (SW.st (sw_or (st_not (st_val (se_callB (c_isi) h.b_isinstance (sa_cons (se_var (i := 8)) (sa_cons (se_ty .dict h.b_dict) sa_nil))))) (sw_or (st_cmp (o_neX (RoomG.u65 hr)) (se_var (i := 8)) (se_var (i := 6))) (sw_or1 (st_cmp (o_neX (RoomG.u65 hr)) (se_callK [1, 0] (F := F_ring_counts) (ps := ["scrap", "size"]) (x := "ring_counts") (s := s_ring_counts) (ks := ["size", "scrap"]) (DefC.mono (k := 5) (j := 8) (d_ring_counts h) (le_lv (by decide))) hr pass0 (sk_cons (se_var (i := 4)) (sk_cons (se_var (i := 3)) sk_nil)) (fun _ _ _ _ _ _ us hl => match us, hl with | [_, _], _ => rfl)) (se_var (i := 6))))))) (ss_one (ss_ret se_bl)) ss_nil)
      (ss_cons (ss_set (i := 2) sc__law_counts_right.nd (se_call (F := F__law_pick) (ps := ["generator", "things"]) (x := "_law_pick") (s := s__law_pick) (DefC.mono (k := 3) (j := 8) (d__law_pick h) (le_lv (by decide))) hr pass_0 (sa_cons (se_var (i := 0)) (sa_cons (se_lst (sa_cons (se_call (F := F__law_turning) (ps := ["scrap", "many"]) (x := "_law_turning") (s := s__law_turning) (DefC.mono (k := 1) (j := 8) (d__law_turning h) (le_lv (by decide))) hr pass_0 (sa_cons (se_var (i := 3)) (sa_cons se_int sa_nil))) (sa_cons (se_call (F := F__law_scrap) (ps := ["generator", "signs", "most"]) (x := "_law_scrap") (s := s__law_scrap) (DefC.mono (k := 4) (j := 8) (d__law_scrap h) (le_lv (by decide))) hr pass_0 (sa_cons (se_var (i := 0)) (sa_cons (se_str (s := [97, 98])) (sa_cons (se_callB (c_len) h.b_len (sa_cons (se_var (i := 3)) sa_nil)) sa_nil)))) sa_nil))) sa_nil))))
      (ss_cons (ss_if (SW.st (sw_and (st_cmp (o_eqX (RoomG.u65 hr)) (se_callB (c_len) h.b_len (sa_cons (se_var (i := 2)) sa_nil)) (se_callB (c_len) h.b_len (sa_cons (se_var (i := 3)) sa_nil))) (sw_and1 (st_cmp (o_neX (RoomG.u65 hr)) (se_cmp (o_eqX (RoomG.u65 hr)) (se_call (F := F_ring_counts) (ps := ["scrap", "size"]) (x := "ring_counts") (s := s_ring_counts) (DefC.mono (k := 5) (j := 8) (d_ring_counts h) (le_lv (by decide))) hr pass_0 (sa_cons (se_var (i := 2)) (sa_cons (se_callB (c_len) h.b_len (sa_cons (se_var (i := 3)) sa_nil)) sa_nil))) (se_call (F := F_ring_counts) (ps := ["scrap", "size"]) (x := "ring_counts") (s := s_ring_counts) (DefC.mono (k := 5) (j := 8) (d_ring_counts h) (le_lv (by decide))) hr pass_0 (sa_cons (se_var (i := 3)) (sa_cons (se_callB (c_len) h.b_len (sa_cons (se_var (i := 3)) sa_nil)) sa_nil)))) (se_cmp (o_in (RoomG.u65 hr)) (se_var (i := 2)) (se_call (F := F__law_turnings) (ps := ["scrap"]) (x := "_law_turnings") (s := s__law_turnings) (DefC.mono (k := 2) (j := 8) (d__law_turnings h) (le_lv (by decide))) hr pass_0 (sa_cons (se_var (i := 3)) sa_nil))))))) (ss_one (ss_ret se_bl)) ss_nil)
      (ss_one (ss_ret (se_cmp (o_eqX (RoomG.u65 hr)) (se_call (F := F_ring_counts) (ps := ["scrap", "size"]) (x := "ring_counts") (s := s_ring_counts) (DefC.mono (k := 5) (j := 8) (d_ring_counts h) (le_lv (by decide))) hr pass_0 (sa_cons (se_var (i := 3)) (sa_cons (se_var (i := 4)) sa_nil))) (se_var (i := 6))))))))))))))
theorem sc__law_great_right : FnScope N__law_great_right ["generator"] (defScope s__law_great_right) := ⟨rfl, rfl, rfl, by decide +kernel, rfl, by decide +kernel, by decide +kernel⟩
theorem d__law_great_right (h : Hy K mg) : DefC P w K mg base CX0 9 s__law_great_right "_law_great_right" ["generator"] F__law_great_right :=
  DefC.of0 h.f__law_great_right sc__law_great_right (fun _ _ _ _ _ _ us hl => match us, hl with | [_], _ => rfl) clean_gen0 nox_gen0 (fun cdv A outer sh H E f hr =>
      (ss_cons (ss_for PassesOwn.never rfl (si_list (se_lst (sa_cons (se_tup (sa_cons (se_str (s := [97, 98])) (sa_cons se_int sa_nil))) (sa_cons (se_tup (sa_cons (se_str (s := [97, 98, 99])) (sa_cons se_int sa_nil))) (sa_cons (se_tup (sa_cons (se_str (s := [97, 98])) (sa_cons se_int sa_nil))) sa_nil))))) (sg_tup (n := 2) rfl (sgs_cons (sg_name (i := 1) sc__law_great_right.nd) (sgs_cons (sg_name (i := 2) sc__law_great_right.nd) sgs_nil))) (ss_cons (ss_asg (se_tup (sa_cons (se_call (F := F_full_ring) (ps := ["signs", "size"]) (x := "full_ring") (s := s_full_ring) (DefC.mono (k := 5) (j := 8) (d_full_ring h) (le_lv (by decide))) hr pass_0 (sa_cons (se_var (i := 1)) (sa_cons (se_var (i := 2)) sa_nil))) (sa_cons (se_callB (c_sortX rfl hr.units) h.b_sorted (sa_cons (se_call (F := F__law_stories) (ps := ["signs", "size"]) (x := "_law_stories") (s := s__law_stories) (DefC.mono (k := 1) (j := 8) (d__law_stories h) (le_lv (by decide))) hr pass_0 (sa_cons (se_var (i := 1)) (sa_cons (se_var (i := 2)) sa_nil))) sa_nil)) (sa_cons (se_call (F := F__law_drawn_order) (ps := ["generator", "things"]) (x := "_law_drawn_order") (s := s__law_drawn_order) (DefC.mono (k := 3) (j := 8) (d__law_drawn_order h) (le_lv (by decide))) hr pass_0 (sa_cons (se_var (i := 0)) (sa_cons (se_callTy (c_list rfl) h.b_list (sa_cons (se_var (i := 1)) sa_nil)) sa_nil))) sa_nil)))) (sg_tup (n := 3) rfl (sgs_cons (sg_name (i := 5) sc__law_great_right.nd) (sgs_cons (sg_name (i := 6) sc__law_great_right.nd) (sgs_cons (sg_name (i := 7) sc__law_great_right.nd) sgs_nil)))))
      (ss_cons (ss_set (i := 3) sc__law_great_right.nd (se_bm .str m_join pl_str sl_str_join rfl (se_str (s := [])) (sa_cons (se_lc false  (own := [("sign", 9)]) rfl sc__law_great_right.nd (si_list (se_var (i := 5))) (blkOk (show blkB N__law_great_right (defScope s__law_great_right) _ _ = true by first | decide +kernel | rfl)) (fun _ _ _ _ _ => (sv_name (i := 9) sc__law_great_right.nd)) (fun _ _ _ _ _ => sp_nil) (fun _ _ _ _ _ => (se_ix (RoomG.u1 hr) (se_var (i := 7)) (se_bm .str m_indexS pl_str sl_str_index rfl (se_var (i := 1)) (sa_cons (se_var (i := 9)) sa_nil))))) sa_nil)))
      (ss_cons (ss_for PassesOwn.never rfl (si_list (se_lst (sa_cons (se_var (i := 5)) (sa_cons (se_var (i := 3)) (sa_cons (se_bin o_add (se_cut (se_var (i := 5)) so_none (so_some (se_neg se_int))) (se_ix (RoomG.u1 hr) (se_var (i := 1)) se_int)) (sa_cons (se_call (F := F__law_neighbours) (ps := ["generator", "story"]) (x := "_law_neighbours") (s := s__law_neighbours) (DefC.mono (k := 4) (j := 8) (d__law_neighbours h) (le_lv (by decide))) hr pass_0 (sa_cons (se_var (i := 0)) (sa_cons (se_var (i := 5)) sa_nil))) (sa_cons (se_call (F := F__law_neighbours) (ps := ["generator", "story"]) (x := "_law_neighbours") (s := s__law_neighbours) (DefC.mono (k := 4) (j := 8) (d__law_neighbours h) (le_lv (by decide))) hr pass_0 (sa_cons (se_var (i := 0)) (sa_cons (se_var (i := 3)) sa_nil))) sa_nil))))))) (sg_name (i := 4) sc__law_great_right.nd) (ss_cons (ss_set (i := 8) sc__law_great_right.nd (se_cmp (o_eq hr.units) (se_callB (c_sortX rfl hr.units) h.b_sorted (sa_cons (se_call (F := F__law_windows) (ps := ["scrap", "size"]) (x := "_law_windows") (s := s__law_windows) (DefC.mono (k := 1) (j := 8) (d__law_windows h) (le_lv (by decide))) hr pass_0 (sa_cons (se_var (i := 4)) (sa_cons (se_var (i := 2)) sa_nil))) sa_nil)) (se_var (i := 6))))
      (ss_one (ss_if (st_not (st_val (se_call (F := (F__law_exact 8)) (ps := ["told", "due"]) (x := "_law_exact") (s := s__law_exact) (DefC.mono (k := 8) (j := 8) (d__law_exact h) (le_lv (by decide))) hr pass_0 (sa_cons (se_call (F := F_is_full_ring) (ps := ["signs", "size", "value"]) (x := "is_full_ring") (s := s_is_full_ring) (DefC.mono (k := 5) (j := 8) (d_is_full_ring h) (le_lv (by decide))) hr pass_0 (sa_cons (se_var (i := 1)) (sa_cons (se_var (i := 2)) (sa_cons (se_var (i := 4)) sa_nil)))) (sa_cons (se_var (i := 8)) sa_nil))))) (ss_one (ss_ret se_bl)) ss_nil))))
      (ss_one (ss_if (SW.st (sw_or (st_cmp o_isNot (se_call (F := F_is_full_ring) (ps := ["signs", "size", "value"]) (x := "is_full_ring") (s := s_is_full_ring) (DefC.mono (k := 5) (j := 8) (d_is_full_ring h) (le_lv (by decide))) hr pass_0 (sa_cons (se_var (i := 1)) (sa_cons (se_var (i := 2)) (sa_cons (se_var (i := 5)) sa_nil)))) se_bl) (sw_or1 (st_cmp o_isNot (se_call (F := F_is_full_ring) (ps := ["signs", "size", "value"]) (x := "is_full_ring") (s := s_is_full_ring) (DefC.mono (k := 5) (j := 8) (d_is_full_ring h) (le_lv (by decide))) hr pass_0 (sa_cons (se_var (i := 1)) (sa_cons (se_var (i := 2)) (sa_cons (se_var (i := 3)) sa_nil)))) se_bl)))) (ss_one (ss_ret se_bl)) ss_nil))))))
      (ss_one (ss_ret se_bl))))
theorem sc__law_full_right : FnScope N__law_full_right ["generator"] (defScope s__law_full_right) := ⟨rfl, rfl, rfl, by decide +kernel, rfl, by decide +kernel, by decide +kernel⟩
theorem d__law_full_right (h : Hy K mg) : DefC P w K mg base CX0 9 s__law_full_right "_law_full_right" ["generator"] F__law_full_right :=
  DefC.of0 h.f__law_full_right sc__law_full_right (fun _ _ _ _ _ _ us hl => match us, hl with | [_], _ => rfl) clean_gen0 nox_gen0 (fun cdv A outer sh H E f hr =>
      (ss_cons (ss_asg (se_call (F := F__law_pick) (ps := ["generator", "things"]) (x := "_law_pick") (s := s__law_pick) (DefC.mono (k := 3) (j := 8) (d__law_pick h) (le_lv (by decide))) hr pass_0 (sa_cons (se_var (i := 0)) (sa_cons (se_lst (sa_cons (se_tup (sa_cons (se_str (s := [97])) (sa_cons se_int sa_nil))) (sa_cons (se_tup (sa_cons (se_str (s := [97, 98])) (sa_cons se_int sa_nil))) (sa_cons (se_tup (sa_cons (se_str (s := [97, 98])) (sa_cons se_int sa_nil))) (sa_cons (se_tup (sa_cons (se_str (s := [97, 98])) (sa_cons se_int sa_nil))) (sa_cons (se_tup (sa_cons (se_str (s := [98, 100])) (sa_cons se_int sa_nil))) (sa_cons (se_tup (sa_cons (se_str (s := [120, 121, 122])) (sa_cons se_int sa_nil))) (sa_cons (se_tup (sa_cons (se_str (s := [120, 121, 122])) (sa_cons se_int sa_nil))) (sa_cons (se_tup (sa_cons (se_str (s := [97, 98, 99, 100])) (sa_cons se_int sa_nil))) sa_nil))))))))) sa_nil))) (sg_tup (n := 2) rfl (sgs_cons (sg_name (i := 10) sc__law_full_right.nd) (sgs_cons (sg_name (i := 11) sc__law_full_right.nd) sgs_nil))))
      (ss_cons (ss_set (i := 1) sc__law_full_right.nd (se_callB (c_len) h.b_len (sa_cons (se_var (i := 10)) sa_nil)))
      (ss_cons (ss_for PassesOwn.never rfl (si_range1 h.b_range (se_bin o_sub (se_var (i := 11)) se_int)) (sg_name (i := 2) sc__law_full_right.nd) (ss_one (ss_set (i := 1) sc__law_full_right.nd (se_bin o_mul (se_var (i := 1)) (se_callB (c_len) h.b_len (sa_cons (se_var (i := 10)) sa_nil))))))
      (ss_cons (ss_set (i := 3) sc__law_full_right.nd (se_callB (c_sortX rfl hr.units) h.b_sorted (sa_cons (se_call (F := F__law_stories) (ps := ["signs", "size"]) (x := "_law_stories") (s := s__law_stories) (DefC.mono (k := 1) (j := 8) (d__law_stories h) (le_lv (by decide))) hr pass_0 (sa_cons (se_var (i := 10)) (sa_cons (se_var (i := 11)) sa_nil))) sa_nil)))
      (ss_cons (ss_set (i := 4) sc__law_full_right.nd (se_ifExp (SW.st (sw_and (st_cmp o_lt (se_var (i := 1)) se_int) (sw_and1 (st_cmp o_lt (se_callB (c_len) h.b_len (sa_cons (se_var (i := 10)) sa_nil)) se_int)))) (se_lc false  (own := [("story", 13)]) rfl sc__law_full_right.nd (si_list (se_call (F := F__law_stories) (ps := ["signs", "size"]) (x := "_law_stories") (s := s__law_stories) (DefC.mono (k := 1) (j := 8) (d__law_stories h) (le_lv (by decide))) hr pass_0 (sa_cons (se_var (i := 10)) (sa_cons (se_var (i := 1)) sa_nil)))) (blkOk (show blkB N__law_full_right (defScope s__law_full_right) _ _ = true by first | decide +kernel | rfl)) (fun _ _ _ _ _ => (sv_name (i := 13) sc__law_full_right.nd)) (fun _ _ _ _ _ => (sp_one (st_cmp (o_eq hr.units) (se_callB (c_sortX rfl hr.units) h.b_sorted (sa_cons (se_call (F := F__law_windows) (ps := ["scrap", "size"]) (x := "_law_windows") (s := s__law_windows) (DefC.mono (k := 1) (j := 8) (d__law_windows h) (le_lv (by decide))) hr pass_0 (sa_cons (se_var (i := 13)) (sa_cons (se_var (i := 11)) sa_nil))) sa_nil)) (se_var (i := 3))))) (fun _ _ _ _ _ => (se_var (i := 13)))) se_non))
      (ss_cons (ss_set (i := 5) sc__law_full_right.nd (se_call (F := F_full_ring) (ps := ["signs", "size"]) (x := "full_ring") (s := s_full_ring) (DefC.mono (k := 5) (j := 8) (d_full_ring h) (le_lv (by decide))) hr pass_0 (sa_cons (se_var (i := 10)) (sa_cons (se_var (i := 11)) sa_nil))))
      (ss_cons (ss_if (SW.st (sw_or (st_cmp (o_ne hr.units) (se_callB (c_sortX rfl hr.units) h.b_sorted (sa_cons (se_call (F := F__law_windows) (ps := ["scrap", "size"]) (x := "_law_windows") (s := s__law_windows) (DefC.mono (k := 1) (j := 8) (d__law_windows h) (le_lv (by decide))) hr pass_0 (sa_cons (se_var (i := 5)) (sa_cons (se_var (i := 11)) sa_nil))) sa_nil)) (se_var (i := 3))) (sw_or (st_cmp o_isNot (se_call (F := F_is_full_ring) (ps := ["signs", "size", "value"]) (x := "is_full_ring") (s := s_is_full_ring) (DefC.mono (k := 5) (j := 8) (d_is_full_ring h) (le_lv (by decide))) hr pass_0 (sa_cons (se_var (i := 10)) (sa_cons (se_var (i := 11)) (sa_cons (se_var (i := 5)) sa_nil)))) se_bl) (sw_or1 (st_cmp (o_ne hr.units) (se_callK [1, 0] (F := F_full_ring) (ps := ["signs", "size"]) (x := "full_ring") (s := s_full_ring) (ks := ["size", "signs"]) (DefC.mono (k := 5) (j := 8) (d_full_ring h) (le_lv (by decide))) hr pass0 (sk_cons (se_var (i := 11)) (sk_cons (se_var (i := 10)) sk_nil)) (fun _ _ _ _ _ _ us hl => match us, hl with | [_, _], _ => rfl)) (se_var (i := 5))))))) (ss_one (ss_ret se_bl)) ss_nil)
      (ss_cons (ss_if (SW.st (sw_and (st_cmp o_isNot (se_var (i := 4)) se_non) (sw_and1 (SW.st (sw_or (st_cmp (o_ne hr.units) (se_var (i := 5)) (se_ix (RoomG.u1 hr) (se_var (i := 4)) se_int)) (sw_or1 (st_cmp (o_ne hr.units) (se_call (F := F_how_many_full) (ps := ["signs", "size"]) (x := "how_many_full") (s := s_how_many_full) (DefC.mono (k := 5) (j := 8) (d_how_many_full h) (le_lv (by decide))) hr pass_0 (sa_cons (se_var (i := 10)) (sa_cons (se_var (i := 11)) sa_nil))) (se_callB (c_len) h.b_len (sa_cons (se_call (F := F__law_unlike) (ps := ["items"]) (x := "_law_unlike") (s := s__law_unlike) (DefC.mono (k := 1) (j := 8) (d__law_unlike h) (le_lv (by decide))) hr pass_0 (sa_cons (se_lc false  (own := [("story", 13)]) rfl sc__law_full_right.nd (si_list (se_var (i := 4))) (blkOk (show blkB N__law_full_right (defScope s__law_full_right) _ _ = true by first | decide +kernel | rfl)) (fun _ _ _ _ _ => (sv_name (i := 13) sc__law_full_right.nd)) (fun _ _ _ _ _ => sp_nil) (fun _ _ _ _ _ => (se_callB (c_minA rfl hr.units) h.b_min (sa_cons (se_call (F := F__law_turnings) (ps := ["scrap"]) (x := "_law_turnings") (s := s__law_turnings) (DefC.mono (k := 2) (j := 8) (d__law_turnings h) (le_lv (by decide))) hr pass_0 (sa_cons (se_var (i := 13)) sa_nil)) sa_nil)))) sa_nil)) sa_nil))))))))) (ss_one (ss_ret se_bl)) ss_nil)
      (ss_cons (ss_set (i := 6) sc__law_full_right.nd (se_call (F := F__law_drawn_order) (ps := ["generator", "things"]) (x := "_law_drawn_order") (s := s__law_drawn_order) (DefC.mono (k := 3) (j := 8) (d__law_drawn_order h) (le_lv (by decide))) hr pass_0 (sa_cons (se_var (i := 0)) (sa_cons (se_callTy (c_list rfl) h.b_list (sa_cons (se_var (i := 10)) sa_nil)) sa_nil))))
      (ss_cons (ss_set (i := 7) sc__law_full_right.nd (se_bm .str m_join pl_str sl_str_join rfl (se_str (s := [])) (sa_cons (se_lc false  (own := [("sign", 14)]) rfl sc__law_full_right.nd (si_list (se_var (i := 5))) (blkOk (show blkB N__law_full_right (defScope s__law_full_right) _ _ = true by first | decide +kernel | rfl)) (fun _ _ _ _ _ => (sv_name (i := 14) sc__law_full_right.nd)) (fun _ _ _ _ _ => sp_nil) (fun _ _ _ _ _ => (se_ix (RoomG.u1 hr) (se_var (i := 6)) (se_bm .str m_indexS pl_str sl_str_index rfl (se_var (i := 10)) (sa_cons (se_var (i := 14)) sa_nil))))) sa_nil)))
      (ss_cons (ss_set (i := 8) sc__law_full_right.nd (se_lst (sa_cons (se_var (i := 7)) (sa_cons (se_rev (se_var (i := 7))) (sa_cons (se_call (F := F__law_neighbours) (ps := ["generator", "story"]) (x := "_law_neighbours") (s := s__law_neighbours) (DefC.mono (k := 4) (j := 8) (d__law_neighbours h) (le_lv (by decide))) hr pass_0 (sa_cons (se_var (i := 0)) (sa_cons (se_var (i := 5)) sa_nil))) (sa_cons (se_bin o_add (se_bin o_add (se_var (i := 5)) (se_cut (se_var (i := 5)) so_none (so_some (se_bin o_sub (se_var (i := 11)) se_int)))) (se_str (s := [113]))) (sa_cons (se_cut (se_var (i := 5)) (so_some se_int) so_none) (sa_cons (se_bin o_add (se_var (i := 5)) (se_cut (se_var (i := 5)) so_none (so_some se_int))) (sa_cons (se_rev (se_var (i := 5))) (sa_cons (se_bin o_add (se_var (i := 5)) (se_var (i := 5))) sa_nil))))))))))
      (ss_cons (ss_set (i := 8) sc__law_full_right.nd (se_bin o_add (se_bin o_add (se_var (i := 8)) (se_lc false  (own := [("sign", 14)]) rfl sc__law_full_right.nd (si_list (se_var (i := 10))) (blkOk (show blkB N__law_full_right (defScope s__law_full_right) _ _ = true by first | decide +kernel | rfl)) (fun _ _ _ _ _ => (sv_name (i := 14) sc__law_full_right.nd)) (fun _ _ _ _ _ => sp_nil) (fun _ _ _ _ _ => (se_bin o_add (se_cut (se_var (i := 5)) so_none (so_some (se_neg se_int))) (se_var (i := 14)))))) (se_lc false  (own := [("sign", 14)]) rfl sc__law_full_right.nd (si_list (se_var (i := 10))) (blkOk (show blkB N__law_full_right (defScope s__law_full_right) _ _ = true by first | decide +kernel | rfl)) (fun _ _ _ _ _ => (sv_name (i := 14) sc__law_full_right.nd)) (fun _ _ _ _ _ => sp_nil) (fun _ _ _ _ _ => (se_bin o_add (se_cut (se_var (i := 7)) so_none (so_some (se_neg se_int))) (se_var (i := 14)))))))
      (ss_cons (ss_if (st_cmp o_isNot (se_var (i := 4)) se_non) (ss_one (ss_set (i := 8) sc__law_full_right.nd (se_bin o_add (se_var (i := 8)) (se_cut (se_call (F := F__law_drawn_order) (ps := ["generator", "things"]) (x := "_law_drawn_order") (s := s__law_drawn_order) (DefC.mono (k := 3) (j := 8) (d__law_drawn_order h) (le_lv (by decide))) hr pass_0 (sa_cons (se_var (i := 0)) (sa_cons (se_call (F := F__law_stories) (ps := ["signs", "size"]) (x := "_law_stories") (s := s__law_stories) (DefC.mono (k := 1) (j := 8) (d__law_stories h) (le_lv (by decide))) hr pass_0 (sa_cons (se_var (i := 10)) (sa_cons (se_var (i := 1)) sa_nil))) sa_nil))) so_none (so_some se_int))))) ss_nil)
      (ss_cons (ss_for PassesOwn.never rfl (si_list (se_bin o_add (se_var (i := 8)) (se_lst (sa_cons (se_call (F := F__law_turning) (ps := ["scrap", "many"]) (x := "_law_turning") (s := s__law_turning) (DefC.mono (k := 1) (j := 8) (d__law_turning h) (le_lv (by decide))) hr pass_0 (sa_cons (se_var (i := 5)) (sa_cons se_int sa_nil))) (sa_cons (se_str (s := [])) (sa_cons se_non (sa_cons (se_callTy (c_list rfl) h.b_list (sa_cons (se_var (i := 5)) sa_nil)) (sa_cons (se_bm0 .str m_upper pl_str sl_str_upper rfl (se_var (i := 5))) (sa_cons (se_bin o_add (se_cut (se_var (i := 5)) (so_some se_int) so_none) (se_str (s := [113]))) sa_nil))))))))) (sg_name (i := 9) sc__law_full_right.nd) (ss_cons (ss_set (i := 12) sc__law_full_right.nd (se_and (se_callB (c_isi) h.b_isinstance (sa_cons (se_var (i := 9)) (sa_cons (se_ty .str h.b_str) sa_nil))) (se_and (se_cmp (o_ne hr.units) (se_var (i := 9)) (se_str (s := []))) (se_and (se_cmp (o_eq hr.units) (se_lc false  (own := [("sign", 14)]) rfl sc__law_full_right.nd (si_list (se_var (i := 9))) (blkOk (show blkB N__law_full_right (defScope s__law_full_right) _ _ = true by first | decide +kernel | rfl)) (fun _ _ _ _ _ => (sv_name (i := 14) sc__law_full_right.nd)) (fun _ _ _ _ _ => (sp_one (st_cmp (o_notIn (RoomG.u65 hr)) (se_var (i := 14)) (se_var (i := 10))))) (fun _ _ _ _ _ => (se_var (i := 14)))) (se_lst sa_nil)) (se_one (se_cmp (o_eq hr.units) (se_callB (c_sortX rfl hr.units) h.b_sorted (sa_cons (se_call (F := F__law_windows) (ps := ["scrap", "size"]) (x := "_law_windows") (s := s__law_windows) (DefC.mono (k := 1) (j := 8) (d__law_windows h) (le_lv (by decide))) hr pass_0 (sa_cons (se_var (i := 9)) (sa_cons (se_var (i := 11)) sa_nil))) sa_nil)) (se_var (i := 3))))))))
      (ss_one (ss_if (st_not (st_val (se_call (F := (F__law_exact 8)) (ps := ["told", "due"]) (x := "_law_exact") (s := s__law_exact) (DefC.mono (k := 8) (j := 8) (d__law_exact h) (le_lv (by decide))) hr pass_0 (sa_cons (se_lst (sa_cons (se_call (F := F_is_full_ring) (ps := ["signs", "size", "value"]) (x := "is_full_ring") (s := s_is_full_ring) (DefC.mono (k := 5) (j := 8) (d_is_full_ring h) (le_lv (by decide))) hr pass_0 (sa_cons (se_var (i := 10)) (sa_cons (se_var (i := 11)) (sa_cons (se_var (i := 9)) sa_nil)))) (sa_cons (se_callK [2, 1, 0] (F := F_is_full_ring) (ps := ["signs", "size", "value"]) (x := "is_full_ring") (s := s_is_full_ring) (ks := ["value", "size", "signs"]) (DefC.mono (k := 5) (j := 8) (d_is_full_ring h) (le_lv (by decide))) hr pass0 (sk_cons (se_var (i := 9)) (sk_cons (se_var (i := 11)) (sk_cons (se_var (i := 10)) sk_nil))) (fun _ _ _ _ _ _ us hl => match us, hl with | [_, _, _], _ => rfl)) sa_nil))) (sa_cons (se_lst (sa_cons (se_var (i := 12)) (sa_cons (se_var (i := 12)) sa_nil))) sa_nil))))) (ss_one (ss_ret se_bl)) ss_nil))))
      (ss_one (ss_ret se_bl)))))))))))))))))
theorem sc_law : FnScope N_law ["script"] (defScope s_law) := ⟨rfl, rfl, rfl, by decide +kernel, rfl, by decide +kernel, by decide +kernel⟩
theorem d_law (h : Hy K mg) : DefC P w K mg base CX0 10 s_law "law" ["script"] F_law :=
  DefC.of0 h.f_law sc_law (fun _ _ _ _ _ _ us hl => match us, hl with | [_], _ => rfl) clean_gen0 nox_gen0 (fun cdv A outer sh H E f hr =>
      (ss_cons (ss_for PassesOwn.never rfl (si_range1 h.b_range se_int) (sg_name (i := 1) sc_law.nd) (ss_cons (ss_set (i := 4) sc_law.nd (se_call (F := F__law_generator) (ps := ["script", "index"]) (x := "_law_generator") (s := s__law_generator) (DefC.mono (k := 2) (j := 9) (d__law_generator h) (le_lv (by decide))) hr pass_0 (sa_cons (se_var (i := 0)) (sa_cons (se_var (i := 1)) sa_nil))))
      (ss_one (ss_if (SW.st (sw_or (st_not (st_val (se_call (F := F__law_counts_right) (ps := ["generator"]) (x := "_law_counts_right") (s := s__law_counts_right) (DefC.mono (k := 9) (j := 9) (d__law_counts_right h) (le_lv (by decide))) hr pass_0 (sa_cons (se_var (i := 4)) sa_nil)))) (sw_or1 (st_not (st_val (se_call (F := F__law_full_right) (ps := ["generator"]) (x := "_law_full_right") (s := s__law_full_right) (DefC.mono (k := 9) (j := 9) (d__law_full_right h) (le_lv (by decide))) hr pass_0 (sa_cons (se_var (i := 4)) sa_nil))))))) (ss_one (ss_ret se_bl)) ss_nil))))
      (ss_cons (ss_if (st_not (st_val (se_call (F := F__law_great_right) (ps := ["generator"]) (x := "_law_great_right") (s := s__law_great_right) (DefC.mono (k := 9) (j := 9) (d__law_great_right h) (le_lv (by decide))) hr pass_0 (sa_cons (se_call (F := F__law_generator) (ps := ["script", "index"]) (x := "_law_generator") (s := s__law_generator) (DefC.mono (k := 2) (j := 9) (d__law_generator h) (le_lv (by decide))) hr pass_0 (sa_cons (se_var (i := 0)) (sa_cons se_int sa_nil))) sa_nil)))) (ss_one (ss_ret se_bl)) ss_nil)
      (ss_cons (ss_set (i := 2) sc_law.nd (se_lst (sa_cons (se_tup (sa_cons (se_tup (sa_cons (se_str (s := [97, 98])) (sa_cons se_int sa_nil))) (sa_cons se_int sa_nil))) (sa_cons (se_tup (sa_cons (se_tup (sa_cons (se_str (s := [97, 98])) (sa_cons se_int sa_nil))) (sa_cons se_int sa_nil))) (sa_cons (se_tup (sa_cons (se_tup (sa_cons (se_str (s := [97, 98])) (sa_cons se_int sa_nil))) (sa_cons se_int sa_nil))) (sa_cons (se_tup (sa_cons (se_tup (sa_cons (se_str (s := [97, 98])) (sa_cons se_int sa_nil))) (sa_cons se_int sa_nil))) (sa_cons (se_tup (sa_cons (se_tup (sa_cons (se_str (s := [97, 98, 99])) (sa_cons se_int sa_nil))) (sa_cons se_int sa_nil))) (sa_cons (se_tup (sa_cons (se_tup (sa_cons (se_str (s := [97, 98, 99])) (sa_cons se_int sa_nil))) (sa_cons se_int sa_nil))) (sa_cons (se_tup (sa_cons (se_tup (sa_cons (se_str (s := [97])) (sa_cons se_int sa_nil))) (sa_cons se_int sa_nil))) sa_nil)))))))))
      (ss_cons (ss_for PassesOwn.never rfl (si_list (se_var (i := 2))) (sg_tup (n := 2) rfl (sgs_cons (sg_name (i := 5) sc_law.nd) (sgs_cons (sg_name (i := 6) sc_law.nd) sgs_nil))) (ss_one (ss_if (st_not (st_val (se_call (F := (F__law_exact 8)) (ps := ["told", "due"]) (x := "_law_exact") (s := s__law_exact) (DefC.mono (k := 8) (j := 9) (d__law_exact h) (le_lv (by decide))) hr pass_0 (sa_cons (se_lst (sa_cons (se_call (F := F_how_many_full) (ps := ["signs", "size"]) (x := "how_many_full") (s := s_how_many_full) (DefC.mono (k := 5) (j := 9) (d_how_many_full h) (le_lv (by decide))) hr pass_0 (sa_cons (se_ix (RoomG.u1 hr) (se_var (i := 5)) se_int) (sa_cons (se_ix (RoomG.u1 hr) (se_var (i := 5)) se_int) sa_nil))) (sa_cons (se_callK [1, 0] (F := F_how_many_full) (ps := ["signs", "size"]) (x := "how_many_full") (s := s_how_many_full) (ks := ["size", "signs"]) (DefC.mono (k := 5) (j := 9) (d_how_many_full h) (le_lv (by decide))) hr pass0 (sk_cons (se_ix (RoomG.u1 hr) (se_var (i := 5)) se_int) (sk_cons (se_ix (RoomG.u1 hr) (se_var (i := 5)) se_int) sk_nil)) (fun _ _ _ _ _ _ us hl => match us, hl with | [_, _], _ => rfl)) sa_nil))) (sa_cons (se_lst (sa_cons (se_var (i := 6)) (sa_cons (se_var (i := 6)) sa_nil))) sa_nil))))) (ss_one (ss_ret se_bl)) ss_nil)))
      (ss_cons (ss_set (i := 3) sc_law.nd (se_call (F := F_full_ring) (ps := ["signs", "size"]) (x := "full_ring") (s := s_full_ring) (DefC.mono (k := 5) (j := 9) (d_full_ring h) (le_lv (by decide))) hr pass_0 (sa_cons (se_str (s := [97, 98])) (sa_cons se_int sa_nil))))
      (ss_one (ss_ret (se_and (se_cmp (o_eq hr.units) (se_callB (c_len) h.b_len (sa_cons (se_var (i := 3)) sa_nil)) se_int) (se_and (se_cmp (o_eq hr.units) (se_cut (se_var (i := 3)) so_none (so_some se_int)) (se_str (s := [97, 97, 97, 97, 97, 97, 97, 97, 98, 97, 97, 97, 97, 97, 97, 98, 98]))) (se_one (se_cmp o_is (se_call (F := F_is_full_ring) (ps := ["signs", "size", "value"]) (x := "is_full_ring") (s := s_is_full_ring) (DefC.mono (k := 5) (j := 9) (d_is_full_ring h) (le_lv (by decide))) hr pass_0 (sa_cons (se_str (s := [97, 98])) (sa_cons se_int (sa_cons (se_var (i := 3)) sa_nil)))) se_bl))))))))))))
end
def dd_is_whole : He.DefD := ⟨("is_whole", none), "is_whole", "is_whole", defArgs s_is_whole, defBody s_is_whole, defScope s_is_whole, [], []⟩
def dd_is_count : He.DefD := ⟨("is_count", none), "is_count", "is_count", defArgs s_is_count, defBody s_is_count, defScope s_is_count, [], []⟩
def dd_is_signs : He.DefD := ⟨("is_signs", none), "is_signs", "is_signs", defArgs s_is_signs, defBody s_is_signs, defScope s_is_signs, [], []⟩
def dd_is_story : He.DefD := ⟨("is_story", none), "is_story", "is_story", defArgs s_is_story, defBody s_is_story, defScope s_is_story, [], []⟩
def dd_is_scrap : He.DefD := ⟨("is_scrap", none), "is_scrap", "is_scrap", defArgs s_is_scrap, defBody s_is_scrap, defScope s_is_scrap, [], []⟩
def dd_check_scrap : He.DefD := ⟨("check_scrap", none), "check_scrap", "check_scrap", defArgs s_check_scrap, defBody s_check_scrap, defScope s_check_scrap, [], []⟩
def dd_check_ring_size : He.DefD := ⟨("check_ring_size", none), "check_ring_size", "check_ring_size", defArgs s_check_ring_size, defBody s_check_ring_size, defScope s_check_ring_size, [], []⟩
def dd_windows_round : He.DefD := ⟨("windows_round", none), "windows_round", "windows_round", defArgs s_windows_round, defBody s_windows_round, defScope s_windows_round, [], []⟩
def dd_ring_windows : He.DefD := ⟨("ring_windows", none), "ring_windows", "ring_windows", defArgs s_ring_windows, defBody s_ring_windows, defScope s_ring_windows, [], []⟩
def dd_ring_counts : He.DefD := ⟨("ring_counts", none), "ring_counts", "ring_counts", defArgs s_ring_counts, defBody s_ring_counts, defScope s_ring_counts, [], []⟩
def dd_power_of : He.DefD := ⟨("power_of", none), "power_of", "power_of", defArgs s_power_of, defBody s_power_of, defScope s_power_of, [], []⟩
def dd_check_full_signs : He.DefD := ⟨("check_full_signs", none), "check_full_signs", "check_full_signs", defArgs s_check_full_signs, defBody s_check_full_signs, defScope s_check_full_signs, [], []⟩
def dd_next_small : He.DefD := ⟨("next_small", none), "next_small", "next_small", defArgs s_next_small, defBody s_next_small, defScope s_next_small, [], []⟩
def dd_full_ring : He.DefD := ⟨("full_ring", none), "full_ring", "full_ring", defArgs s_full_ring, defBody s_full_ring, defScope s_full_ring, [], []⟩
def dd_is_full_ring : He.DefD := ⟨("is_full_ring", none), "is_full_ring", "is_full_ring", defArgs s_is_full_ring, defBody s_is_full_ring, defScope s_is_full_ring, [], []⟩
def dd_how_many_full : He.DefD := ⟨("how_many_full", none), "how_many_full", "how_many_full", defArgs s_how_many_full, defBody s_how_many_full, defScope s_how_many_full, [], []⟩
def dd__law_hash : He.DefD := ⟨("_law_hash", none), "_law_hash", "_law_hash", defArgs s__law_hash, defBody s__law_hash, defScope s__law_hash, [], []⟩
def dd__law_cell : He.DefD := ⟨("_law_cell", none), "_law_cell", "_law_cell", defArgs s__law_cell, defBody s__law_cell, defScope s__law_cell, [], []⟩
def dd__law_generator : He.DefD := ⟨("_law_generator", none), "_law_generator", "_law_generator", defArgs s__law_generator, defBody s__law_generator, defScope s__law_generator, [], []⟩
def dd__law_random : He.DefD := ⟨("_law_random", none), "_law_random", "_law_random", defArgs s__law_random, defBody s__law_random, defScope s__law_random, [], []⟩
def dd__law_pick : He.DefD := ⟨("_law_pick", none), "_law_pick", "_law_pick", defArgs s__law_pick, defBody s__law_pick, defScope s__law_pick, [], []⟩
def dd__law_drawn_order : He.DefD := ⟨("_law_drawn_order", none), "_law_drawn_order", "_law_drawn_order", defArgs s__law_drawn_order, defBody s__law_drawn_order, defScope s__law_drawn_order, [], []⟩
def dd__law_marked : He.DefD := ⟨("_law_marked", none), "_law_marked", "_law_marked", defArgs s__law_marked, defBody s__law_marked, defScope s__law_marked, [], []⟩
def dd__law_exact : He.DefD := ⟨("_law_exact", none), "_law_exact", "_law_exact", defArgs s__law_exact, defBody s__law_exact, defScope s__law_exact, [], []⟩
def dd__law_unlike : He.DefD := ⟨("_law_unlike", none), "_law_unlike", "_law_unlike", defArgs s__law_unlike, defBody s__law_unlike, defScope s__law_unlike, [], []⟩
def dd__law_scrap : He.DefD := ⟨("_law_scrap", none), "_law_scrap", "_law_scrap", defArgs s__law_scrap, defBody s__law_scrap, defScope s__law_scrap, [], []⟩
def dd__law_turning : He.DefD := ⟨("_law_turning", none), "_law_turning", "_law_turning", defArgs s__law_turning, defBody s__law_turning, defScope s__law_turning, [], []⟩
def dd__law_turnings : He.DefD := ⟨("_law_turnings", none), "_law_turnings", "_law_turnings", defArgs s__law_turnings, defBody s__law_turnings, defScope s__law_turnings, [], []⟩
def dd__law_stories : He.DefD := ⟨("_law_stories", none), "_law_stories", "_law_stories", defArgs s__law_stories, defBody s__law_stories, defScope s__law_stories, [], []⟩
def dd__law_windows : He.DefD := ⟨("_law_windows", none), "_law_windows", "_law_windows", defArgs s__law_windows, defBody s__law_windows, defScope s__law_windows, [], []⟩
def dd__law_counts_right : He.DefD := ⟨("_law_counts_right", none), "_law_counts_right", "_law_counts_right", defArgs s__law_counts_right, defBody s__law_counts_right, defScope s__law_counts_right, [], []⟩
def dd__law_neighbours : He.DefD := ⟨("_law_neighbours", none), "_law_neighbours", "_law_neighbours", defArgs s__law_neighbours, defBody s__law_neighbours, defScope s__law_neighbours, [], []⟩
def dd__law_great_right : He.DefD := ⟨("_law_great_right", none), "_law_great_right", "_law_great_right", defArgs s__law_great_right, defBody s__law_great_right, defScope s__law_great_right, [], []⟩
def dd__law_full_right : He.DefD := ⟨("_law_full_right", none), "_law_full_right", "_law_full_right", defArgs s__law_full_right, defBody s__law_full_right, defScope s__law_full_right, [], []⟩
def dd_law : He.DefD := ⟨("law", none), "law", "law", defArgs s_law, defBody s_law, defScope s_law, [], []⟩
def fn : List He.DefD := [dd_is_whole, dd_is_count, dd_is_signs, dd_is_story, dd_is_scrap, dd_check_scrap, dd_check_ring_size, dd_windows_round, dd_ring_windows, dd_ring_counts, dd_power_of, dd_check_full_signs, dd_next_small, dd_full_ring, dd_is_full_ring, dd_how_many_full, dd__law_hash, dd__law_cell, dd__law_generator, dd__law_random, dd__law_pick, dd__law_drawn_order, dd__law_marked, dd__law_exact, dd__law_unlike, dd__law_scrap, dd__law_turning, dd__law_turnings, dd__law_stories, dd__law_windows, dd__law_counts_right, dd__law_neighbours, dd__law_great_right, dd__law_full_right, dd_law]
def fa : List He.Fa := [.glo "is_whole", .glo "is_count", .glo "is_signs", .glo "is_story", .glo "is_scrap", .glo "check_scrap", .glo "check_ring_size", .glo "windows_round", .glo "ring_windows", .glo "ring_counts", .glo "power_of", .glo "check_full_signs", .glo "next_small", .glo "full_ring", .glo "is_full_ring", .glo "how_many_full", .glo "_law_hash", .glo "_law_cell", .glo "_law_generator", .glo "_law_random", .glo "_law_pick", .glo "_law_drawn_order", .glo "_law_marked", .glo "_law_exact", .glo "_law_unlike", .glo "_law_scrap", .glo "_law_turning", .glo "_law_turnings", .glo "_law_stories", .glo "_law_windows", .glo "_law_counts_right", .glo "_law_neighbours", .glo "_law_great_right", .glo "_law_full_right", .glo "law", .free "all", .free "bool", .free "dict", .free "int", .free "isinstance", .free "len", .free "list", .free "max", .free "min", .free "range", .free "sorted", .free "str", .free "sum", .free "tuple", .free "zip", .str "SMALL" (sv [97, 98, 99, 100, 101, 102, 103, 104, 105, 106, 107, 108, 109, 110, 111, 112, 113, 114, 115, 116, 117, 118, 119, 120, 121, 122])]
abbrev loose0 : List Str := ["ScrapError", "InvalidNumber", "InvalidSigns", "InvalidScrap", "SMALL", "is_whole", "is_count", "is_signs", "is_story", "is_scrap", "check_scrap", "check_ring_size", "windows_round", "ring_windows", "ring_counts", "power_of", "check_full_signs", "next_small", "full_ring", "is_full_ring", "how_many_full", "_law_hash", "_law_cell", "_law_generator", "_law_random", "_law_pick", "_law_drawn_order", "_law_marked", "_law_exact", "_law_unlike"]
abbrev loose1 : List Str := ["_law_scrap", "_law_turning", "_law_turnings", "_law_stories", "_law_windows", "_law_counts_right", "_law_neighbours", "_law_great_right", "_law_full_right"]
abbrev loose : List Str := loose0 ++ loose1
abbrev R : PySem.W.OpenRow := PySem.W.OpenLaw.row PySem.Challenge.rw_scrapstory_k89_whole_windows_and_full_ri
abbrev hk : PySem.W.Hook := He.hookD 4 fa fn
def ob (s : PySem.W.SharedT) : He.AlD := He.obsDG 4 fa fn (HandSHeadRun.getT s)
theorem ob_eq (s : PySem.W.SharedT) : ob s = hk.obs s.abs := He.obsDG_eq (HandSHeadRun.getT_eq s)
theorem run (w : World) : HandSHeadRun.RunEq R (PySem.W.view R.prog [45]) hk ob 4000 loose w := by
  intro os
  kernel_rfl
theorem hasD {K : PySem.W.Frag} {h : Heap} {mg : Str → Option Value} {x : Str} {s : Stmt} (X : K.In h) (G : h.Ns mainGlobals mg) (c : He.SaysD fa fn K) (i j : Nat) (h1 : fa[i]? = some (.glo x)) (h2 : fn[j]? = some ⟨(x, none), x, x, defArgs s, defBody s, defScope s, [], []⟩) : HasD K mg x s := by
  obtain ⟨fd, F⟩ := c.def_ j h2
  exact ⟨_, fd, He.glo_ok X G (c.fact i h1), F⟩
theorem hy {K : PySem.W.Frag} {h : Heap} {mg : Str → Option Value} (X : K.In h) (G : h.Ns mainGlobals mg) (c : He.SaysD fa fn K) : Hy K mg :=
  ⟨He.free_ok X G (c.fact 35 (f := .free "all") rfl),
   He.free_ok X G (c.fact 36 (f := .free "bool") rfl),
   He.free_ok X G (c.fact 37 (f := .free "dict") rfl),
   He.free_ok X G (c.fact 38 (f := .free "int") rfl),
   He.free_ok X G (c.fact 39 (f := .free "isinstance") rfl),
   He.free_ok X G (c.fact 40 (f := .free "len") rfl),
   He.free_ok X G (c.fact 41 (f := .free "list") rfl),
   He.free_ok X G (c.fact 42 (f := .free "max") rfl),
   He.free_ok X G (c.fact 43 (f := .free "min") rfl),
   He.free_ok X G (c.fact 44 (f := .free "range") rfl),
   He.free_ok X G (c.fact 45 (f := .free "sorted") rfl),
   He.free_ok X G (c.fact 46 (f := .free "str") rfl),
   He.free_ok X G (c.fact 47 (f := .free "sum") rfl),
   He.free_ok X G (c.fact 48 (f := .free "tuple") rfl),
   He.free_ok X G (c.fact 49 (f := .free "zip") rfl),
   He.str_ok X G (c.fact 50 rfl),
   hasD X G c 0 0 rfl rfl,
   hasD X G c 1 1 rfl rfl,
   hasD X G c 2 2 rfl rfl,
   hasD X G c 3 3 rfl rfl,
   hasD X G c 4 4 rfl rfl,
   hasD X G c 5 5 rfl rfl,
   hasD X G c 6 6 rfl rfl,
   hasD X G c 7 7 rfl rfl,
   hasD X G c 8 8 rfl rfl,
   hasD X G c 9 9 rfl rfl,
   hasD X G c 10 10 rfl rfl,
   hasD X G c 11 11 rfl rfl,
   hasD X G c 12 12 rfl rfl,
   hasD X G c 13 13 rfl rfl,
   hasD X G c 14 14 rfl rfl,
   hasD X G c 15 15 rfl rfl,
   hasD X G c 16 16 rfl rfl,
   hasD X G c 17 17 rfl rfl,
   hasD X G c 18 18 rfl rfl,
   hasD X G c 19 19 rfl rfl,
   hasD X G c 20 20 rfl rfl,
   hasD X G c 21 21 rfl rfl,
   hasD X G c 22 22 rfl rfl,
   hasD X G c 23 23 rfl rfl,
   hasD X G c 24 24 rfl rfl,
   hasD X G c 25 25 rfl rfl,
   hasD X G c 26 26 rfl rfl,
   hasD X G c 27 27 rfl rfl,
   hasD X G c 28 28 rfl rfl,
   hasD X G c 29 29 rfl rfl,
   hasD X G c 30 30 rfl rfl,
   hasD X G c 31 31 rfl rfl,
   hasD X G c 32 32 rfl rfl,
   hasD X G c 33 33 rfl rfl,
   hasD X G c 34 34 rfl rfl⟩
end Lk89

/-! FLq: from the law's function to the row's promise -/
namespace FL
open PySem PySem.Spec PyProof.Rows L2

theorem stoOk_nil {K : PySem.W.Frag} {H : Hp} : StoOk K H ⟨[], []⟩ [] := ⟨rfl, List.nodup_nil, (fun n a o h => by simp at h), (fun a h => nomatch h), (fun a h => nomatch h)⟩
theorem rep_script {K : PySem.W.Frag} {H : Hp} {a : Addr} {ns : List Int} (hS : SqL K H a (ns.map V.int)) : Rep K H ⟨[], []⟩ (.ref a) (.ro (ns.map D.int)) := by
  rcases hS with h | h
  · rcases h with h | ⟨ob, h⟩
    · exact .ro h (.inl rfl) ⟨(fun q => nomatch q), (fun q => nomatch q)⟩ (Reps.of_ints ns)
    · exact .ro h (.inr ⟨ob, rfl⟩) ⟨(fun q => nomatch q), (fun q => nomatch q)⟩ (Reps.of_ints ns)
  · exact .roK (fun G => .inr h) (Reps.of_ints ns)
theorem law_sp {K : PySem.W.Frag} {mg : Str → Option Value} {H : Hp} {a : Addr} {ns : List Int} {F : F1} {E : XK} (h : ∃ st', F [.ro (ns.map D.int)] [] = .ok (.bl true) st') (hS : SqL K H a (ns.map V.int)) :
    spF ⟨K, mg⟩ 1 F [.ref a] H (fun v _ => v = .bl true) E := by
  obtain ⟨st', e⟩ := h
  refine ⟨[.ro (ns.map D.int)], [], ⟨[], []⟩, .cons (rep_script hS) .nil, rfl, stoOk_nil, ?_⟩
  rw [e]
  intro C' H' so ex v rv
  cases rv
  rfl
theorem funD_one {K : PySem.W.Frag} {x q : Str} {ps : Arguments} {b : List Stmt} {sc : Scope} {f : Addr} {fd fd' : FuncData} (h : FunD K x q ps b sc [] [] f fd) (h' : FunD K x q ps b sc [] [] f fd') : fd = fd' := by
  obtain ⟨oc, od, dV, kV, doc, pm, an, cdv, ct, osl, rfl, lk, _⟩ := h.ex
  obtain ⟨oc', od', dV', kV', doc', pm', an', cdv', ct', osl', rfl, lk', _⟩ := h'.ex
  rw [lk] at lk'
  injection lk' with e
  injection e with _ _ e3 _
  injection e3
theorem law_facts {P : Program} {w : World} {K : PySem.W.Frag} {mg : Str → Option Value} {k : Nat} {s : Stmt} {x p : Str} {f : Addr} {F : F1} (hd : HasD K mg x s) (hf : mg x = some (.ref f)) (hb : BindsR x s [p])
    (D : ∀ base : Heap, DefC P w K mg base CX0 k s x [p] F) : ∃ fd : FuncData, (∀ (sh : Shared) (v : Value), BindsTo sh fd ⟨[v], []⟩ [(p, v)]) ∧ ∀ base : Heap, FnG P w K mg base CX0 k f fd [p] (spF ⟨K, mg⟩ 1 F) := by
  obtain ⟨f', fd, hm, FD⟩ := hd.ex
  rw [hf] at hm
  cases hm
  have b := FunD.bindsA (ps := [p]) FD hb
  refine ⟨fd, fun sh v => b sh [v] rfl, fun base => ?_⟩
  obtain ⟨f2, fd2, hm2, FD2, _, O⟩ := (D base).ex
  rw [hf] at hm2
  cases hm2
  have e := funD_one FD FD2
  subst e
  exact O
end FL

open PySem PySem.W PySem.Calls PyProof.Rows
theorem PySem.Challenge.cw_scrapstory_k89_whole_windows_and_full_ri_holds : PySem.Challenge.rw_scrapstory_k89_whole_windows_and_full_ri.Holds := by
  w_on; o_law
  refine HandSHeadRun.head_any (r := OpenLaw.row PySem.Challenge.rw_scrapstory_k89_whole_windows_and_full_ri) (q := view (OpenLaw.row PySem.Challenge.rw_scrapstory_k89_whole_windows_and_full_ri).prog [45]) (H := Lk89.hk) (ob := Lk89.ob) (M := 4000) (loose := Lk89.loose) (d := HandSHeadRun.topDef (OpenLaw.row PySem.Challenge.rw_scrapstory_k89_whole_windows_and_full_ri).prog 45) (kwd := []) Lk89.ob_eq
    (by kernel_rfl) (fun s => by kernel_rfl) Lk89.run (by kernel_rfl) (by kernel_rfl) (by kernel_rfl) (by rfl) (by first | assumption | decide +kernel) (by decide +kernel) ⟨rfl, rfl, rfl, rfl, rfl, by decide +kernel⟩ ?hw ?hc
  case hw => w_witness2
  case hc =>
    refine FL.walk_ofG (l := PySem.Challenge.rw_scrapstory_k89_whole_windows_and_full_ri) (n := 63) (k := 10) (x := "script") rfl (by decide) (by kernel_rfl) ⟨rfl, by decide, by decide⟩ (by kernel_rfl) ?F
    intro w mg fa h Y G hmg0
    obtain ⟨K, KX, c⟩ := Y
    have hmg : mg ("law" : PySem.Str) = some (.ref fa) := by
      have e : (HandSHeadRun.topDef (OpenLaw.row PySem.Challenge.rw_scrapstory_k89_whole_windows_and_full_ri).prog 45).name = ("law" : PySem.Str) := by kernel_rfl
      rw [← e]
      exact hmg0
    have hy := Lk89.hy KX G c
    obtain ⟨fd, hb, hF⟩ := FL.law_facts (P := (PySem.Challenge.rw_scrapstory_k89_whole_windows_and_full_ri).prog) (w := w) (K := K) (mg := mg) (k := 10) (s := Lk89.s_law) (x := "law") (p := "script") (f := fa) (F := Lk89.F_law) hy.f_law hmg
      (fun _ _ _ _ _ _ us hl => match us, hl with | [_], _ => rfl) (fun base => Lk89.d_law hy)
    exact ⟨K, fd, FL.spF ⟨K, mg⟩ 1 Lk89.F_law, KX, hb, fun H a ns hl _ hS => FL.law_sp Lk89.sp_law hS, fun base => hF base⟩
