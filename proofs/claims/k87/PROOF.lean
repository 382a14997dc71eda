import PyProof.Rows.All
import Wide.All
import OpenK.AllK
import Wide.FinOn
import HandS.ForMost
import HandS.ForExc
import HandS.CallSlots
import HandS.ExcInit
import HandS.Deep
import HandS.Defaults
import HandS.Flow
import HandS.Style
import HandS.Wide
import HandS.WideBits
import HandS.IsInst
import HandS.DictComp
import HandS.SortInts
import PyProof.Rows.SortShellAny
import HandS.Conv
import HandS.Small
import HandS.Zip
import KE.KRevSl
import KE.IntBitsLaws
import PySem.Challenge.RW_scrapstory_k87_whole_rings_and_turnings
import HandS.Ends
import HandS.More
import HandS.Words
import HandS.WordsExc
import HandS.Head0
import HandS.Head1
import HandS.Head2
import HandS.HeadEnd
import HandS.HeadHook1
import HandS.HeadHook2
import KE.KStateDown
set_option Elab.async false
set_option linter.all false
set_option maxRecDepth 100000
set_option maxHeartbeats 0
/-! FLa: data as trees and cells over the hand layer's heap -/
namespace FL
open PySem PySem.Spec PyProof.Rows L2

theorem nodup_at {l : List Addr} (h : l.Nodup) {i j : Nat} {a : Addr} (hi : l[i]? = some a) (hj : l[j]? = some a) : i = j := by
  obtain ⟨li, ei⟩ := List.getElem?_eq_some_iff.mp hi
  obtain ⟨lj, ej⟩ := List.getElem?_eq_some_iff.mp hj
  have hp := List.pairwise_iff_getElem.mp h
  rcases Nat.lt_trichotomy i j with q | q | q
  · exact absurd (ei.trans ej.symm) (hp i j li lj q)
  · exact q
  · exact absurd (ej.trans ei.symm) (hp j i lj li q)

/-- the cells' addresses, in order; addresses that no data may name -/
structure Ad where
  c : List Addr
  p : List Addr
def Ad.out (C : Ad) (a : Addr) : Prop := a ∉ C.c ∧ a ∉ C.p
/-- the built-in classes that a text asks about -/
inductive Ty where
  | non | bool | int | str | list | tuple | dict
  deriving DecidableEq, Inhabited
def Ty.nm : Ty → String
  | .non => "NoneType" | .bool => "bool" | .int => "int" | .str => "str" | .list => "list" | .tuple => "tuple" | .dict => "dict"
/-- data: a tree, or a cell (a list or dict that may be changed), or a value of the layer -/
inductive D where
  | non | bl (b : Bool) | int (i : Int) | str (s : List Nat) | lst (xs : List D) | tup (xs : List D) | dct (kvs : List (D × D)) | ro (xs : List D) | cel (n : Nat) | val (v : V) | ty (t : Ty)
  deriving Inhabited

/-- what a cell holds -/
inductive Co where
  | lst (xs : List D) | dct (kvs : List (D × D)) | lck (kvs : List (D × D))
abbrev Sto := List Co
abbrev En := List (Option D)
abbrev sv (s : List Nat) : Str := ⟨s.toArray⟩

/-- keys -/
inductive RepKey : Key → D → Prop
  | int (i : Int) : RepKey (.inl i) (.int i)
  | str (s : List Nat) : RepKey (.inr (sv s)) (.str s)

mutual
inductive Rep (K : PySem.W.Frag) (H : Hp) (C : Ad) : V → D → Prop
  | non : Rep K H C .non .non
  | bl (b : Bool) : Rep K H C (.bl b) (.bl b)
  | int (i : Int) : Rep K H C (.int i) (.int i)
  | str (s : List Nat) : Rep K H C (.str (sv s)) (.str s)
  | lst {a : Addr} {xs : List V} {ds : List D} : H a = some (.lst xs) → C.out a → Reps K H C xs ds → Rep K H C (.ref a) (.lst ds)
  | tup {a : Addr} {xs : List V} {ds : List D} : H a = some (.tup xs) → C.out a → Reps K H C xs ds → Rep K H C (.ref a) (.tup ds)
  | dct {a : Addr} {o : HO} {kvs : List (Key × V)} {es : List (D × D)} : H a = some o → (o = .dK kvs ∨ ∃ ob, o = .frz ob (.dK kvs)) → C.out a → RepKs K H C kvs es → Rep K H C (.ref a) (.dct es)
  | ro {a : Addr} {o : HO} {xs : List V} {ds : List D} : H a = some o → (o = .lst xs ∨ ∃ ob, o = .frz ob (.lst xs)) → C.out a → Reps K H C xs ds → Rep K H C (.ref a) (.ro ds)
  | roK {a : Addr} {xs : List V} {ds : List D} : (∀ G : Hp, SqL K G a xs) → Reps K H C xs ds → Rep K H C (.ref a) (.ro ds)
  | cel {a : Addr} {n : Nat} : C.c[n]? = some a → Rep K H C (.ref a) (.cel n)
  | val (v : V) : Rep K H C v (.val v)
  | ty (t : Ty) : Rep K H C (.ty t.nm) (.ty t)
inductive Reps (K : PySem.W.Frag) (H : Hp) (C : Ad) : List V → List D → Prop
  | nil : Reps K H C [] []
  | cons {v : V} {vs : List V} {d : D} {ds : List D} : Rep K H C v d → Reps K H C vs ds → Reps K H C (v :: vs) (d :: ds)
inductive RepKs (K : PySem.W.Frag) (H : Hp) (C : Ad) : List (Key × V) → List (D × D) → Prop
  | nil : RepKs K H C [] []
  | cons {k : Key} {v : V} {r : List (Key × V)} {q d : D} {es : List (D × D)} : RepKey k q → Rep K H C v d → RepKs K H C r es → RepKs K H C ((k, v) :: r) ((q, d) :: es)
end

section
variable {K : PySem.W.Frag} {H H' H'' : Hp} {C C' C'' : Ad}

def isFrz : HO → Bool
  | .frz _ _ => true
  | _ => false
/-- what a step may do: new cells behind, all tracked that is no cell stays, what is locked too -/
structure Ext (C : Ad) (H : Hp) (C' : Ad) (H' : Hp) : Prop where
  pre : C.c <+: C'.c
  priv : C'.p = C.p
  new : ∀ a ∈ C'.c, a ∈ C.c ∨ H a = none
  keep : ∀ a o, H a = some o → a ∉ C.c → H' a = some o
  frz : ∀ a o, H a = some o → isFrz o = true → H' a = some o
  trk : ∀ a o, H a = some o → H' a ≠ none

theorem Ext.refl : Ext C H C H := ⟨List.prefix_rfl, rfl, fun _ h => .inl h, fun _ _ h _ => h, fun _ _ h _ => h, fun _ _ h => by rw [h]; exact fun z => nomatch z⟩
theorem Ext.trans (a : Ext C H C' H') (b : Ext C' H' C'' H'') : Ext C H C'' H'' where
  pre := a.pre.trans b.pre
  priv := b.priv.trans a.priv
  new := fun x hx => by
    rcases b.new x hx with h | h
    · exact a.new x h
    · refine .inr ?_
      cases e : H x with
      | none => rfl
      | some o => exact absurd h (a.trk x o e)
  keep := fun x o h hx => by
    have h1 := a.keep x o h hx
    refine b.keep x o h1 fun hc => ?_
    rcases a.new x hc with q | q
    · exact hx q
    · rw [h] at q; cases q
  frz := fun x o h hx => b.frz x o (a.frz x o h hx) hx
  trk := fun x o h => by
    cases e : H' x with
    | none => exact absurd e (a.trk x o h)
    | some u => exact b.trk x u e

/-- what data lean on stays -/
structure Stay (C : Ad) (H : Hp) (C' : Ad) (H' : Hp) : Prop where
  pre : C.c <+: C'.c
  nt : ∀ a, C.out a → H a ≠ none → C'.out a
  keep : ∀ a o, H a = some o → C.out a → H' a = some o
theorem Ext.stay (e : Ext C H C' H') : Stay C H C' H' := ⟨e.pre, fun a ho hn => by
  refine ⟨fun hc => ?_, fun hc => ?_⟩
  · rcases e.new a hc with q | q
    · exact ho.1 q
    · exact hn q
  · rw [e.priv] at hc
    exact ho.2 hc, fun a o h q => e.keep a o h q.1⟩
theorem Stay.get (e : Stay C H C' H') {n : Nat} {a : Addr} (h : C.c[n]? = some a) : C'.c[n]? = some a := by
  obtain ⟨t, ht⟩ := e.pre
  obtain ⟨hn, rfl⟩ := List.getElem?_eq_some_iff.mp h
  rw [← ht, List.getElem?_append_left hn]
  exact h
theorem Stay.out (e : Stay C H C' H') {a : Addr} {o : HO} (h : H a = some o) (hx : C.out a) : C'.out a := e.nt a hx (by rw [h]; exact fun z => nomatch z)
theorem Ext.get (e : Ext C H C' H') {n : Nat} {a : Addr} (h : C.c[n]? = some a) : C'.c[n]? = some a := by
  obtain ⟨t, ht⟩ := e.pre
  obtain ⟨hn, rfl⟩ := List.getElem?_eq_some_iff.mp h
  rw [← ht, List.getElem?_append_left hn]
  exact h
theorem Ext.out (e : Ext C H C' H') {a : Addr} {o : HO} (h : H a = some o) (hx : C.out a) : C'.out a := e.stay.out h hx

mutual
theorem Rep.monoS (e : Stay C H C' H') : ∀ {d : D} {v : V}, Rep K H C v d → Rep K H' C' v d
  | .non, _, h => by cases h; exact .non
  | .bl _, _, h => by cases h; exact .bl _
  | .int _, _, h => by cases h; exact .int _
  | .str _, _, h => by cases h; exact .str _
  | .lst ds, _, h => by
    cases h with
    | lst h1 h2 h3 => exact .lst (e.keep _ _ h1 h2) (e.out h1 h2) (Reps.monoS e h3)
  | .tup ds, _, h => by
    cases h with
    | tup h1 h2 h3 => exact .tup (e.keep _ _ h1 h2) (e.out h1 h2) (Reps.monoS e h3)
  | .dct es, _, h => by
    cases h with
    | dct h1 hs h2 h3 => exact .dct (e.keep _ _ h1 h2) hs (e.out h1 h2) (RepKs.monoS e h3)
  | .ro ds, _, h => by
    cases h with
    | ro h1 ho h2 h3 => exact .ro (e.keep _ _ h1 h2) ho (e.out h1 h2) (Reps.monoS e h3)
    | roK h1 h3 => exact .roK h1 (Reps.monoS e h3)
  | .cel n, _, h => by
    cases h with
    | cel h => exact .cel (e.get h)
  | .val v, _, h => by cases h; exact .val v
  | .ty t, _, h => by cases h; exact .ty t
theorem Reps.monoS (e : Stay C H C' H') : ∀ {ds : List D} {vs : List V}, Reps K H C vs ds → Reps K H' C' vs ds
  | [], _, h => by cases h; exact .nil
  | d :: ds, _, h => by
    cases h with
    | cons h1 h2 => exact .cons (Rep.monoS e h1) (Reps.monoS e h2)
theorem RepKs.monoS (e : Stay C H C' H') : ∀ {es : List (D × D)} {kvs : List (Key × V)}, RepKs K H C kvs es → RepKs K H' C' kvs es
  | [], _, h => by cases h; exact .nil
  | (q, d) :: es, _, h => by
    cases h with
    | cons h0 h1 h2 => exact .cons h0 (Rep.monoS e h1) (RepKs.monoS e h2)
end

theorem Rep.mono (e : Ext C H C' H') {d : D} {v : V} (h : Rep K H C v d) : Rep K H' C' v d := h.monoS e.stay
theorem Reps.mono (e : Ext C H C' H') {ds : List D} {vs : List V} (h : Reps K H C vs ds) : Reps K H' C' vs ds := h.monoS e.stay
theorem RepKs.mono (e : Ext C H C' H') {es : List (D × D)} {kvs : List (Key × V)} (h : RepKs K H C kvs es) : RepKs K H' C' kvs es := h.monoS e.stay
/-! ### lists of data -/
theorem Reps.length : ∀ {ds : List D} {vs : List V}, Reps K H C vs ds → vs.length = ds.length
  | [], _, h => by cases h; rfl
  | d :: ds, _, h => by
    cases h with
    | cons h1 h2 => rw [List.length_cons, List.length_cons, Reps.length h2]
theorem Reps.get : ∀ {ds : List D} {vs : List V} {i : Nat} {d : D}, Reps K H C vs ds → ds[i]? = some d → ∃ v, vs[i]? = some v ∧ Rep K H C v d
  | [], _, _, _, h, e => by simp at e
  | d :: ds, _, 0, _, h, e => by
    cases h with
    | cons h1 h2 => simp at e; subst e; exact ⟨_, rfl, h1⟩
  | d :: ds, _, i + 1, _, h, e => by
    cases h with
    | cons h1 h2 =>
      obtain ⟨v, e1, r⟩ := Reps.get (i := i) h2 (by simpa using e)
      exact ⟨v, by simpa using e1, r⟩
theorem Reps.app : ∀ {ds es : List D} {vs us : List V}, Reps K H C vs ds → Reps K H C us es → Reps K H C (vs ++ us) (ds ++ es)
  | [], _, _, _, h, q => by cases h; exact q
  | d :: ds, _, _, _, h, q => by
    cases h with
    | cons h1 h2 => exact .cons h1 (Reps.app h2 q)
theorem Reps.take : ∀ {ds : List D} {vs : List V} (n : Nat), Reps K H C vs ds → Reps K H C (vs.take n) (ds.take n)
  | _, _, 0, _ => .nil
  | [], _, _ + 1, h => by cases h; exact .nil
  | d :: ds, _, n + 1, h => by
    cases h with
    | cons h1 h2 => exact .cons h1 (Reps.take n h2)
theorem Reps.drop : ∀ {ds : List D} {vs : List V} (n : Nat), Reps K H C vs ds → Reps K H C (vs.drop n) (ds.drop n)
  | _, _, 0, h => h
  | [], _, _ + 1, h => by cases h; exact .nil
  | d :: ds, _, n + 1, h => by
    cases h with
    | cons h1 h2 => exact Reps.drop n h2
theorem Reps.set : ∀ {ds : List D} {vs : List V} (i : Nat) {v : V} {d : D}, Reps K H C vs ds → Rep K H C v d → Reps K H C (vs.set i v) (ds.set i d)
  | [], _, _, _, _, h, _ => by cases h; exact .nil
  | d :: ds, _, 0, _, _, h, q => by
    cases h with
    | cons h1 h2 => exact .cons q h2
  | d :: ds, _, i + 1, _, _, h, q => by
    cases h with
    | cons h1 h2 => exact .cons h1 (Reps.set i h2 q)
theorem Reps.erase : ∀ {ds : List D} {vs : List V} (i : Nat), Reps K H C vs ds → Reps K H C (vs.eraseIdx i) (ds.eraseIdx i)
  | [], _, _, h => by cases h; exact .nil
  | d :: ds, _, 0, h => by
    cases h with
    | cons h1 h2 => exact h2
  | d :: ds, _, i + 1, h => by
    cases h with
    | cons h1 h2 => exact .cons h1 (Reps.erase i h2)
theorem Reps.reverse {ds : List D} {vs : List V} (h : Reps K H C vs ds) : Reps K H C vs.reverse ds.reverse := by
  induction ds generalizing vs with
  | nil => cases h; exact .nil
  | cons d ds ih =>
    cases h with
    | cons h1 h2 =>
      rw [List.reverse_cons, List.reverse_cons]
      exact (ih h2).app (.cons h1 .nil)
theorem Reps.rep {ds : List D} {vs : List V} (h : Reps K H C vs ds) : ∀ n : Nat, Reps K H C (List.replicate n vs).flatten (List.replicate n ds).flatten
  | 0 => .nil
  | n + 1 => by
    rw [List.replicate_succ, List.replicate_succ, List.flatten_cons, List.flatten_cons]
    exact h.app (Reps.rep h n)

/-! ### cells -/
def CoOk (K : PySem.W.Frag) (H : Hp) (C : Ad) (a : Addr) : Co → Prop
  | .lst ds => ∃ xs, H a = some (.lst xs) ∧ Reps K H C xs ds
  | .dct es => ∃ kvs, H a = some (.dK kvs) ∧ RepKs K H C kvs es
  | .lck es => ∃ ob kvs, H a = some (.frz ob (.dK kvs)) ∧ RepKs K H C kvs es
structure StoOk (K : PySem.W.Frag) (H : Hp) (C : Ad) (st : Sto) : Prop where
  len : C.c.length = st.length
  nd : C.c.Nodup
  ok : ∀ (n : Nat) (a : Addr) (o : Co), C.c[n]? = some a → st[n]? = some o → CoOk K H C a o
  pt : ∀ a ∈ C.p, H a ≠ none
  ap : ∀ a ∈ C.p, a ∉ C.c
theorem CoOk.trk {a : Addr} {o : Co} (h : CoOk K H C a o) : H a ≠ none := by
  cases o with
  | lst ds => obtain ⟨_, e, _⟩ := h; rw [e]; exact fun z => nomatch z
  | dct es => obtain ⟨_, e, _⟩ := h; rw [e]; exact fun z => nomatch z
  | lck es => obtain ⟨_, _, e, _⟩ := h; rw [e]; exact fun z => nomatch z
theorem StoOk.at {st : Sto} (s : StoOk K H C st) {n : Nat} {o : Co} (h : st[n]? = some o) : ∃ a, C.c[n]? = some a ∧ CoOk K H C a o := by
  have hn : n < C.c.length := by rw [s.len]; exact (List.getElem?_eq_some_iff.mp h).1
  exact ⟨C.c[n], List.getElem?_eq_getElem hn, s.ok n _ o (List.getElem?_eq_getElem hn) h⟩
theorem StoOk.mem {st : Sto} (s : StoOk K H C st) {a : Addr} (h : a ∈ C.c) : H a ≠ none := by
  obtain ⟨n, hn, rfl⟩ := List.mem_iff_getElem.mp h
  have hs : n < st.length := by rw [← s.len]; exact hn
  exact (s.ok n _ _ (List.getElem?_eq_getElem hn) (List.getElem?_eq_getElem hs)).trk
theorem StoOk.fresh {st : Sto} (s : StoOk K H C st) {p : Addr} (h : H p = none) : C.out p := ⟨fun hc => s.mem hc h, fun hc => s.pt p hc h⟩
/-- the heap has one tracked thing more -/
theorem Ext.tree {p : Addr} {o : HO} (h : H p = none) : Ext C H C (upd H p o) where
  pre := List.prefix_rfl
  priv := rfl
  new := fun _ h => .inl h
  keep := fun a u e _ => by rw [upd_ne (ne_of_none e h)]; exact e
  frz := fun a u e _ => by rw [upd_ne (ne_of_none e h)]; exact e
  trk := fun a u e => by rw [upd_ne (ne_of_none e h), e]; exact fun z => nomatch z
def Ad.add (C : Ad) (p : Addr) : Ad := ⟨C.c ++ [p], C.p⟩
theorem Ext.cell {p : Addr} {o : HO} (h : H p = none) : Ext C H (C.add p) (upd H p o) where
  pre := List.prefix_append _ _
  priv := rfl
  new := fun a ha => by
    rcases List.mem_append.mp ha with q | q
    · exact .inl q
    · rw [List.mem_singleton.mp q]; exact .inr h
  keep := fun a u e _ => by rw [upd_ne (ne_of_none e h)]; exact e
  frz := fun a u e _ => by rw [upd_ne (ne_of_none e h)]; exact e
  trk := fun a u e => by rw [upd_ne (ne_of_none e h), e]; exact fun z => nomatch z
theorem CoOk.mono {a : Addr} {o : Co} (e : Ext C H C' H') (k : ∀ u, H a = some u → H' a = some u) (h : CoOk K H C a o) : CoOk K H' C' a o := by
  cases o with
  | lst ds => obtain ⟨xs, h1, h2⟩ := h; exact ⟨xs, k _ h1, h2.mono e⟩
  | dct es => obtain ⟨xs, h1, h2⟩ := h; exact ⟨xs, k _ h1, h2.mono e⟩
  | lck es => obtain ⟨ob, xs, h1, h2⟩ := h; exact ⟨ob, xs, k _ h1, h2.mono e⟩
theorem Ext.pt {st : Sto} (e : Ext C H C' H') (s : StoOk K H C st) : ∀ a ∈ C'.p, H' a ≠ none := fun a ha => by
  rw [e.priv] at ha
  cases q : H a with
  | none => exact absurd q (s.pt a ha)
  | some o => exact e.trk a o q
theorem StoOk.tree {st : Sto} (s : StoOk K H C st) {p : Addr} {o : HO} (h : H p = none) : StoOk K (upd H p o) C st where
  len := s.len
  nd := s.nd
  ok := fun n a c h1 h2 => (s.ok n a c h1 h2).mono (Ext.tree h) fun u e => by rw [upd_ne (ne_of_none e h)]; exact e
  pt := (Ext.tree h).pt s
  ap := s.ap
theorem StoOk.cell {st : Sto} (s : StoOk K H C st) {p : Addr} {o : HO} {c : Co} (h : H p = none) (hc : CoOk K (upd H p o) (C.add p) p c) : StoOk K (upd H p o) (C.add p) (st ++ [c]) where
  len := by show (C.c ++ [p]).length = _; rw [List.length_append, List.length_append, s.len]; rfl
  nd := by
    show (C.c ++ [p]).Nodup
    rw [List.nodup_append]
    refine ⟨s.nd, by simp, fun a ha b hb => ?_⟩
    rw [List.mem_singleton.mp hb]
    exact fun z => (s.fresh h).1 (z ▸ ha)
  ok := fun n a u h1 h2 => by
    have h1 : (C.c ++ [p])[n]? = some a := h1
    by_cases hn : n < C.c.length
    · rw [List.getElem?_append_left hn] at h1
      rw [List.getElem?_append_left (by rw [← s.len]; exact hn)] at h2
      exact (s.ok n a u h1 h2).mono (Ext.cell h) fun u e => by rw [upd_ne (ne_of_none e h)]; exact e
    · have hn' : n = C.c.length := by
        have := (List.getElem?_eq_some_iff.mp h1).1
        rw [List.length_append, List.length_singleton] at this
        omega
      subst hn'
      rw [List.getElem?_append_right (Nat.le_refl _), Nat.sub_self] at h1
      rw [List.getElem?_append_right (by rw [s.len]; exact Nat.le_refl _), s.len, Nat.sub_self] at h2
      have e1 : p = a := by simpa using h1
      have e2 : c = u := by simpa using h2
      subst e1 e2
      exact hc
  pt := (Ext.cell h).pt s
  ap := fun a ha hc => by
    rcases List.mem_append.mp hc with q | q
    · exact s.ap a ha q
    · rw [List.mem_singleton.mp q] at ha
      exact s.pt _ ha h
/-- an address that no data may name -/
def Ad.hide (C : Ad) (p : Addr) : Ad := ⟨C.c, p :: C.p⟩
theorem Stay.hide {p : Addr} {o : HO} (h : H p = none) : Stay C H (C.hide p) (upd H p o) where
  pre := List.prefix_rfl
  nt := fun a ho hn => ⟨ho.1, fun hc => by
    rcases List.mem_cons.mp hc with rfl | q
    · exact hn h
    · exact ho.2 q⟩
  keep := fun a u e _ => by rw [upd_ne (ne_of_none e h)]; exact e
theorem Stay.show {p : Addr} : Stay (C.hide p) H C H where
  pre := List.prefix_rfl
  nt := fun a ho hn => ⟨ho.1, fun hc => ho.2 (List.mem_cons_of_mem _ hc)⟩
  keep := fun a u e _ => e
/-- what was hidden becomes a cell -/
theorem Stay.open {p : Addr} : Stay (C.hide p) H (C.add p) H where
  pre := List.prefix_append _ _
  nt := fun a ho hn => ⟨fun hc => by
    rcases List.mem_append.mp hc with q | q
    · exact ho.1 q
    · rw [List.mem_singleton.mp q] at ho
      exact ho.2 List.mem_cons_self, fun hc => ho.2 (List.mem_cons_of_mem _ hc)⟩
  keep := fun a u e _ => e
theorem CoOk.monoS {a : Addr} {o : Co} (e : Stay C H C' H') (k : ∀ u, H a = some u → H' a = some u) (h : CoOk K H C a o) : CoOk K H' C' a o := by
  cases o with
  | lst ds => obtain ⟨xs, h1, h2⟩ := h; exact ⟨xs, k _ h1, h2.monoS e⟩
  | dct es => obtain ⟨xs, h1, h2⟩ := h; exact ⟨xs, k _ h1, h2.monoS e⟩
  | lck es => obtain ⟨ob, xs, h1, h2⟩ := h; exact ⟨ob, xs, k _ h1, h2.monoS e⟩
theorem StoOk.hide {st : Sto} (s : StoOk K H C st) {p : Addr} {o : HO} (h : H p = none) : StoOk K (upd H p o) (C.hide p) st where
  len := s.len
  nd := s.nd
  ok := fun n a c h1 h2 => (s.ok n a c h1 h2).monoS (Stay.hide h) fun u e => by rw [upd_ne (ne_of_none e h)]; exact e
  pt := fun a ha => by
    rcases List.mem_cons.mp ha with rfl | q
    · rw [upd_same]; exact fun z => nomatch z
    · cases e : H a with
      | none => exact absurd e (s.pt a q)
      | some u => rw [upd_ne (ne_of_none e h), e]; exact fun z => nomatch z
  ap := fun a ha hc => by
    rcases List.mem_cons.mp ha with rfl | q
    · exact (s.fresh h).1 hc
    · exact s.ap a q hc
theorem StoOk.show {st : Sto} {p : Addr} (s : StoOk K H (C.hide p) st) : StoOk K H C st where
  len := s.len
  nd := s.nd
  ok := fun n a c h1 h2 => (s.ok n a c h1 h2).monoS Stay.show fun u e => e
  pt := fun a ha => s.pt a (List.mem_cons_of_mem _ ha)
  ap := fun a ha => s.ap a (List.mem_cons_of_mem _ ha)
theorem StoOk.open {st : Sto} {p : Addr} {ds : List D} {xs : List V} (s : StoOk K H (C.hide p) st) (hc : p ∉ C.c) (hp : p ∉ C.p) (h : H p = some (.lst xs)) (r : Reps K H (C.hide p) xs ds) : StoOk K H (C.add p) (st ++ [.lst ds]) where
  len := by
    have l : C.c.length = st.length := s.len
    show (C.c ++ [p]).length = _
    rw [List.length_append, List.length_append, l]; rfl
  nd := by
    show (C.c ++ [p]).Nodup
    rw [List.nodup_append]
    refine ⟨s.nd, by simp, fun a ha b hb => ?_⟩
    rw [List.mem_singleton.mp hb]
    exact fun z => hc (z ▸ ha)
  ok := fun n a u h1 h2 => by
    have l : C.c.length = st.length := s.len
    have h1 : (C.c ++ [p])[n]? = some a := h1
    by_cases hn : n < C.c.length
    · rw [List.getElem?_append_left hn] at h1
      rw [List.getElem?_append_left (by rw [← l]; exact hn)] at h2
      exact (s.ok n a u h1 h2).monoS Stay.open fun u e => e
    · have hn' : n = C.c.length := by
        have := (List.getElem?_eq_some_iff.mp h1).1
        rw [List.length_append, List.length_singleton] at this
        omega
      subst hn'
      rw [List.getElem?_append_right (Nat.le_refl _), Nat.sub_self] at h1
      rw [List.getElem?_append_right (by rw [l]; exact Nat.le_refl _), l, Nat.sub_self] at h2
      have e1 : p = a := by simpa using h1
      have e2 : Co.lst ds = u := by simpa using h2
      subst e1 e2
      exact ⟨xs, h, r.monoS Stay.open⟩
  pt := fun a ha => s.pt a (List.mem_cons_of_mem _ ha)
  ap := fun a ha hcc => by
    rcases List.mem_append.mp hcc with q | q
    · exact s.ap a (List.mem_cons_of_mem _ ha) q
    · rw [List.mem_singleton.mp q] at ha
      exact hp ha
/-- a hidden thing is written -/
theorem Stay.hid {p : Addr} {o : HO} (h : p ∈ C.p) : Stay C H C (upd H p o) where
  pre := List.prefix_rfl
  nt := fun a ho _ => ho
  keep := fun a u e q => by
    have z : a ≠ p := fun z => q.2 (by rw [z]; exact h)
    rw [upd_ne z]; exact e
theorem StoOk.hid {st : Sto} (s : StoOk K H C st) {p : Addr} {o : HO} (h : p ∈ C.p) : StoOk K (upd H p o) C st where
  len := s.len
  nd := s.nd
  ok := fun n a c h1 h2 => (s.ok n a c h1 h2).monoS (Stay.hid h) fun u e => by
    have z : a ≠ p := fun z => s.ap p h (by rw [← z]; exact List.mem_of_getElem? h1)
    rw [upd_ne z]; exact e
  pt := fun a ha => by
    by_cases z : a = p
    · rw [z, upd_same]; exact fun q => nomatch q
    · rw [upd_ne z]; exact s.pt a ha
  ap := s.ap
/-- a cell is written -/
theorem Ext.put {a : Addr} {o u : HO} (h : a ∈ C.c) (hu : H a = some u) (hf : isFrz u = false) : Ext C H C (upd H a o) where
  pre := List.prefix_rfl
  priv := rfl
  new := fun _ h => .inl h
  keep := fun b u e hb => by
    have z : b ≠ a := fun z => hb (by rw [z]; exact h)
    rw [upd_ne z]; exact e
  frz := fun b w e hb => by
    have z : b ≠ a := fun z => by
      rw [z, hu] at e
      cases e
      rw [hf] at hb
      cases hb
    rw [upd_ne z]; exact e
  trk := fun b u e => by
    by_cases z : b = a
    · rw [z, upd_same]; exact fun q => nomatch q
    · rw [upd_ne z, e]; exact fun q => nomatch q
theorem StoOk.put {st : Sto} (s : StoOk K H C st) {n : Nat} {a : Addr} {o u : HO} {c : Co} (h : C.c[n]? = some a) (hu : H a = some u) (hf : isFrz u = false) (hc : CoOk K (upd H a o) C a c) : StoOk K (upd H a o) C (st.set n c) where
  len := by rw [List.length_set]; exact s.len
  nd := s.nd
  ok := fun m b w h1 h2 => by
    by_cases hm : m = n
    · subst hm
      rw [h] at h1
      cases h1
      have hl : m < st.length := by have := (List.getElem?_eq_some_iff.mp h2).1; rwa [List.length_set] at this
      rw [List.getElem?_set_self hl] at h2
      cases h2
      exact hc
    · rw [List.getElem?_set_ne (Ne.symm hm)] at h2
      have hb : b ≠ a := fun z => by
        subst z
        exact hm (nodup_at s.nd h1 h)
      exact (s.ok m b w h1 h2).mono (Ext.put (List.mem_of_getElem? h) hu hf) fun u e => by rw [upd_ne hb]; exact e
  pt := (Ext.put (List.mem_of_getElem? h) hu hf).pt s
  ap := s.ap
end

/-! ### slots -/
def Rs (K : PySem.W.Frag) (H : Hp) (C : Ad) (σ : L2.St) (ρ : En) : Prop := ρ.length = σ.length ∧ ∀ (i : Nat) (d : D), ρ[i]? = some (some d) → ∃ v, σ[i]? = some (some v) ∧ Rep K H C v d
section
variable {K : PySem.W.Frag} {H H' : Hp} {C C' : Ad} {σ : L2.St} {ρ : En}
theorem Rs.mono (r : Rs K H C σ ρ) (e : Ext C H C' H') : Rs K H' C' σ ρ := ⟨r.1, fun i d h => by
  obtain ⟨v, h1, h2⟩ := r.2 i d h
  exact ⟨v, h1, h2.mono e⟩⟩
theorem Rs.monoS (r : Rs K H C σ ρ) (e : Stay C H C' H') : Rs K H' C' σ ρ := ⟨r.1, fun i d h => by
  obtain ⟨v, h1, h2⟩ := r.2 i d h
  exact ⟨v, h1, h2.monoS e⟩⟩
theorem Rs.set (r : Rs K H C σ ρ) {i : Nat} {v : V} {d : D} (q : Rep K H C v d) : Rs K H C (σ.set i (some v)) (ρ.set i (some d)) := ⟨by rw [List.length_set, List.length_set]; exact r.1, fun j u h => by
  by_cases hj : j = i
  · subst hj
    have hl : j < ρ.length := by have := (List.getElem?_eq_some_iff.mp h).1; rwa [List.length_set] at this
    rw [List.getElem?_set_self hl] at h
    cases h
    exact ⟨v, List.getElem?_set_self (by rw [← r.1]; exact hl), q⟩
  · rw [List.getElem?_set_ne (Ne.symm hj)] at h
    obtain ⟨w, h1, h2⟩ := r.2 j u h
    exact ⟨w, by rw [List.getElem?_set_ne (Ne.symm hj)]; exact h1, h2⟩⟩
/-- slots forgotten -/
def wipeE (ρ : En) : List Nat → En
  | [] => ρ
  | i :: is => (wipeE ρ is).set i none
theorem Rs.unset (r : Rs K H C σ ρ) (i : Nat) : Rs K H C (σ.set i none) (ρ.set i none) := ⟨by rw [List.length_set, List.length_set]; exact r.1, fun j u h => by
  by_cases hj : j = i
  · subst hj
    have hl : j < ρ.length := by have := (List.getElem?_eq_some_iff.mp h).1; rwa [List.length_set] at this
    rw [List.getElem?_set_self hl] at h
    cases h
  · rw [List.getElem?_set_ne (Ne.symm hj)] at h
    obtain ⟨w, h1, h2⟩ := r.2 j u h
    exact ⟨w, by rw [List.getElem?_set_ne (Ne.symm hj)]; exact h1, h2⟩⟩
theorem Rs.wipe (r : Rs K H C σ ρ) : ∀ is : List Nat, Rs K H C (L2.wipe σ is) (wipeE ρ is)
  | [] => r
  | i :: is => (r.wipe is).unset i
end
end FL

/-! FLb: what a piece of the text does, as a function on data; the judgement SE and the rules for expressions -/
namespace FL
open PySem PySem.Spec PyProof.Rows L2

/-- a result: none told, a value with the store behind, an error (its class by number, what it holds) -/
inductive R (α : Type) where
  | no | ok (a : α) (st : Sto) | exc (c : Nat) (x : D) (st : Sto)
def R.bind {α β : Type} (r : R α) (k : α → Sto → R β) : R β := match r with
  | .no => .no
  | .ok a st => k a st
  | .exc c x st => .exc c x st
@[simp] theorem R.bind_no {α β : Type} (k : α → Sto → R β) : R.bind .no k = .no := rfl
@[simp] theorem R.bind_ok {α β : Type} (a : α) (st : Sto) (k : α → Sto → R β) : R.bind (.ok a st) k = k a st := rfl
@[simp] theorem R.bind_exc {α β : Type} (c : Nat) (x : D) (st : Sto) (k : α → Sto → R β) : R.bind (.exc c x st) k = .exc c x st := rfl
def R.opt {α : Type} (o : Option α) (st : Sto) : R α := match o with
  | some a => .ok a st
  | none => .no
@[simp] theorem R.opt_some {α : Type} (a : α) (st : Sto) : R.opt (some a) st = .ok a st := rfl
@[simp] theorem R.opt_none {α : Type} (st : Sto) : R.opt (none : Option α) st = .no := rfl

abbrev FE := En → Sto → R D
abbrev FT := En → Sto → R Bool
abbrev FA := En → Sto → R (List D)

/-- the classes of errors, by number -/
def xn (c : Nat) : Str := (["InvalidName", "InvalidNumber", "InvalidFraction", "InvalidLot", "InvalidList", "InvalidText", "TooMany", "InvalidSigns", "InvalidScrap", "InvalidScraps", "InvalidCounts", "InvalidWindow", "InvalidStretch", "InvalidSwap", "InvalidOverlap", "InvalidPairs", "InvalidSpans", "InvalidChanges", "InvalidCosts", "InvalidCopies", "InvalidReadings", "InvalidStories", "InvalidMarks", "InvalidOrder", "InvalidRing"] : List Str).getD c "?"

/-- the text's own facts that a reading may lean on -/
structure Gx where
  K : PySem.W.Frag
  mg : Str → Option Value
abbrev gx (X : Cx) : Gx := ⟨X.K, X.mg⟩
/-- an error as it lies -/
def ExcAt (g : Gx) (H : Hp) (C : Ad) (cls : Value) (dd : Option Addr) (c : Nat) (x : D) : Prop :=
  g.mg (xn c) = some cls ∧ ∃ (d : Addr) (v : V), dd = some d ∧ H d = some (.xd [("value", v)]) ∧ Rep g.K H C v x
abbrev XK' := Value → Option Addr → Hp → Prop
/-- what follows a result, in every heap that bears it -/
def After {α : Type} (g : Gx) (W : XK') (C : Ad) (H : Hp) (r : R α) (P : α → Sto → Ad → Hp → Prop) : Prop := match r with
  | .no => False
  | .ok a st => ∀ C' H', StoOk g.K H' C' st → Ext C H C' H' → P a st C' H'
  | .exc c x st => ∀ C' H' cls dd, StoOk g.K H' C' st → Ext C H C' H' → ExcAt g H' C' cls dd c x → W cls dd H'
section
variable {α β : Type} {g : Gx} {W : XK'} {C : Ad} {H : Hp}
theorem After.bind {r : R α} {k : α → Sto → R β} {P : β → Sto → Ad → Hp → Prop} (h : After g W C H (r.bind k) P) :
    After g W C H r fun a st C' H' => After g W C' H' (k a st) P := by
  cases r with
  | no => exact h
  | exc c x st => exact h
  | ok a st =>
    intro C' H' so e
    have h : After g W C H (k a st) P := h
    show After g W C' H' (k a st) P
    cases q : k a st with
    | no => rw [q] at h; exact h
    | ok b st' => rw [q] at h; exact fun C'' H'' so' e' => h C'' H'' so' (e.trans e')
    | exc c x st' => rw [q] at h; exact fun C'' H'' cls dd so' e' => h C'' H'' cls dd so' (e.trans e')
theorem After.imp {r : R α} {P P' : α → Sto → Ad → Hp → Prop} (h : After g W C H r P) (f : ∀ a st C' H', StoOk g.K H' C' st → Ext C H C' H' → P a st C' H' → P' a st C' H') : After g W C H r P' := by
  cases r with
  | no => exact h
  | exc c x st => exact h
  | ok a st => exact fun C' H' so e => f a st C' H' so e (h C' H' so e)
theorem After.now {a : α} {st : Sto} {P : α → Sto → Ad → Hp → Prop} (h : After g W C H (.ok a st) P) {C' : Ad} {H' : Hp} (so : StoOk g.K H' C' st) (e : Ext C H C' H') : P a st C' H' := h C' H' so e
theorem After.here {a : α} {st : Sto} {P : α → Sto → Ad → Hp → Prop} (h : After g W C H (.ok a st) P) (so : StoOk g.K H C st) : P a st C H := h C H so .refl
theorem After.opt {o : Option α} {st : Sto} {P : α → Sto → Ad → Hp → Prop} (h : After g W C H (R.opt o st) P) : ∃ a, o = some a ∧ After g W C H (.ok a st) P := by
  cases o with
  | none => exact h.elim
  | some a => exact ⟨a, rfl, h⟩
end

def SimE (g : Gx) (W : WX) (t : TE) (f : FE) : Prop := ∀ (ρ : En) (σ : L2.St) (st : Sto) (H : Hp) (C : Ad) (Q : VK), Rs g.K H C σ ρ → StoOk g.K H C st →
  After g (fun c d H' => W c d σ H') C H (f ρ st) (fun d _ C' H' => ∀ v, Rep g.K H' C' v d → Q v H') → t σ H Q
def SimT (g : Gx) (W : WX) (t : TT) (f : FT) : Prop := ∀ (ρ : En) (σ : L2.St) (st : Sto) (H : Hp) (C : Ad) (Q : Bool → Hp → Prop), Rs g.K H C σ ρ → StoOk g.K H C st →
  After g (fun c d H' => W c d σ H') C H (f ρ st) (fun b _ _ H' => Q b H') → t σ H Q
def SimA (g : Gx) (W : WX) (t : TA) (f : FA) : Prop := ∀ (ρ : En) (σ : L2.St) (st : Sto) (H : Hp) (C : Ad) (Q : List V → Hp → Prop), Rs g.K H C σ ρ → StoOk g.K H C st →
  After g (fun c d H' => W c d σ H') C H (f ρ st) (fun ds _ C' H' => ∀ vs, Reps g.K H' C' vs ds → Q vs H') → t σ H Q
structure SE (X : Cx) (W : WX) (e : Expr) (f : FE) : Prop where
  ex : ∃ t, PE X e t ∧ SimE (gx X) W t f
structure ST (X : Cx) (W : WX) (e : Expr) (f : FT) : Prop where
  ex : ∃ t, PT X e t ∧ SimT (gx X) W t f
structure SW (X : Cx) (W : WX) (e : Expr) (f : FT) : Prop where
  ex : ∃ t, PW X e t ∧ SimT (gx X) W t f
structure SA (X : Cx) (W : WX) (es : List Expr) (f : FA) : Prop where
  ex : ∃ t, PA X es t ∧ SimA (gx X) W t f

/-! ### names and constants -/
def fC (d : D) : FE := fun _ st => .ok d st
def fVar (i : Nat) : FE := fun ρ st => match ρ[i]? with
  | some (some d) => .ok d st
  | _ => .no
section
variable {X : Cx} {W : WX}
theorem sim_const {v : V} {d : D} (h : ∀ K H C, Rep K H C v d) : SimE (gx X) W (tC v) (fC d) := fun ρ σ st H C Q rs so h2 => (h2.here so) v (h _ _ _)
theorem se_var {i : Nat} {x : Str} {pos : Pos} (hN : X.N[i]? = some x := by rfl) (hv : Vis X.env.scope x := by first | exact Or.inl rfl | exact Or.inr (Or.inl rfl) | exact Or.inr (Or.inr rfl)) (hd : (x == ("__debug__" : Str)) = false := by decide)
    (hcd : (x == ("__classdict__" : Str)) = false := by decide) : SE X W (.Name x pos) (fVar i) := ⟨tVar i, pe_var hN hv hd hcd, fun ρ σ st H C Q rs so h => by
  unfold fVar at h
  cases e : ρ[i]? with
  | none => rw [e] at h; exact h.elim
  | some o =>
    rw [e] at h
    cases o with
    | none => exact h.elim
    | some d =>
      obtain ⟨v, h1, h2⟩ := rs.2 i d e
      exact ⟨v, h1, h.here so v h2⟩⟩
theorem se_int {i : Int} {j pos} : SE X W (.Constant (.int i) j pos) (fC (.int i)) := ⟨_, pe_int, sim_const fun _ _ _ => .int i⟩
theorem se_bl {b : Bool} {j pos} : SE X W (.Constant (.bool b) j pos) (fC (.bl b)) := ⟨_, pe_bl, sim_const fun _ _ _ => .bl b⟩
theorem se_non {j pos} : SE X W (.Constant .none j pos) (fC .non) := ⟨_, pe_non, sim_const fun _ _ _ => .non⟩
theorem se_str {x : Str} {s : List Nat} {j pos} (h : x = sv s := by decide +kernel) : SE X W (.Constant (.str x) j pos) (fC (.str s)) := ⟨_, pe_str, sim_const fun _ _ _ => h ▸ .str s⟩
/-- a global that holds a text or a number -/
theorem se_gstr {x : Str} {s : List Nat} {pos : Pos} (hm : ∃ t, X.mg x = some (.str (sv s) t)) (hg : Gl X x := by rfl) (hd : (x == ("__debug__" : Str)) = false := by decide) : SE X W (.Name x pos) (fC (.str s)) := by
  obtain ⟨t, hm⟩ := hm
  exact ⟨_, pe_glob (v := .str (sv s)) hg hm ⟨t, rfl⟩ hd, sim_const fun _ _ _ => .str s⟩
theorem se_gint {x : Str} {i : Int} {pos : Pos} (hm : ∃ t, X.mg x = some (.int i t)) (hg : Gl X x := by rfl) (hd : (x == ("__debug__" : Str)) = false := by decide) : SE X W (.Name x pos) (fC (.int i)) := by
  obtain ⟨t, hm⟩ := hm
  exact ⟨_, pe_glob (v := .int i) hg hm ⟨t, rfl⟩ hd, sim_const fun _ _ _ => .int i⟩
/-- a built-in class as a value -/
theorem se_ty (ty : Ty) {x : Str} {pos : Pos} (hm : X.mg x = none) (hg : Gl X x := by rfl) (hv : bootBuiltins x = some (.type ty.nm) := by decide +kernel) (hn : x ≠ "__name__" := by decide) (hd : (x == ("__debug__" : Str)) = false := by decide) :
    SE X W (.Name x pos) (fC (.ty ty)) := ⟨_, pe_bltn (v := .ty ty.nm) hg hm hv rfl hn hd, sim_const fun _ _ _ => .ty _⟩
/-- a class or def of the text as a value -/
theorem se_gref {x : Str} {a : Addr} {pos : Pos} (hm : X.mg x = some (.ref a)) (hg : Gl X x := by rfl) (hd : (x == ("__debug__" : Str)) = false := by decide) : SE X W (.Name x pos) (fC (.val (.ref a))) :=
  ⟨_, pe_glob (v := .ref a) hg hm rfl hd, sim_const fun _ _ _ => .val _⟩

/-! ### arguments -/
def faNil : FA := fun _ st => .ok [] st
def faCons (f : FE) (r : FA) : FA := fun ρ st => (f ρ st).bind fun d st1 => (r ρ st1).bind fun ds st2 => .ok (d :: ds) st2
theorem sa_nil : SA X W [] faNil := ⟨tNil, pa_nil, fun ρ σ st H C Q rs so h => h.here so [] .nil⟩
theorem sa_cons {e : Expr} {es : List Expr} {f : FE} {r : FA} (he : SE X W e f) (hr : SA X W es r) (hs : starEach (e :: es) X.env = (false, eval e X.env) :: starEach es X.env := by rfl) : SA X W (e :: es) (faCons f r) := by
  obtain ⟨te, pe, se⟩ := he
  obtain ⟨ta, pa, sa⟩ := hr
  refine ⟨tCons te ta, pa_cons pe pa hs, fun ρ σ st H C Q rs so h => ?_⟩
  refine se ρ σ st H C _ rs so (h.bind.imp fun d st1 C1 H1 so1 e1 h1 v rv => ?_)
  refine sa ρ σ st1 H1 C1 _ (rs.mono e1) so1 (h1.bind.imp fun ds st2 C2 H2 so2 e2 h2 vs rvs => ?_)
  exact h2.here so2 _ (.cons (rv.mono e2) rvs)

/-! ### operators -/
/-- what an operation on values does -/
abbrev F2 := D → D → Sto → R D
def SimR2 (g : Gx) (r : R2) (f : F2) : Prop := ∀ (x y : D) (st : Sto) (H : Hp) (C : Ad) (v u : V) (Q : VK), StoOk g.K H C st → Rep g.K H C v x → Rep g.K H C u y →
  After g (fun _ _ _ => False) C H (f x y st) (fun d _ C' H' => ∀ v, Rep g.K H' C' v d → Q v H') → r v u H Q
def fBin (f : F2) (a b : FE) : FE := fun ρ st => (a ρ st).bind fun x st1 => (b ρ st1).bind fun y st2 => f x y st2
/-- an operation raises nothing -/
def NoX2 (f : F2) : Prop := ∀ x y st c z st', f x y st ≠ .exc c z st'
theorem After.nox {α : Type} {g : Gx} {W W' : XK'} {C : Ad} {H : Hp} {r : R α} {P : α → Sto → Ad → Hp → Prop} (h : After g W C H r P) (n : ∀ c x st, r ≠ .exc c x st) : After g W' C H r P := by
  cases r with
  | no => exact h
  | ok a st => exact h
  | exc c x st => exact absurd rfl (n c x st)
theorem sim_op {r : R2} {f : F2} {ta tb : TE} {fa fb : FE} (hr : SimR2 (gx X) r f) (hn : NoX2 f) (ha : SimE (gx X) W ta fa) (hb : SimE (gx X) W tb fb) : SimE (gx X) W (tOp r ta tb) (fBin f fa fb) := fun ρ σ st H C Q rs so h => by
  refine ha ρ σ st H C _ rs so (h.bind.imp fun x st1 C1 H1 so1 e1 h1 v rv => ?_)
  refine hb ρ σ st1 H1 C1 _ (rs.mono e1) so1 (h1.bind.imp fun y st2 C2 H2 so2 e2 h2 u ru => ?_)
  exact hr x y st2 H2 C2 v u Q so2 (rv.mono e2) ru (h2.nox (hn x y st2))
theorem se_bin {op : Operator} {a b : Expr} {fa fb : FE} {f : F2} {pos : Pos} (ho : ∃ r, OpR X (binaryOp op) r ∧ SimR2 (gx X) r f ∧ NoX2 f) (ha : SE X W a fa) (hb : SE X W b fb) : SE X W (.BinOp a op b pos) (fBin f fa fb) := by
  obtain ⟨r, h1, h2, h3⟩ := ho
  obtain ⟨ta, pa, sa⟩ := ha
  obtain ⟨tb, pb, sb⟩ := hb
  exact ⟨tOp r ta tb, pe_op h1 pa pb, sim_op h2 h3 sa sb⟩
theorem se_cmp {op : CmpOp} {a b : Expr} {fa fb : FE} {f : F2} {pos : Pos} (ho : ∃ r, OpR X (compareOp op) r ∧ SimR2 (gx X) r f ∧ NoX2 f) (ha : SE X W a fa) (hb : SE X W b fb) (hm : behindInMarks op b = false := by first | exact nomark _ | rfl) :
    SE X W (.Compare a [op] [b] pos) (fBin f fa fb) := by
  obtain ⟨r, h1, h2, h3⟩ := ho
  obtain ⟨ta, pa, sa⟩ := ha
  obtain ⟨tb, pb, sb⟩ := hb
  exact ⟨tOp r ta tb, pe_cmpR h1 pa pb hm, sim_op h2 h3 sa sb⟩
end
end FL

/-! FLc: operators -/
namespace FL
open PySem PySem.Spec PyProof.Rows L2

def lim : Nat := 1000000
theorem lim_line {n : Nat} (h : n ≤ lim) : n ≤ sizeLine := Nat.le_trans h (by rw [sizeLine_eq]; decide)
theorem sv_len (s : List Nat) : (sv s).length = s.length := by simp [Str.length]
theorem sv_tl (s : List Nat) : (sv s).cps.toList = s := by simp
theorem sv_app (a b : List Nat) : sv a ++ sv b = sv (a ++ b) := by
  show Str.append _ _ = _
  simp [Str.append, sv]

/-- the items of a list -/
def items (st : Sto) : D → Option (List D)
  | .lst ds => some ds
  | .cel n => match st[n]? with
    | some (.lst ds) => some ds
    | _ => none
  | _ => none
/-- .. a list, or one that is only read -/
def itemsR (st : Sto) : D → Option (List D)
  | .ro ds => some ds
  | d => items st d
/-- .. or a tuple -/
def itemsS (st : Sto) : D → Option (List D)
  | .tup ds => some ds
  | d => itemsR st d
/-- the entries of a dict -/
def ents (st : Sto) : D → Option (List (D × D))
  | .dct es => some es
  | .cel n => match st[n]? with
    | some (.dct es) => some es
    | some (.lck es) => some es
    | _ => none
  | _ => none
section
variable {K : PySem.W.Frag} {H : Hp} {C : Ad} {st : Sto} {d : D} {ds : List D} {v : V}
theorem items_rep (h : items st d = some ds) (so : StoOk K H C st) (r : Rep K H C v d) : ∃ a xs, v = .ref a ∧ H a = some (.lst xs) ∧ Reps K H C xs ds := by
  cases d with
  | lst es =>
    cases h
    cases r with
    | lst h1 h2 h3 => exact ⟨_, _, rfl, h1, h3⟩
  | cel n =>
    unfold items at h
    cases r with
    | cel hc =>
      cases e : st[n]? with
      | none => simp [e] at h
      | some o =>
        simp only [e] at h
        cases o with
        | lst es =>
          cases h
          obtain ⟨xs, h1, h2⟩ := so.ok n _ _ hc e
          exact ⟨_, xs, rfl, h1, h2⟩
        | dct es => cases h
        | lck es => cases h
  | _ => cases h
theorem itemsR_rep (h : itemsR st d = some ds) (so : StoOk K H C st) (r : Rep K H C v d) : ∃ a xs, v = .ref a ∧ SqL K H a xs ∧ Reps K H C xs ds ∧ (∀ H' C', Stay C H C' H' → (∀ n, d = .cel n → H' a = H a) → SqL K H' a xs) := by
  by_cases hd : ∃ es, d = .ro es
  · obtain ⟨es, rfl⟩ := hd
    cases h
    cases r with
    | ro h1 h2 h3 h4 =>
      rcases h2 with rfl | ⟨ob, rfl⟩
      · exact ⟨_, _, rfl, .inl (.inl h1), h4, fun H' C' e _ => .inl (.inl (e.keep _ _ h1 h3))⟩
      · exact ⟨_, _, rfl, .inl (.inr ⟨ob, h1⟩), h4, fun H' C' e _ => .inl (.inr ⟨ob, e.keep _ _ h1 h3⟩)⟩
    | roK h1 h2 => exact ⟨_, _, rfl, h1 H, h2, fun H' C' _ _ => h1 H'⟩
  · have h' : items st d = some ds := by
      cases d <;> first
        | exact absurd ⟨_, rfl⟩ hd
        | exact h
    obtain ⟨a, xs, rfl, h1, h2⟩ := items_rep h' so r
    refine ⟨a, xs, rfl, .inl (.inl h1), h2, fun H' C' e k => ?_⟩
    cases d with
    | lst es =>
      cases r with
      | lst q1 q2 q3 =>
        rw [h1] at q1
        exact .inl (.inl (e.keep _ _ h1 q2))
    | cel n => exact .inl (.inl ((k n rfl).trans h1))
    | _ => cases h'
theorem tup_rep {C : Ad} (r : Rep K H C v (.tup ds)) : ∃ a xs, v = .ref a ∧ H a = some (.tup xs) ∧ C.out a ∧ Reps K H C xs ds := by
  cases r with
  | tup h1 h2 h3 => exact ⟨_, _, rfl, h1, h2, h3⟩
theorem itemsS_rep (h : itemsS st d = some ds) (so : StoOk K H C st) (r : Rep K H C v d) : ∃ a xs, v = .ref a ∧ (SqL K H a xs ∨ SqT K H a xs) ∧ Reps K H C xs ds := by
  by_cases hd : ∃ es, d = .tup es
  · obtain ⟨es, rfl⟩ := hd
    cases h
    obtain ⟨a, xs, rfl, h1, _, h2⟩ := tup_rep r
    exact ⟨a, xs, rfl, .inr (.inl (.inl h1)), h2⟩
  · have h' : itemsR st d = some ds := by
      cases d <;> first
        | exact absurd ⟨_, rfl⟩ hd
        | exact h
    obtain ⟨a, xs, rfl, h1, h2, _⟩ := itemsR_rep h' so r
    exact ⟨a, xs, rfl, .inl h1, h2⟩
theorem Reps.ints : ∀ {is : List Int} {vs : List V}, Reps K H C vs (is.map D.int) → vs = is.map V.int
  | [], _, h => by cases h; rfl
  | i :: is, _, h => by
    cases h with
    | cons h1 h2 => cases h1; rw [Reps.ints h2]; rfl
theorem Reps.strs : ∀ {ss : List (List Nat)} {vs : List V}, Reps K H C vs (ss.map D.str) → vs = (ss.map sv).map V.str
  | [], _, h => by cases h; rfl
  | i :: is, _, h => by
    cases h with
    | cons h1 h2 => cases h1; rw [Reps.strs h2]; rfl
theorem Reps.bls : ∀ {bs : List Bool} {vs : List V}, Reps K H C vs (bs.map D.bl) → vs = bs.map V.bl
  | [], _, h => by cases h; rfl
  | i :: is, _, h => by
    cases h with
    | cons h1 h2 => cases h1; rw [Reps.bls h2]; rfl
theorem Reps.of_ints : ∀ (is : List Int), Reps K H C (is.map V.int) (is.map D.int)
  | [] => .nil
  | i :: is => .cons (.int i) (Reps.of_ints is)
theorem Reps.of_strs : ∀ (ss : List (List Nat)), Reps K H C ((ss.map sv).map V.str) (ss.map D.str)
  | [] => .nil
  | i :: is => .cons (.str i) (Reps.of_strs is)
end

/-! ### new objects -/
section
variable {g : Gx} {W : XK'} {C : Ad} {H : Hp} {st : Sto} {ds : List D} {xs : List V} {Q : VK}
theorem new_lst (h : After g W C H (.ok (.lst ds) st) fun d _ C' H' => ∀ v, Rep g.K H' C' v d → Q v H') (so : StoOk g.K H C st) (r : Reps g.K H C xs ds) : ∀ p, H p = none → Q (.ref p) (upd H p (.lst xs)) := fun p hp =>
  h.now (so.tree hp) (Ext.tree hp) _ (.lst upd_same (so.fresh hp) (r.mono (Ext.tree hp)))
theorem new_tup (h : After g W C H (.ok (.tup ds) st) fun d _ C' H' => ∀ v, Rep g.K H' C' v d → Q v H') (so : StoOk g.K H C st) (r : Reps g.K H C xs ds) : ∀ p, H p = none → Q (.ref p) (upd H p (.tup xs)) := fun p hp =>
  h.now (so.tree hp) (Ext.tree hp) _ (.tup upd_same (so.fresh hp) (r.mono (Ext.tree hp)))
theorem new_cel (h : After g W C H (.ok (.cel st.length) (st ++ [.lst ds])) fun d _ C' H' => ∀ v, Rep g.K H' C' v d → Q v H') (so : StoOk g.K H C st) (r : Reps g.K H C xs ds) : ∀ p, H p = none → Q (.ref p) (upd H p (.lst xs)) := fun p hp =>
  h.now (so.cell hp ⟨xs, upd_same, r.mono (Ext.cell hp)⟩) (Ext.cell hp) _ (.cel (by show (C.c ++ [p])[st.length]? = some p; rw [← so.len]; simp))
end

/-! ### + -/
def gAdd : F2 := fun x y st => match x, y with
  | .int i, .int j => .ok (.int (i + j)) st
  | .str a, .str b => if a.length + b.length ≤ lim then .ok (.str (a ++ b)) st else .no
  | x, y => match items st x, items st y with
    | some a, some b => if a.length + b.length ≤ lim then .ok (.lst (a ++ b)) st else .no
    | _, _ => .no
theorem nox_add : NoX2 gAdd := fun x y st c z st' h => by
  unfold gAdd at h
  split at h <;> first
    | cases h
    | (split at h <;> first
      | cases h
      | (split at h <;> cases h))
section
variable {X : Cx}
theorem o_add : ∃ r, OpR X (binaryOp .Add) r ∧ SimR2 (gx X) r gAdd ∧ NoX2 gAdd := by
  refine ⟨_, op_add.or (op_add_str.or op_cat), fun x y st H C v u Q so rx ry h => ?_, nox_add⟩
  unfold gAdd at h
  split at h
  · cases rx; cases ry
    exact .inl ⟨_, _, rfl, rfl, h.here so _ (.int _)⟩
  · cases rx; cases ry
    split at h
    · rename_i hl
      refine .inr (.inl ⟨_, _, rfl, rfl, ?_, ?_⟩)
      · rw [sv_len, sv_len]; exact lim_line hl
      · rw [sv_app]; exact h.here so _ (.str _)
    · exact h.elim
  · split at h
    · rename_i e1 e2
      split at h
      · rename_i hl
        obtain ⟨a, xs, rfl, h1, r1⟩ := items_rep e1 so rx
        obtain ⟨b, ys, rfl, h2, r2⟩ := items_rep e2 so ry
        exact .inr (.inr ⟨a, b, xs, ys, rfl, rfl, h1, h2, by rw [r1.length, r2.length]; exact lim_line hl, new_lst h so (r1.app r2)⟩)
      · exact h.elim
    · exact h.elim
end

/-! ### numbers -/
def gInt (c : Int → Int → Bool) (f : Int → Int → D) : F2 := fun x y st => match x, y with
  | .int i, .int j => if c i j = true then .ok (f i j) st else .no
  | _, _ => .no
theorem nox_int {c : Int → Int → Bool} {f : Int → Int → D} : NoX2 (gInt c f) := fun x y st c z st' h => by
  unfold gInt at h
  split at h
  · split at h <;> cases h
  · cases h
theorem sim_int {g : Gx} {c : Int → Int → Bool} {P : Int → Int → Prop} {f : Int → Int → D} {k : Int → Int → V} (hc : ∀ i j, c i j = true → P i j) (hf : ∀ K H C i j, Rep K H C (k i j) (f i j)) : SimR2 g (rI P k) (gInt c f) := fun x y st H C v u Q so rx ry h => by
  unfold gInt at h
  split at h
  · cases rx; cases ry
    split at h
    · rename_i q
      exact ⟨_, _, rfl, rfl, hc _ _ q, h.here so _ (hf _ _ _ _ _)⟩
    · exact h.elim
  · exact h.elim
def cTrue : Int → Int → Bool := fun _ _ => true
theorem sim_int0 {g : Gx} {f : Int → Int → D} {k : Int → Int → V} (hf : ∀ K H C i j, Rep K H C (k i j) (f i j)) : SimR2 g (rI0 k) (gInt cTrue f) := fun x y st H C v u Q so rx ry h => by
  unfold gInt at h
  split at h
  · cases rx; cases ry
    rw [show cTrue _ _ = true from rfl, if_pos rfl] at h
    exact ⟨_, _, rfl, rfl, h.here so _ (hf _ _ _ _ _)⟩
  · exact h.elim
def gSub : F2 := gInt cTrue fun i j => .int (i - j)
def cMul : Int → Int → Bool := fun i j => decide (i.natAbs < 18446744073709551616) || decide (j.natAbs < 18446744073709551616) || decide (Builtin.Int.intBits i + Builtin.Int.intBits j ≤ 134217728)
def cDiv : Int → Int → Bool := fun _ j => decide (0 < j) && decide (j.natAbs < 18446744073709551616)
def cMod : Int → Int → Bool := fun _ j => decide (0 < j)
def cPow : Int → Int → Bool := fun i j => decide (0 ≤ j) && decide ((Builtin.Int.intBits i : Int) * j ≤ 134217728)
def gDiv : F2 := gInt cDiv fun i j => .int (i / j)
def gMod : F2 := gInt cMod fun i j => .int (i % j)
def gPow : F2 := gInt cPow fun i j => .int (i ^ j.toNat)
section
variable {X : Cx}
theorem o_sub : ∃ r, OpR X (binaryOp .Sub) r ∧ SimR2 (gx X) r gSub ∧ NoX2 gSub := ⟨_, op_sub, sim_int0 fun _ _ _ _ _ => .int _, nox_int⟩
theorem o_div : ∃ r, OpR X (binaryOp .FloorDiv) r ∧ SimR2 (gx X) r gDiv ∧ NoX2 gDiv := ⟨_, op_fdivW, sim_int (fun i j h => by
  unfold cDiv at h
  simp only [Bool.and_eq_true, decide_eq_true_eq] at h
  exact wide_div (b := 64) h.1 (by omega) (by decide) (by decide)) fun _ _ _ _ _ => .int _, nox_int⟩
theorem o_mod : ∃ r, OpR X (binaryOp .Mod) r ∧ SimR2 (gx X) r gMod ∧ NoX2 gMod := ⟨_, op_mod, sim_int (fun i j h => by
  unfold cMod at h
  simpa using h) fun _ _ _ _ _ => .int _, nox_int⟩
def CPowB (i j : Int) : Prop := 0 ≤ j ∧ (Builtin.Int.intBits i : Int) * j ≤ 2 ^ 27
theorem op_powB : OpR X (binaryOp .Pow) (rI CPowB fun i j => .int (i ^ j.toNat)) := opI fun _ _ _ _ _ _ _ hc q => pow_int hc.1 hc.2 q
theorem o_pow : ∃ r, OpR X (binaryOp .Pow) r ∧ SimR2 (gx X) r gPow ∧ NoX2 gPow := ⟨_, op_powB, sim_int (fun i j h => by
  unfold cPow at h
  simp only [Bool.and_eq_true, decide_eq_true_eq] at h
  exact ⟨h.1, h.2⟩) fun _ _ _ _ _ => .int _, nox_int⟩
end

/-! ### * -/
def repL {α : Type} (n : Int) (xs : List α) : List α := (List.replicate n.toNat xs).flatten
theorem repL_len {α : Type} (n : Int) (xs : List α) : (repL n xs).length = n.toNat * xs.length := by
  unfold repL
  induction n.toNat with
  | zero => simp
  | succ k ih => rw [List.replicate_succ, List.flatten_cons, List.length_append, ih, Nat.succ_mul, Nat.add_comm]
def gMul : F2 := fun x y st => match x, y with
  | .int i, .int j => if cMul i j = true then .ok (.int (i * j)) st else .no
  | .str a, .int j => if j.natAbs < 1000000 ∧ a.length * j.toNat ≤ lim then .ok (.str (repL j a)) st else .no
  | x, .int j => match items st x with
    | some a => if j.natAbs < 1000000 ∧ a.length * j.toNat ≤ lim then .ok (.lst (repL j a)) st else .no
    | _ => .no
  | _, _ => .no
theorem nox_mul : NoX2 gMul := fun x y st c z st' h => by
  unfold gMul at h
  split at h <;> first
    | cases h
    | (split at h <;> first
      | cases h
      | (split at h <;> cases h))
theorem fold_app (l : List (Array Nat)) : ∀ acc : Array Nat, (l.foldl (· ++ ·) acc).toList = acc.toList ++ (l.map (·.toList)).flatten := by
  induction l with
  | nil => intro acc; simp
  | cons a r ih => intro acc; rw [List.foldl_cons, ih]; simp
section
variable {X : Cx}
def rMulS : R2 := fun x y H Q => ∃ z n, x = .str z ∧ y = .int n ∧ n < 2 ^ 40 ∧ -(2 ^ 40) < n ∧ z.length * n.toNat ≤ sizeLine ∧ Q (.str (sv (repL n z.cps.toList))) H
theorem op_mulS : OpR X (binaryOp .Mult) rMulS := by
  intro pins s σ H x y v u Q I rx ry h
  obtain ⟨z, n, rfl, rfl, h1, h2, hz, q⟩ := h
  obtain ⟨t, rfl⟩ := rx
  obtain ⟨t', rfl⟩ := ry
  have hz' : z.length * n.toNat ≤ 16777216 := by rw [sizeLine_eq] at hz; exact hz
  refine PySem.P.mul_str ?_ (fun a b => ?_) (fun a b => ?_) ?_
  · have e1 : ¬ n < -(2 ^ 63 : Int) := by omega
    have e2 : ¬ n ≥ (2 ^ 63 : Int) := by omega
    rw [decide_eq_false e1, decide_eq_false e2]; rfl
  · have h0 : 0 < n := by omega
    intro hc
    have e : (z.length : Int) * n ≤ 16777216 := by
      have : ((z.length * n.toNat : Nat) : Int) ≤ 16777216 := Int.ofNat_le.mpr hz'
      rw [Int.natCast_mul, Int.toNat_of_nonneg (by omega)] at this
      exact this
    have e2 : (2 ^ 63 - 1 : Int) / n + 1 ≤ z.length := hc
    have e3 : (2 ^ 63 - 1 : Int) < ((2 ^ 63 - 1 : Int) / n + 1) * n := Int.lt_ediv_add_one_mul_self _ h0
    have e4 : ((2 ^ 63 - 1 : Int) / n + 1) * n ≤ (z.length : Int) * n := Int.mul_le_mul_of_nonneg_right e2 (by omega)
    omega
  · unfold PySem.Builtin.Str.tooLong
    have e : ¬ (z.length * n.toNat > sizeLine) := by rw [sizeLine_eq]; omega
    exact decide_eq_false e
  · split
    · rename_i hn
      refine ⟨by decide, .str _, H, I.tok _, ⟨s.toks, ?_⟩, q⟩
      have e0 : n.toNat = 0 := by omega
      have e1 : repL n z.cps.toList = [] := by unfold repL; rw [e0]; rfl
      rw [e1]
      rfl
    · rename_i hn
      split
      · rename_i hb
        refine ⟨.str _, H, I, ⟨t, ?_⟩, q⟩
        congr 1
        obtain ⟨zc⟩ := z
        simp only [Bool.or_eq_true, beq_iff_eq] at hb
        rcases hb with hb | hb
        · subst hb
          simp [repL, sv]
        · have e0 : zc = #[] := Array.eq_empty_of_size_eq_zero (by simpa [Str.length] using hb)
          subst e0
          simp [repL, sv]
      · have ea : (List.replicate n.toNat z.cps).foldl (· ++ ·) #[] = (repL n z.cps.toList).toArray := by
          apply Array.ext'
          rw [fold_app]
          unfold repL
          simp
        refine ⟨?_, .str _, H, I.tok _, ⟨s.toks, ?_⟩, q⟩
        · rw [ea]
          show (repL n z.cps.toList).toArray.size ≤ sizeLine
          rw [List.size_toArray, repL_len, Array.length_toList, Nat.mul_comm]
          exact hz
        · rw [ea]

theorem o_mul : ∃ r, OpR X (binaryOp .Mult) r ∧ SimR2 (gx X) r gMul ∧ NoX2 gMul := by
  refine ⟨_, op_mulX.or (op_mul.or (op_mulS.or op_rep)), fun x y st H C v u Q so rx ry h => ?_, nox_mul⟩
  unfold gMul at h
  split at h
  · cases rx; cases ry
    split at h
    · rename_i q
      unfold cMul at q
      simp only [Bool.or_eq_true, decide_eq_true_eq] at q
      rcases q with (q | q) | q
      · exact .inr (.inl ⟨_, _, rfl, rfl, .inl (by omega), h.here so _ (.int _)⟩)
      · exact .inr (.inl ⟨_, _, rfl, rfl, .inr (by omega), h.here so _ (.int _)⟩)
      · exact .inl ⟨_, _, rfl, rfl, by unfold CMulX; omega, h.here so _ (.int _)⟩
    · exact h.elim
  · cases rx; cases ry
    split at h
    · rename_i q
      refine .inr (.inr (.inl ⟨_, _, rfl, rfl, by omega, by omega, ?_, ?_⟩))
      · rw [sv_len]; exact lim_line q.2
      · rw [sv_tl]; exact h.here so _ (.str _)
    · exact h.elim
  · cases ry
    split at h
    · rename_i e1
      split at h
      · rename_i q
        obtain ⟨a, xs, rfl, h1, r1⟩ := items_rep e1 so rx
        exact .inr (.inr (.inr ⟨a, _, xs, rfl, rfl, h1, by omega, by omega, by rw [r1.length]; exact lim_line q.2, new_lst h so (r1.rep _)⟩))
      · exact h.elim
    · exact h.elim
  · exact h.elim
end
end FL

/-! FLd: comparisons -/
namespace FL
open PySem PySem.Spec PyProof.Rows L2

def okCp (c : Nat) : Bool := decide (c < 1114112)
theorem okCp_ok {s : List Nat} (h : s.all okCp = true) : PyData.strOk (sv s) = true := by
  show (s.toArray).all (fun x => decide (x < 0x110000)) = true
  unfold okCp at h
  simpa using h
/-- data as the library's plain data (no dicts), n deep -/
def toPy (st : Sto) : Nat → D → Option PyData
  | _, .non => some .none
  | _, .bl b => some (.bool b)
  | _, .int i => some (.int i)
  | _, .str s => if s.all okCp = true then some (.str (sv s)) else none
  | n + 1, .tup ds => (ds.mapM (toPy st n)).map .tuple
  | n + 1, .ro ds => (ds.mapM (toPy st n)).map .list
  | n + 1, d => (items st d).bind fun ds => (ds.mapM (toPy st n)).map .list
  | _, _ => none
section
variable {K : PySem.W.Frag} {H : Hp} {C : Ad} {st : Sto}
theorem mapM_dp {f : D → Option PyData} (ih : ∀ d p v, f d = some p → Rep K H C v d → Dp K H v p) : ∀ (ds : List D) (ps : List PyData) (vs : List V), ds.mapM f = some ps → Reps K H C vs ds → DpAll K H vs ps
  | [], ps, vs, h, r => by
    cases r
    have : ps = [] := by simpa using h.symm
    subst this
    exact .nil
  | d :: ds, ps, vs, h, r => by
    cases r with
    | cons r1 r2 =>
      rw [List.mapM_cons] at h
      cases e : f d with
      | none => rw [e] at h; cases h
      | some p =>
        cases e2 : ds.mapM f with
        | none => rw [e, e2] at h; cases h
        | some qs =>
          rw [e, e2] at h
          have : p :: qs = ps := by simpa using h
          subst this
          exact .cons (ih _ _ _ e r1) (mapM_dp ih ds qs _ e2 r2)
theorem toPy_dp (so : StoOk K H C st) : ∀ (n : Nat) (d : D) (p : PyData) (v : V), toPy st n d = some p → Rep K H C v d → Dp K H v p := by
  intro n
  induction n with
  | zero =>
    intro d p v h r
    cases d with
    | non => cases r; cases h; exact .non
    | bl b => cases r; cases h; exact .bl _
    | int i => cases r; cases h; exact .int _
    | str s =>
      cases r
      rw [toPy] at h
      split at h
      · cases h; exact .str _
      · cases h
    | _ => cases h
  | succ n ih =>
    intro d p v h r
    have lst : ∀ ds, items st d = some ds → (ds.mapM (toPy st n)).map PyData.list = some p → Dp K H v p := fun ds e h => by
      obtain ⟨a, xs, rfl, h1, r1⟩ := items_rep e so r
      cases e2 : ds.mapM (toPy st n) with
      | none => rw [e2] at h; cases h
      | some ps => rw [e2] at h; cases h; exact .lst (SqL.of h1) (mapM_dp ih ds ps xs e2 r1)
    cases d with
    | non => cases r; cases h; exact .non
    | bl b => cases r; cases h; exact .bl _
    | int i => cases r; cases h; exact .int _
    | str s =>
      cases r
      rw [toPy] at h
      split at h
      · cases h; exact .str _
      · cases h
    | tup ds =>
      obtain ⟨a, xs, rfl, h1, _, r1⟩ := tup_rep r
      cases e2 : ds.mapM (toPy st n) with
      | none => rw [toPy, e2] at h; cases h
      | some ps => rw [toPy, e2] at h; cases h; exact .tup (SqT.of h1) (mapM_dp ih ds ps xs e2 r1)
    | ro ds =>
      obtain ⟨a, xs, rfl, h1, r1, _⟩ := itemsR_rep (ds := ds) rfl so r
      cases e2 : ds.mapM (toPy st n) with
      | none => rw [toPy, e2] at h; cases h
      | some ps => rw [toPy, e2] at h; cases h; exact .lst h1 (mapM_dp ih ds ps xs e2 r1)
    | lst ds => exact lst ds rfl h
    | cel k =>
      have h' : (items st (.cel k)).bind (fun ds => (ds.mapM (toPy st n)).map PyData.list) = some p := h
      cases e : items st (.cel k) with
      | none => rw [e] at h'; cases h'
      | some ds => rw [e] at h'; exact lst ds e h'
    | dct es => cases h
    | val u => cases h
    | ty u => cases h
theorem mapM_all {f : D → Option PyData} {P : PyData → Prop} (ih : ∀ d p, f d = some p → P p) : ∀ (ds : List D) (ps : List PyData), ds.mapM f = some ps → ∀ p ∈ ps, P p
  | [], ps, h, p, hp => by
    have : ps = [] := by simpa using h.symm
    subst this
    cases hp
  | d :: ds, ps, h, p, hp => by
    rw [List.mapM_cons] at h
    cases e : f d with
    | none => rw [e] at h; cases h
    | some q =>
      cases e2 : ds.mapM f with
      | none => rw [e, e2] at h; cases h
      | some qs =>
        rw [e, e2] at h
        have : q :: qs = ps := by simpa using h
        subst this
        rcases List.mem_cons.mp hp with rfl | hp
        · exact ih _ _ e
        · exact mapM_all ih ds qs e2 p hp
theorem lay_all : ∀ (ps : List PyData), (∀ p ∈ ps, p.canLay0 = true) → PyData.canLayAll0 ps = true
  | [], _ => rfl
  | p :: ps, h => by
    simp only [PyData.canLayAll0, Bool.and_eq_true]
    exact ⟨h p (List.mem_cons_self), lay_all ps fun q hq => h q (List.mem_cons_of_mem _ hq)⟩
theorem depth_all {n : Nat} : ∀ (ps : List PyData), (∀ p ∈ ps, p.depth ≤ n) → PyData.depthAll ps ≤ n
  | [], _ => by simp [PyData.depthAll]
  | p :: ps, h => by
    have h1 := h p (List.mem_cons_self)
    have h2 := depth_all ps fun q hq => h q (List.mem_cons_of_mem _ hq)
    simp only [PyData.depthAll]
    omega
theorem toPy_ok : ∀ (n : Nat) (d : D) (p : PyData), toPy st n d = some p → p.canLay0 = true ∧ p.depth ≤ n := by
  intro n
  induction n with
  | zero =>
    intro d p h
    cases d with
    | non => cases h; exact ⟨by simp [PyData.canLay0], by simp [PyData.depth]⟩
    | bl b => cases h; exact ⟨by simp [PyData.canLay0], by simp [PyData.depth]⟩
    | int b => cases h; exact ⟨by simp [PyData.canLay0], by simp [PyData.depth]⟩
    | str b =>
      rw [toPy] at h
      split at h
      · rename_i q; cases h; exact ⟨by simp [PyData.canLay0, okCp_ok q], by simp [PyData.depth]⟩
      · cases h
    | _ => cases h
  | succ n ih =>
    intro d p h
    have hl : ∀ (ds : List D) (ps : List PyData), ds.mapM (toPy st n) = some ps → PyData.canLayAll0 ps = true ∧ PyData.depthAll ps ≤ n := fun ds ps e =>
      ⟨lay_all ps fun q hq => (mapM_all (P := fun p => p.canLay0 = true ∧ p.depth ≤ n) ih ds ps e q hq).1, depth_all ps fun q hq => (mapM_all (P := fun p => p.canLay0 = true ∧ p.depth ≤ n) ih ds ps e q hq).2⟩
    have lst : ∀ ds, (List.mapM (toPy st n) ds).map PyData.list = some p → p.canLay0 = true ∧ p.depth ≤ n + 1 := fun ds h => by
      cases e2 : ds.mapM (toPy st n) with
      | none => rw [e2] at h; cases h
      | some ps =>
        rw [e2] at h; cases h
        obtain ⟨h1, h2⟩ := hl ds ps e2
        exact ⟨by simp [PyData.canLay0, h1], by simp [PyData.depth]; omega⟩
    cases d with
    | tup ds =>
      cases e2 : ds.mapM (toPy st n) with
      | none => rw [toPy, e2] at h; cases h
      | some ps =>
        rw [toPy, e2] at h; cases h
        obtain ⟨h1, h2⟩ := hl ds ps e2
        exact ⟨by simp [PyData.canLay0, h1], by simp [PyData.depth]; omega⟩
    | ro ds => exact lst ds h
    | lst ds => exact lst ds h
    | cel k =>
      have h' : (items st (.cel k)).bind (fun ds => (ds.mapM (toPy st n)).map PyData.list) = some p := h
      cases e : items st (.cel k) with
      | none => rw [e] at h'; cases h'
      | some ds => rw [e] at h'; exact lst ds h'
    | dct es => cases h
    | val u => cases h
    | ty u => cases h
    | non => cases h; exact ⟨by simp [PyData.canLay0], by simp [PyData.depth]⟩
    | bl b => cases h; exact ⟨by simp [PyData.canLay0], by simp [PyData.depth]⟩
    | int b => cases h; exact ⟨by simp [PyData.canLay0], by simp [PyData.depth]⟩
    | str b =>
      rw [toPy] at h
      split at h
      · rename_i q; cases h; exact ⟨by simp [PyData.canLay0, okCp_ok q], by simp [PyData.depth]⟩
      · cases h
theorem toPy_shaped {n : Nat} {d : D} {p : PyData} (hn : n ≤ 60) (h : toPy st n d = some p) : SeqAt.shaped p = true := by
  obtain ⟨h1, h2⟩ := toPy_ok n d p h
  unfold SeqAt.shaped
  rw [h1, decide_eq_true (by omega : p.depth ≤ 64)]
  rfl
end

/-! ### == and != -/
def gEqN (neg : Bool) : F2 := fun x y st => match toPy st 40 x, toPy st 40 y with
  | some p, some q => .ok (.bl (neg != PyData.eqv p q)) st
  | _, _ => .no
def gEq : F2 := gEqN false
def gNe : F2 := gEqN true
theorem nox_eqN {b : Bool} : NoX2 (gEqN b) := fun x y st c z st' h => by
  unfold gEqN at h
  split at h <;> cases h
section
variable {X : Cx}
theorem o_eq (hu : X.A.units + 64 < cLine) : ∃ r, OpR X (compareOp .Eq) r ∧ SimR2 (gx X) r gEq ∧ NoX2 gEq := by
  refine ⟨_, op_eqD hu, fun x y st H C v u Q so rx ry h => ?_, nox_eqN⟩
  unfold gEq gEqN at h
  split at h
  · rename_i e1 e2
    exact ⟨_, _, toPy_dp so _ _ _ _ e1 rx, toPy_dp so _ _ _ _ e2 ry, toPy_shaped (by decide) e1, toPy_shaped (by decide) e2, by simpa using h.here so _ (.bl _)⟩
  · exact h.elim
theorem o_ne (hu : X.A.units + 64 < cLine) : ∃ r, OpR X (compareOp .NotEq) r ∧ SimR2 (gx X) r gNe ∧ NoX2 gNe := by
  refine ⟨_, op_neD hu, fun x y st H C v u Q so rx ry h => ?_, nox_eqN⟩
  unfold gNe gEqN at h
  split at h
  · rename_i e1 e2
    exact ⟨_, _, toPy_dp so _ _ _ _ e1 rx, toPy_dp so _ _ _ _ e2 ry, toPy_shaped (by decide) e1, toPy_shaped (by decide) e2, by simpa using h.here so _ (.bl _)⟩
  · exact h.elim
end

/-! ### < <= > >= -/
def gOrd (f : Int → Int → Bool) (s : List Nat → List Nat → Bool) : F2 := fun x y st => match x, y with
  | .int i, .int j => .ok (.bl (f i j)) st
  | .str a, .str b => .ok (.bl (s a b)) st
  | _, _ => .no
theorem nox_ord {f : Int → Int → Bool} {k : List Nat → List Nat → Bool} : NoX2 (gOrd f k) := fun x y st c z st' h => by
  unfold gOrd at h
  split at h <;> cases h
def gLt : F2 := gOrd (fun i j => decide (i < j)) fun a b => decide (a < b)
def gLe : F2 := gOrd (fun i j => decide (i ≤ j)) fun a b => !decide (b < a)
def gGt : F2 := gOrd (fun i j => decide (j < i)) fun a b => decide (b < a)
def gGe : F2 := gOrd (fun i j => decide (j ≤ i)) fun a b => !decide (a < b)
section
variable {X : Cx}
theorem o_ord {op : CmpOp} {f : Int → Int → Bool} {k : List Nat → List Nat → Bool} (h1 : OpR X (compareOp op) (rI0 fun i j => .bl (f i j))) (h2 : OpR X (compareOp op) (fun x y H Q => ∃ i j, x = .str i ∧ y = .str j ∧ Q (.bl (k i.cps.toList j.cps.toList)) H)) :
    ∃ r, OpR X (compareOp op) r ∧ SimR2 (gx X) r (gOrd f k) ∧ NoX2 (gOrd f k) := by
  refine ⟨_, h1.or h2, fun x y st H C v u Q so rx ry h => ?_, nox_ord⟩
  unfold gOrd at h
  split at h
  · cases rx; cases ry
    exact .inl ⟨_, _, rfl, rfl, h.here so _ (.bl _)⟩
  · cases rx; cases ry
    refine .inr ⟨_, _, rfl, rfl, ?_⟩
    rw [sv_tl, sv_tl]
    exact h.here so _ (.bl _)
  · exact h.elim
theorem o_lt : ∃ r, OpR X (compareOp .Lt) r ∧ SimR2 (gx X) r gLt ∧ NoX2 gLt := o_ord op_lt op_lt_str
theorem o_le : ∃ r, OpR X (compareOp .LtE) r ∧ SimR2 (gx X) r gLe ∧ NoX2 gLe := o_ord op_le op_le_str
theorem o_gt : ∃ r, OpR X (compareOp .Gt) r ∧ SimR2 (gx X) r gGt ∧ NoX2 gGt := o_ord op_gt op_gt_str
theorem o_ge : ∃ r, OpR X (compareOp .GtE) r ∧ SimR2 (gx X) r gGe ∧ NoX2 gGe := o_ord op_ge op_ge_str
end

/-! ### in -/
def isNone : D → Bool
  | .non => true
  | _ => false
/-- the answer of `x in y` (list, tuple, text) -/
def inD (st : Sto) (x y : D) : Option Bool := match x, y with
  | .str [c], .str z => some (decide (c ∈ z))
  | .str a, .str z => some (!(Builtin.Str.occurrences (sv z) (sv a) 0 (sv z).length 1).isEmpty)
  | x, y => match toPy st 40 x, toPy st 40 y with
    | some p, some (.list ds) => some (ds.any fun z => PyData.eqv z p)
    | _, _ => none
def gIn : F2 := fun x y st => match inD st x y with
  | some b => .ok (.bl b) st
  | none => .no
def gNotIn : F2 := fun x y st => match inD st x y with
  | some b => .ok (.bl (!b)) st
  | none => .no
theorem nox_in : NoX2 gIn := fun x y st c z st' h => by
  unfold gIn at h
  split at h <;> cases h
theorem nox_notIn : NoX2 gNotIn := fun x y st c z st' h => by
  unfold gNotIn at h
  split at h <;> cases h
section
variable {X : Cx}
theorem o_in (hu : X.A.units + 65 < cLine) : ∃ r, OpR X (compareOp .In) r ∧ SimR2 (gx X) r gIn ∧ NoX2 gIn := by
  refine ⟨_, op_in_sign.or (op_in_str.or (op_inD hu)), fun x y st H C v u Q so rx ry h => ?_, nox_in⟩
  unfold gIn at h
  split at h
  · rename_i b e
    have q := h.here so _ (.bl b)
    unfold inD at e
    split at e
    · cases e; cases rx; cases ry
      refine .inl ⟨_, _, rfl, rfl, ?_⟩
      rw [sv_tl]
      exact q
    · cases e; cases rx; cases ry
      exact .inr (.inl ⟨_, _, rfl, rfl, q⟩)
    · split at e
      · rename_i e1 e2
        cases e
        exact .inr (.inr ⟨_, _, toPy_dp so _ _ _ _ e1 rx, toPy_dp so _ _ _ _ e2 ry, toPy_shaped (by decide) e1, toPy_shaped (by decide) e2, q⟩)
      · cases e
  · exact h.elim
theorem o_notIn (hu : X.A.units + 65 < cLine) : ∃ r, OpR X (compareOp .NotIn) r ∧ SimR2 (gx X) r gNotIn ∧ NoX2 gNotIn := by
  refine ⟨_, op_notIn_sign.or (op_notin_str.or (op_notInD hu)), fun x y st H C v u Q so rx ry h => ?_, nox_notIn⟩
  unfold gNotIn at h
  split at h
  · rename_i b e
    have q := h.here so _ (.bl _)
    unfold inD at e
    split at e
    · cases e; cases rx; cases ry
      refine .inl ⟨_, _, rfl, rfl, ?_⟩
      rw [sv_tl]
      exact q
    · cases e; cases rx; cases ry
      exact .inr (.inl ⟨_, _, rfl, rfl, q⟩)
    · split at e
      · rename_i e1 e2
        cases e
        exact .inr (.inr ⟨_, _, toPy_dp so _ _ _ _ e1 rx, toPy_dp so _ _ _ _ e2 ry, toPy_shaped (by decide) e1, toPy_shaped (by decide) e2, q⟩)
      · cases e
  · exact h.elim
end

/-! ### is, is not: with None, True, False -/
def isD : D → D → Option Bool
  | .val _, .non => none
  | x, .non => some (isNone x)
  | .bl a, .bl b => some (a == b)
  | .non, .bl _ => some false
  | .int _, .bl _ => some false
  | .str _, .bl _ => some false
  | .lst _, .bl _ => some false
  | .tup _, .bl _ => some false
  | .dct _, .bl _ => some false
  | .cel _, .bl _ => some false
  | _, _ => none
def gIs : F2 := fun x y st => match isD x y with
  | some b => .ok (.bl b) st
  | none => .no
def gIsNot : F2 := fun x y st => match isD x y with
  | some b => .ok (.bl (!b)) st
  | none => .no
theorem nox_is : NoX2 gIs := fun x y st c z st' h => by
  unfold gIs at h
  split at h <;> cases h
theorem nox_isNot : NoX2 gIsNot := fun x y st c z st' h => by
  unfold gIsNot at h
  split at h <;> cases h
/-- a value and a bool: whether they are one -/
def isV : V → Bool → Bool
  | .bl a, b => a == b
  | _, _ => false
section
variable {X : Cx}
def rIsV : R2 := fun x y H Q => ∃ b, y = .bl b ∧ Q (.bl (isV x b)) H
def rIsNotV : R2 := fun x y H Q => ∃ b, y = .bl b ∧ Q (.bl (!isV x b)) H
theorem op_isV : OpR X (compareOp .Is) rIsV := by
  intro pins s σ H x y v u Q I rx ry h
  obtain ⟨b, rfl, q⟩ := h
  cases (show u = Value.bool b from ry)
  cases x with
  | bl a =>
    cases (show v = Value.bool a from rx)
    by_cases e : a = b
    · subst e
      exact wpAny_is_self rfl ⟨.bl true, H, I, rfl, by simpa [isV] using q⟩
    · exact wpAny_is_other rfl (fun z => e (Value.bool.inj z)) ⟨.bl false, H, I, rfl, by rw [show isV (.bl a) b = false from beq_eq_false_iff_ne.mpr e] at q; exact q⟩
  | non => cases (show v = Value.none from rx); exact wpAny_is_other rfl (fun z => nomatch z) ⟨.bl false, H, I, rfl, q⟩
  | int i => obtain ⟨t, rfl⟩ := rx; exact wpAny_is_other rfl (fun z => nomatch z) ⟨.bl false, H, I, rfl, q⟩
  | str i => obtain ⟨t, rfl⟩ := rx; exact wpAny_is_other rfl (fun z => nomatch z) ⟨.bl false, H, I, rfl, q⟩
  | byt i => obtain ⟨t, rfl⟩ := rx; exact wpAny_is_other rfl (fun z => nomatch z) ⟨.bl false, H, I, rfl, q⟩
  | flt i => obtain ⟨t, rfl⟩ := rx; exact wpAny_is_other rfl (fun z => nomatch z) ⟨.bl false, H, I, rfl, q⟩
  | ref a => cases (show v = Value.ref a from rx); exact wpAny_is_other rfl (fun z => nomatch z) ⟨.bl false, H, I, rfl, q⟩
  | ty n => cases (show v = Value.type n from rx); exact wpAny_is_other rfl (fun z => nomatch z) ⟨.bl false, H, I, rfl, q⟩
theorem op_isNotV : OpR X (compareOp .IsNot) rIsNotV := by
  intro pins s σ H x y v u Q I rx ry h
  obtain ⟨b, rfl, q⟩ := h
  cases (show u = Value.bool b from ry)
  cases x with
  | bl a =>
    cases (show v = Value.bool a from rx)
    by_cases e : a = b
    · subst e
      exact wpAny_isNot_self rfl ⟨.bl false, H, I, rfl, by simpa [isV] using q⟩
    · exact wpAny_isNot_other rfl (fun z => e (Value.bool.inj z)) ⟨.bl true, H, I, rfl, by rw [show isV (.bl a) b = false from beq_eq_false_iff_ne.mpr e] at q; exact q⟩
  | non => cases (show v = Value.none from rx); exact wpAny_isNot_other rfl (fun z => nomatch z) ⟨.bl true, H, I, rfl, q⟩
  | int i => obtain ⟨t, rfl⟩ := rx; exact wpAny_isNot_other rfl (fun z => nomatch z) ⟨.bl true, H, I, rfl, q⟩
  | str i => obtain ⟨t, rfl⟩ := rx; exact wpAny_isNot_other rfl (fun z => nomatch z) ⟨.bl true, H, I, rfl, q⟩
  | byt i => obtain ⟨t, rfl⟩ := rx; exact wpAny_isNot_other rfl (fun z => nomatch z) ⟨.bl true, H, I, rfl, q⟩
  | flt i => obtain ⟨t, rfl⟩ := rx; exact wpAny_isNot_other rfl (fun z => nomatch z) ⟨.bl true, H, I, rfl, q⟩
  | ref a => cases (show v = Value.ref a from rx); exact wpAny_isNot_other rfl (fun z => nomatch z) ⟨.bl true, H, I, rfl, q⟩
  | ty n => cases (show v = Value.type n from rx); exact wpAny_isNot_other rfl (fun z => nomatch z) ⟨.bl true, H, I, rfl, q⟩
theorem isD_rep {K : PySem.W.Frag} {H : Hp} {C : Ad} {x y : D} {v u : V} {b : Bool} (h : isD x y = some b) (rx : Rep K H C v x) (ry : Rep K H C u y) : (u = .non ∧ decide (v = .non) = b) ∨ ∃ k, u = .bl k ∧ isV v k = b := by
  unfold isD at h
  split at h
  · cases h
  · rename_i hv
    cases ry
    refine .inl ⟨rfl, ?_⟩
    cases h
    cases rx <;> first
      | rfl
      | exact absurd rfl (hv _)
  · cases rx; cases ry; cases h; exact .inr ⟨_, rfl, rfl⟩
  all_goals first
    | (cases rx; cases ry; cases h; exact .inr ⟨_, rfl, rfl⟩)
    | cases h
end
end FL

/-! FLe: tests, displays, calls of built-ins, subscripts, methods -/
namespace FL
open PySem PySem.Spec PyProof.Rows L2

/-! ### tests -/
def fTest (f : FE) : FT := fun ρ st => (f ρ st).bind fun d st1 => match d with
  | .bl b => .ok b st1
  | _ => .no
def fNotT (f : FT) : FT := fun ρ st => (f ρ st).bind fun b st1 => .ok (!b) st1
def fAndT (f h : FT) : FT := fun ρ st => (f ρ st).bind fun b st1 => if b = true then h ρ st1 else .ok false st1
def fOrT (f h : FT) : FT := fun ρ st => (f ρ st).bind fun b st1 => if b = true then .ok true st1 else h ρ st1
def fAndE (f h : FE) : FE := fun ρ st => (f ρ st).bind fun d st1 => match d with
  | .bl b => if b = true then h ρ st1 else .ok (.bl false) st1
  | _ => .no
def fOrE (f h : FE) : FE := fun ρ st => (f ρ st).bind fun d st1 => match d with
  | .bl b => if b = true then .ok (.bl true) st1 else h ρ st1
  | _ => .no
def fNotE (f : FE) : FE := fun ρ st => (f ρ st).bind fun d st1 => match d with
  | .bl b => .ok (.bl (!b)) st1
  | _ => .no
def fIfE (t : FT) (f h : FE) : FE := fun ρ st => (t ρ st).bind fun b st1 => if b = true then f ρ st1 else h ρ st1
section
variable {X : Cx} {W : WX} {e a b c : Expr} {fa fb : FE} {ft fu : FT} {rest : List Expr} {pos : Pos}
theorem sim_test {t : TE} {f : FE} (h : SimE (gx X) W t f) : SimT (gx X) W (tB t) (fTest f) := fun ρ σ st H C Q rs so q => by
  refine h ρ σ st H C _ rs so (q.bind.imp fun d st1 C1 H1 so1 e1 h1 v rv => ?_)
  cases d with
  | bl b => cases rv; exact ⟨b, rfl, h1.here so1⟩
  | _ => exact h1.elim
theorem st_val (h : SE X W e fa) (he : ∀ whole, isTrue e X.env whole = (do let v ← whole; standAt e.pos; holding [v] (truthy v)) := by intro _; rfl) : ST X W e (fTest fa) := by
  obtain ⟨t, p, s⟩ := h
  exact ⟨_, pt_val p he, sim_test s⟩
theorem st_not (h : ST X W a ft) : ST X W (.UnaryOp .Not a pos) (fNotT ft) := by
  obtain ⟨t, p, s⟩ := h
  exact ⟨_, pt_not p, fun ρ σ st H C Q rs so q => s ρ σ st H C _ rs so (q.bind.imp fun b st1 C1 H1 so1 e1 h1 => h1.here so1)⟩
theorem sw_and1 (h : ST X W a ft) : SW X W (.BoolOp .And [a] pos) ft := by
  obtain ⟨t, p, s⟩ := h
  exact ⟨_, pw_and1 p, s⟩
theorem sw_or1 (h : ST X W a ft) : SW X W (.BoolOp .Or [a] pos) ft := by
  obtain ⟨t, p, s⟩ := h
  exact ⟨_, pw_or1 p, s⟩
theorem sw_and (h : ST X W a ft) (h2 : SW X W (.BoolOp .And (b :: rest) pos) fu) : SW X W (.BoolOp .And (a :: b :: rest) pos) (fAndT ft fu) := by
  obtain ⟨t, p, s⟩ := h
  obtain ⟨u, p2, s2⟩ := h2
  refine ⟨_, pw_and p p2, fun ρ σ st H C Q rs so q => s ρ σ st H C _ rs so (q.bind.imp fun k st1 C1 H1 so1 e1 h1 => ?_)⟩
  cases k with
  | true => exact iteT (s2 ρ σ st1 H1 C1 _ (rs.mono e1) so1 h1)
  | false => exact iteF (h1.here so1)
theorem sw_or (h : ST X W a ft) (h2 : SW X W (.BoolOp .Or (b :: rest) pos) fu) : SW X W (.BoolOp .Or (a :: b :: rest) pos) (fOrT ft fu) := by
  obtain ⟨t, p, s⟩ := h
  obtain ⟨u, p2, s2⟩ := h2
  refine ⟨_, pw_or p p2, fun ρ σ st H C Q rs so q => s ρ σ st H C _ rs so (q.bind.imp fun k st1 C1 H1 so1 e1 h1 => ?_)⟩
  cases k with
  | true => exact iteT (h1.here so1)
  | false => exact iteF (s2 ρ σ st1 H1 C1 _ (rs.mono e1) so1 h1)
theorem SW.st (h : SW X W e ft) : ST X W e ft := by
  obtain ⟨t, p, s⟩ := h
  exact ⟨_, p.pt, s⟩
theorem se_one {op} (h : SE X W a fa) : SE X W (.BoolOp op [a] pos) fa := by
  obtain ⟨t, p, s⟩ := h
  exact ⟨_, pe_one p, s⟩
theorem se_and (h : SE X W a fa) (h2 : SE X W (.BoolOp .And (b :: rest) pos) fb) : SE X W (.BoolOp .And (a :: b :: rest) pos) (fAndE fa fb) := by
  obtain ⟨t, p, s⟩ := h
  obtain ⟨u, p2, s2⟩ := h2
  refine ⟨_, pe_and p p2, fun ρ σ st H C Q rs so q => s ρ σ st H C _ rs so (q.bind.imp fun d st1 C1 H1 so1 e1 h1 v rv => ?_)⟩
  cases d with
  | bl k =>
    cases rv
    cases k with
    | true => exact ⟨true, rfl, iteT (s2 ρ σ st1 H1 C1 _ (rs.mono e1) so1 h1)⟩
    | false => exact ⟨false, rfl, iteF (h1.here so1 _ (.bl _))⟩
  | _ => exact h1.elim
theorem se_or (h : SE X W a fa) (h2 : SE X W (.BoolOp .Or (b :: rest) pos) fb) : SE X W (.BoolOp .Or (a :: b :: rest) pos) (fOrE fa fb) := by
  obtain ⟨t, p, s⟩ := h
  obtain ⟨u, p2, s2⟩ := h2
  refine ⟨_, pe_or p p2, fun ρ σ st H C Q rs so q => s ρ σ st H C _ rs so (q.bind.imp fun d st1 C1 H1 so1 e1 h1 v rv => ?_)⟩
  cases d with
  | bl k =>
    cases rv
    cases k with
    | true => exact ⟨true, rfl, iteT (h1.here so1 _ (.bl _))⟩
    | false => exact ⟨false, rfl, iteF (s2 ρ σ st1 H1 C1 _ (rs.mono e1) so1 h1)⟩
  | _ => exact h1.elim
theorem se_not (h : SE X W a fa) : SE X W (.UnaryOp .Not a pos) (fNotE fa) := by
  obtain ⟨t, p, s⟩ := h
  refine ⟨_, pe_not p, fun ρ σ st H C Q rs so q => s ρ σ st H C _ rs so (q.bind.imp fun d st1 C1 H1 so1 e1 h1 v rv => ?_)⟩
  cases d with
  | bl k => cases rv; exact ⟨k, rfl, h1.here so1 _ (.bl _)⟩
  | _ => exact h1.elim
theorem se_ifExp (h : ST X W c ft) (h1 : SE X W a fa) (h2 : SE X W b fb) : SE X W (.IfExp c a b pos) (fIfE ft fa fb) := by
  obtain ⟨t, p, s⟩ := h
  obtain ⟨t1, p1, s1⟩ := h1
  obtain ⟨t2, p2, s2⟩ := h2
  refine ⟨_, pe_ifExp p p1 p2, fun ρ σ st H C Q rs so q => s ρ σ st H C _ rs so (q.bind.imp fun k st1 C1 H1 so1 e1 h1 => ?_)⟩
  cases k with
  | true => exact iteT (s1 ρ σ st1 H1 C1 _ (rs.mono e1) so1 h1)
  | false => exact iteF (s2 ρ σ st1 H1 C1 _ (rs.mono e1) so1 h1)
end

/-! ### displays: a tree, or a cell -/
def fLst (f : FA) : FE := fun ρ st => (f ρ st).bind fun ds st1 => if ds.length ≤ lim then .ok (.lst ds) st1 else .no
def fLstC (f : FA) : FE := fun ρ st => (f ρ st).bind fun ds st1 => if ds.length ≤ lim then .ok (.cel st1.length) (st1 ++ [.lst ds]) else .no
def fTup (f : FA) : FE := fun ρ st => (f ρ st).bind fun ds st1 => if ds.length ≤ lim then .ok (.tup ds) st1 else .no
section
variable {X : Cx} {W : WX} {es : List Expr} {f : FA} {pos : Pos}
theorem se_lst (h : SA X W es f) : SE X W (.List es pos) (fLst f) := by
  obtain ⟨t, p, s⟩ := h
  refine ⟨_, pe_lst p, fun ρ σ st H C Q rs so q => s ρ σ st H C _ rs so (q.bind.imp fun ds st1 C1 H1 so1 e1 h1 vs rv => ?_)⟩
  split at h1
  · rename_i hl
    exact ⟨by rw [rv.length]; exact lim_line hl, new_lst h1 so1 rv⟩
  · exact h1.elim
theorem se_lstC (h : SA X W es f) : SE X W (.List es pos) (fLstC f) := by
  obtain ⟨t, p, s⟩ := h
  refine ⟨_, pe_lst p, fun ρ σ st H C Q rs so q => s ρ σ st H C _ rs so (q.bind.imp fun ds st1 C1 H1 so1 e1 h1 vs rv => ?_)⟩
  split at h1
  · rename_i hl
    exact ⟨by rw [rv.length]; exact lim_line hl, new_cel h1 so1 rv⟩
  · exact h1.elim
theorem se_tup {k} (h : SA X W es f) : SE X W (.Tuple es k pos) (fTup f) := by
  obtain ⟨t, p, s⟩ := h
  refine ⟨_, pe_tup p, fun ρ σ st H C Q rs so q => s ρ σ st H C _ rs so (q.bind.imp fun ds st1 C1 H1 so1 e1 h1 vs rv => ?_)⟩
  split at h1
  · rename_i hl
    exact ⟨by rw [rv.length]; exact lim_line hl, new_tup h1 so1 rv⟩
  · exact h1.elim
end

/-! ### built-ins by name -/
abbrev F1 := List D → Sto → R D
def SimCR (g : Gx) (r : List V → Hp → VK → Prop) (f : F1) : Prop := ∀ (ds : List D) (st : Sto) (H : Hp) (C : Ad) (vs : List V) (Q : VK), StoOk g.K H C st → Reps g.K H C vs ds →
  After g (fun _ _ _ => False) C H (f ds st) (fun d _ C' H' => ∀ v, Rep g.K H' C' v d → Q v H') → r vs H Q
def NoX1 (f : F1) : Prop := ∀ ds st c z st', f ds st ≠ .exc c z st'
def fCB (f : F1) (a : FA) : FE := fun ρ st => (a ρ st).bind fun ds st1 => f ds st1
section
variable {X : Cx} {W : WX} {e : Expr} {es : List Expr} {fa : FA} {pos p : Pos} {x : Str}
theorem sim_cb {r : List V → Hp → VK → Prop} {f : F1} {t : TA} (hr : SimCR (gx X) r f) (hn : NoX1 f) (ha : SimA (gx X) W t fa) : SimE (gx X) W (tCB r t) (fCB f fa) := fun ρ σ st H C Q rs so h => by
  refine ha ρ σ st H C _ rs so (h.bind.imp fun ds st1 C1 H1 so1 e1 h1 vs rv => ?_)
  exact hr ds st1 H1 C1 vs Q so1 rv (h1.nox (hn ds st1))
theorem se_callB {id : String} {f : F1} (hc : ∃ r, CallR X (.builtin id) r ∧ SimCR (gx X) r f ∧ NoX1 f) (hm : X.mg x = none) (ha : SA X W (e :: es) fa) (hg : Gl X x := by rfl) (hv : bootBuiltins x = some (.builtin id) := by decide +kernel) (hn : x ≠ "__name__" := by decide) (hdb : (x == ("__debug__" : Str)) = false := by decide)
    (he : starEach (e :: es) X.env = (false, eval e X.env) :: starEach es X.env := by rfl) (hpl : (backTo pos (starEach es X.env)).any (·.1) = false := by rfl) : SE X W (.Call (.Name x p) (e :: es) [] pos) (fCB f fa) := by
  obtain ⟨r, h1, h2, h3⟩ := hc
  obtain ⟨t, pa, sa⟩ := ha
  exact ⟨_, pe_callB h1 hg hm hv pa hn hdb he hpl, sim_cb h2 h3 sa⟩
theorem se_callTy {T : String} {f : F1} (hc : ∃ r, CallR X (.type T) r ∧ SimCR (gx X) r f ∧ NoX1 f) (hm : X.mg x = none) (ha : SA X W (e :: es) fa) (hg : Gl X x := by rfl) (hv : bootBuiltins x = some (.type T) := by decide +kernel) (hn : x ≠ "__name__" := by decide) (hdb : (x == ("__debug__" : Str)) = false := by decide)
    (he : starEach (e :: es) X.env = (false, eval e X.env) :: starEach es X.env := by rfl) (hpl : (backTo pos (starEach es X.env)).any (·.1) = false := by rfl) : SE X W (.Call (.Name x p) (e :: es) [] pos) (fCB f fa) := by
  obtain ⟨r, h1, h2, h3⟩ := hc
  obtain ⟨t, pa, sa⟩ := ha
  exact ⟨_, pe_callTy h1 hg hm hv pa hn hdb he hpl, sim_cb h2 h3 sa⟩
end

/-- len -/
def kLen : F1 := fun ds st => match ds with
  | [.str s] => if s.length ≤ lim then .ok (.int s.length) st else .no
  | [d] => match itemsS st d with
    | some xs => .ok (.int xs.length) st
    | none => match d with
      | .dct es => .ok (.int es.length) st
      | .cel n => match st[n]? with
        | some (.dct es) => .ok (.int es.length) st
        | _ => .no
      | _ => .no
  | _ => .no
theorem nox_len : NoX1 kLen := fun ds st c z st' h => by
  unfold kLen at h
  split at h
  · split at h <;> cases h
  · split at h
    · cases h
    · split at h
      · cases h
      · split at h <;> cases h
      · cases h
  · cases h
/-- int(n) of a number -/
def kInt : F1 := fun ds st => match ds with
  | [.int i] => .ok (.int i) st
  | _ => .no
theorem nox_kint : NoX1 kInt := fun ds st c z st' h => by
  unfold kInt at h
  split at h <;> cases h
def kAbs : F1 := fun ds st => match ds with
  | [.int i] => .ok (.int i.natAbs) st
  | _ => .no
theorem nox_abs : NoX1 kAbs := fun ds st c z st' h => by
  unfold kAbs at h
  split at h <;> cases h

section
variable {X : Cx}
theorem RepKs.length {K : PySem.W.Frag} {H : Hp} {C : Ad} : ∀ {es : List (D × D)} {kvs : List (Key × V)}, RepKs K H C kvs es → kvs.length = es.length
  | [], _, h => by cases h; rfl
  | (q, d) :: es, _, h => by
    cases h with
    | cons h0 h1 h2 => rw [List.length_cons, List.length_cons, RepKs.length h2]
theorem call_lenR : CallR X (.builtin "len") (fun xs H Q => ∃ a kvs, xs = [V.ref a] ∧ Rd H a (.dK kvs) ∧ Q (.int kvs.length) H) := by
  intro pins s σ H xs us Q I r h
  obtain ⟨a, kvs, rfl, ha, q⟩ := h
  obtain ⟨u, rfl, ru⟩ := vals1 r
  cases ru
  exact d_len I ha fun t s' I' => ⟨.int kvs.length, H, I', ⟨t, rfl⟩, q⟩
theorem c_len : ∃ r, CallR X (.builtin "len") r ∧ SimCR (gx X) r kLen ∧ NoX1 kLen := by
  refine ⟨_, call_len_str.or (call_len_seq.or call_lenR), fun ds st H C vs Q so rv h => ?_, nox_len⟩
  unfold kLen at h
  split at h
  · cases rv with
    | cons r1 r2 =>
      cases r1; cases r2
      split at h
      · rename_i hl
        exact .inl ⟨_, rfl, by rw [sv_len]; exact lim_line hl, by rw [sv_len]; exact h.here so _ (.int _)⟩
      · exact h.elim
  · rename_i d hd
    cases rv with
    | cons r1 r2 =>
      cases r2
      split at h
      · rename_i xs e
        obtain ⟨a, ys, rfl, h1, h2⟩ := itemsS_rep e so r1
        refine .inr (.inl ⟨a, ys, rfl, h1, ?_⟩)
        rw [h2.length]
        exact h.here so _ (.int _)
      · split at h
        · rename_i es _
          cases r1 with
          | @dct a o kvs _ h1 h2 h3 h4 =>
            refine .inr (.inr ⟨a, kvs, rfl, ?_, ?_⟩)
            · rcases h2 with rfl | ⟨ob, rfl⟩
              · exact .inl h1
              · exact .inr ⟨ob, h1⟩
            · rw [h4.length]
              exact h.here so _ (.int _)
        · split at h
          · rename_i n _ es hn
            cases r1 with
            | cel hc =>
              obtain ⟨kvs, h1, h2⟩ := so.ok _ _ _ hc hn
              refine .inr (.inr ⟨_, kvs, rfl, .inl h1, ?_⟩)
              rw [h2.length]
              exact h.here so _ (.int _)
          · exact h.elim
        · exact h.elim
  · exact h.elim
theorem c_int : ∃ r, CallR X (.type "int") r ∧ SimCR (gx X) r kInt ∧ NoX1 kInt := by
  refine ⟨_, call_int1, fun ds st H C vs Q so rv h => ?_, nox_kint⟩
  unfold kInt at h
  split at h
  · cases rv with
    | cons r1 r2 => cases r1; cases r2; exact .inl ⟨_, rfl, h.here so _ (.int _)⟩
  · exact h.elim
theorem c_abs : ∃ r, CallR X (.builtin "abs") r ∧ SimCR (gx X) r kAbs ∧ NoX1 kAbs := by
  refine ⟨_, call_abs, fun ds st H C vs Q so rv h => ?_, nox_abs⟩
  unfold kAbs at h
  split at h
  · cases rv with
    | cons r1 r2 =>
      cases r1; cases r2
      refine ⟨_, rfl, ?_⟩
      have e : ∀ i : Int, (if i < 0 then -i else i) = (i.natAbs : Int) := fun i => by omega
      rw [e]
      exact h.here so _ (.int _)
  · exact h.elim
end
end FL

/-! FLf: more built-ins -/
namespace FL
open PySem PySem.Spec PyProof.Rows L2

/-! ### isinstance -/
def tyOf (st : Sto) : D → Option Ty
  | .non => some .non
  | .bl _ => some .bool
  | .int _ => some .int
  | .str _ => some .str
  | .lst _ => some .list
  | .tup _ => some .tuple
  | .dct _ => some .dict
  | .cel n => match st[n]? with
    | some (.lst _) => some .list
    | some (.dct _) => some .dict
    | some (.lck _) => some .dict
    | none => none
  | _ => none
def isTy (a b : Ty) : Bool := decide (a = b) || (decide (a = .bool) && decide (b = .int))
theorem isTy_kit (a b : Ty) : kitB a.nm b.nm = some (isTy a b) := by
  cases a <;> cases b <;> decide +kernel
def kIsi : F1 := fun ds st => match ds with
  | [x, .ty b] => match tyOf st x with
    | some a => .ok (.bl (isTy a b)) st
    | none => .no
  | [x, .tup [.ty b, .ty c]] => match tyOf st x with
    | some a => .ok (.bl (isTy a b || isTy a c)) st
    | none => .no
  | _ => .no
theorem nox_isi : NoX1 kIsi := fun ds st c z st' h => by
  unfold kIsi at h
  split at h
  · split at h <;> cases h
  · split at h <;> cases h
  · cases h
theorem tyOf_rep {K : PySem.W.Frag} {H : Hp} {C : Ad} {st : Sto} {x : D} {v : V} {t : Ty} (h : tyOf st x = some t) (so : StoOk K H C st) (r : Rep K H C v x) : TyX K H v (.type t.nm) := by
  cases r with
  | non => cases h; exact .base .non
  | bl b => cases h; exact .base (.bl b)
  | int b => cases h; exact .base (.int b)
  | str b => cases h; exact .base (.str _)
  | lst h1 h2 h3 => cases h; exact .base (.lst h1)
  | tup h1 h2 h3 => cases h; exact .base (.tup h1)
  | dct h1 h2 h3 h4 =>
    cases h
    rcases h2 with rfl | ⟨ob, rfl⟩
    · exact .base (.dK h1)
    · exact .fDict h1
  | ro h1 h2 h3 h4 => cases h
  | roK h1 h2 => cases h
  | cel hc =>
    simp only [tyOf] at h
    split at h
    · rename_i e
      cases h
      obtain ⟨xs, h1, _⟩ := so.ok _ _ _ hc e
      exact .base (.lst h1)
    · rename_i e
      cases h
      obtain ⟨xs, h1, _⟩ := so.ok _ _ _ hc e
      exact .base (.dK h1)
    · rename_i e
      cases h
      obtain ⟨ob, xs, h1, _⟩ := so.ok _ _ _ hc e
      exact .fDict h1
    · cases h
  | val v => cases h
  | ty t => cases h
section
variable {X : Cx}
theorem c_isi : ∃ r, CallR X (.builtin "isinstance") r ∧ SimCR (gx X) r kIsi ∧ NoX1 kIsi := by
  refine ⟨_, call_isi.or call_isiT, fun ds st H C vs Q so rv h => ?_, nox_isi⟩
  unfold kIsi at h
  split at h
  · cases rv with
    | cons r1 r2 =>
      cases r2 with
      | cons r2 r3 =>
        cases r3; cases r2
        split at h
        · rename_i a e
          exact .inl ⟨_, _, _, _, _, rfl, .ty _, tyOf_rep e so r1, kit_ty (isTy_kit _ _), h.here so _ (.bl _)⟩
        · exact h.elim
  · cases rv with
    | cons r1 r2 =>
      cases r2 with
      | cons r2 r3 =>
        cases r3
        cases r2 with
        | tup h1 h2 h3 =>
          cases h3 with
          | cons q1 q2 =>
            cases q2 with
            | cons q2 q3 =>
              cases q3; cases q1; cases q2
              split at h
              · rename_i a e
                refine .inr ⟨_, _, _, _, _, _, rfl, h1, .cons (.ty _) (.cons (.ty _) .nil), tyOf_rep e so r1, ?_, h.here so _ (.bl _)⟩
                refine kitAny_cons (kit_ty (isTy_kit _ _)) (fun q => ?_) (fun q => by rw [q]; rfl)
                rw [q, Bool.false_or]
                exact kitAny_cons (kit_ty (isTy_kit _ _)) (fun q => by rw [q]; exact kitAny_nil) (fun q => q)
              · exact h.elim
  · exact h.elim
end

/-! ### max, min of two numbers; sum of numbers -/
def kMax : F1 := fun ds st => match ds with
  | [.int i, .int j] => .ok (.int (max i j)) st
  | _ => .no
def kMin : F1 := fun ds st => match ds with
  | [.int i, .int j] => .ok (.int (min i j)) st
  | _ => .no
theorem nox_max : NoX1 kMax := fun ds st c z st' h => by
  unfold kMax at h
  split at h <;> cases h
theorem nox_min : NoX1 kMin := fun ds st c z st' h => by
  unfold kMin at h
  split at h <;> cases h
/-- the ints, texts, truths of a list of data -/
def intsOf : List D → Option (List Int)
  | [] => some []
  | .int i :: r => (intsOf r).map (i :: ·)
  | _ :: _ => none
def strsOf : List D → Option (List (List Nat))
  | [] => some []
  | .str i :: r => (strsOf r).map (i :: ·)
  | _ :: _ => none
def blsOf : List D → Option (List Bool)
  | [] => some []
  | .bl i :: r => (blsOf r).map (i :: ·)
  | _ :: _ => none
theorem intsOf_eq : ∀ {ds : List D} {is : List Int}, intsOf ds = some is → ds = is.map D.int
  | [], _, h => by cases h; rfl
  | .int i :: r, is, h => by
    rw [intsOf] at h
    cases e : intsOf r with
    | none => rw [e] at h; cases h
    | some js => rw [e] at h; cases h; rw [intsOf_eq e]; rfl
  | .non :: _, _, h | .bl _ :: _, _, h | .str _ :: _, _, h | .lst _ :: _, _, h | .tup _ :: _, _, h | .dct _ :: _, _, h | .ro _ :: _, _, h | .cel _ :: _, _, h | .val _ :: _, _, h | .ty _ :: _, _, h => by cases h
theorem strsOf_eq : ∀ {ds : List D} {is : List (List Nat)}, strsOf ds = some is → ds = is.map D.str
  | [], _, h => by cases h; rfl
  | .str i :: r, is, h => by
    rw [strsOf] at h
    cases e : strsOf r with
    | none => rw [e] at h; cases h
    | some js => rw [e] at h; cases h; rw [strsOf_eq e]; rfl
  | .non :: _, _, h | .bl _ :: _, _, h | .int _ :: _, _, h | .lst _ :: _, _, h | .tup _ :: _, _, h | .dct _ :: _, _, h | .ro _ :: _, _, h | .cel _ :: _, _, h | .val _ :: _, _, h | .ty _ :: _, _, h => by cases h
theorem blsOf_eq : ∀ {ds : List D} {is : List Bool}, blsOf ds = some is → ds = is.map D.bl
  | [], _, h => by cases h; rfl
  | .bl i :: r, is, h => by
    rw [blsOf] at h
    cases e : blsOf r with
    | none => rw [e] at h; cases h
    | some js => rw [e] at h; cases h; rw [blsOf_eq e]; rfl
  | .non :: _, _, h | .str _ :: _, _, h | .int _ :: _, _, h | .lst _ :: _, _, h | .tup _ :: _, _, h | .dct _ :: _, _, h | .ro _ :: _, _, h | .cel _ :: _, _, h | .val _ :: _, _, h | .ty _ :: _, _, h => by cases h
theorem intsOf_map : ∀ is : List Int, intsOf (is.map D.int) = some is
  | [] => rfl
  | i :: r => by rw [List.map_cons, intsOf, intsOf_map r]; rfl
theorem strsOf_map : ∀ is : List (List Nat), strsOf (is.map D.str) = some is
  | [] => rfl
  | i :: r => by rw [List.map_cons, strsOf, strsOf_map r]; rfl
theorem blsOf_map : ∀ is : List Bool, blsOf (is.map D.bl) = some is
  | [] => rfl
  | i :: r => by rw [List.map_cons, blsOf, blsOf_map r]; rfl
def kSum : F1 := fun ds st => match ds with
  | [d] => match (itemsR st d).bind intsOf with
    | some is => .ok (.int is.sum) st
    | none => .no
  | _ => .no
theorem nox_sum : NoX1 kSum := fun ds st c z st' h => by
  unfold kSum at h
  split at h
  · split at h <;> cases h
  · cases h
def kAll : F1 := fun ds st => match ds with
  | [d] => match (itemsR st d).bind blsOf with
    | some bs => .ok (.bl (bs.all id)) st
    | none => .no
  | _ => .no
def kAny : F1 := fun ds st => match ds with
  | [d] => match (itemsR st d).bind blsOf with
    | some bs => .ok (.bl (bs.any id)) st
    | none => .no
  | _ => .no
theorem nox_all : NoX1 kAll := fun ds st c z st' h => by
  unfold kAll at h
  split at h
  · split at h <;> cases h
  · cases h
theorem nox_any : NoX1 kAny := fun ds st c z st' h => by
  unfold kAny at h
  split at h
  · split at h <;> cases h
  · cases h
section
variable {X : Cx}
theorem c_max (hc : X.calm = true) : ∃ r, CallR X (.builtin "max") r ∧ SimCR (gx X) r kMax ∧ NoX1 kMax := by
  refine ⟨_, call_max2 hc, fun ds st H C vs Q so rv h => ?_, nox_max⟩
  unfold kMax at h
  split at h
  · cases rv with
    | cons r1 r2 =>
      cases r2 with
      | cons r2 r3 =>
        cases r1; cases r2; cases r3
        refine ⟨_, _, rfl, ?_⟩
        have e : ∀ i j : Int, (if j > i then j else i) = max i j := fun i j => by omega
        rw [e]
        exact h.here so _ (.int _)
  · exact h.elim
theorem c_min (hc : X.calm = true) : ∃ r, CallR X (.builtin "min") r ∧ SimCR (gx X) r kMin ∧ NoX1 kMin := by
  refine ⟨_, call_min2 hc, fun ds st H C vs Q so rv h => ?_, nox_min⟩
  unfold kMin at h
  split at h
  · cases rv with
    | cons r1 r2 =>
      cases r2 with
      | cons r2 r3 =>
        cases r1; cases r2; cases r3
        refine ⟨_, _, rfl, ?_⟩
        have e : ∀ i j : Int, (if j < i then j else i) = min i j := fun i j => by omega
        rw [e]
        exact h.here so _ (.int _)
  · exact h.elim
theorem c_sum (hc : X.calm = true) : ∃ r, CallR X (.builtin "sum") r ∧ SimCR (gx X) r kSum ∧ NoX1 kSum := by
  refine ⟨_, cr_sum hc, fun ds st H C vs Q so rv h => ?_, nox_sum⟩
  unfold kSum at h
  split at h
  · split at h
    · rename_i is e
      cases rv with
      | cons r1 r2 =>
        cases r2
        obtain ⟨xs, e1, e2⟩ := Option.bind_eq_some_iff.mp e
        obtain ⟨a, ys, rfl, h1, h2, _⟩ := itemsR_rep e1 so r1
        rw [intsOf_eq e2] at h2
        rw [Reps.ints h2] at h1
        exact ⟨a, is, rfl, h1, h.here so _ (.int _)⟩
    · exact h.elim
  · exact h.elim
theorem c_all (hc : X.calm = true) : ∃ r, CallR X (.builtin "all") r ∧ SimCR (gx X) r kAll ∧ NoX1 kAll := by
  refine ⟨_, cr_all hc, fun ds st H C vs Q so rv h => ?_, nox_all⟩
  unfold kAll at h
  split at h
  · split at h
    · rename_i is e
      cases rv with
      | cons r1 r2 =>
        cases r2
        obtain ⟨xs, e1, e2⟩ := Option.bind_eq_some_iff.mp e
        obtain ⟨a, ys, rfl, h1, h2, _⟩ := itemsR_rep e1 so r1
        rw [blsOf_eq e2] at h2
        rw [Reps.bls h2] at h1
        exact ⟨a, is, rfl, h1, h.here so _ (.bl _)⟩
    · exact h.elim
  · exact h.elim
theorem c_any (hc : X.calm = true) : ∃ r, CallR X (.builtin "any") r ∧ SimCR (gx X) r kAny ∧ NoX1 kAny := by
  refine ⟨_, cr_any hc, fun ds st H C vs Q so rv h => ?_, nox_any⟩
  unfold kAny at h
  split at h
  · split at h
    · rename_i is e
      cases rv with
      | cons r1 r2 =>
        cases r2
        obtain ⟨xs, e1, e2⟩ := Option.bind_eq_some_iff.mp e
        obtain ⟨a, ys, rfl, h1, h2, _⟩ := itemsR_rep e1 so r1
        rw [blsOf_eq e2] at h2
        rw [Reps.bls h2] at h1
        exact ⟨a, is, rfl, h1, h.here so _ (.bl _)⟩
    · exact h.elim
  · exact h.elim
end

/-! ### sorted: one sort for all orders -/
def ins {α : Type} (le : α → α → Bool) (x : α) : List α → List α
  | [] => [x]
  | y :: r => if le x y = true then x :: y :: r else y :: ins le x r
def srt {α : Type} (le : α → α → Bool) : List α → List α
  | [] => []
  | x :: r => ins le x (srt le r)
theorem ins_perm {α : Type} {le : α → α → Bool} (x : α) : ∀ l, (ins le x l).Perm (x :: l)
  | [] => .refl _
  | y :: r => by
    unfold ins
    split
    · exact .refl _
    · exact ((ins_perm x r).cons y).trans (.swap x y r)
theorem srt_perm {α : Type} {le : α → α → Bool} : ∀ l, (srt le l).Perm l
  | [] => .refl _
  | x :: r => (ins_perm x _).trans ((srt_perm r).cons x)
structure Ord' {α : Type} (le : α → α → Bool) : Prop where
  tot : ∀ x y, le x y = true ∨ le y x = true
  tr : ∀ x y z, le x y = true → le y z = true → le x z = true
  anti : ∀ x y, le x y = true → le y x = true → x = y
theorem ins_sorted {α : Type} {le : α → α → Bool} (O : Ord' le) (x : α) : ∀ l, l.Pairwise (fun a b => le a b = true) → (ins le x l).Pairwise (fun a b => le a b = true)
  | [], _ => by simp [ins]
  | y :: r, h => by
    unfold ins
    have h1 := List.pairwise_cons.mp h
    split
    · rename_i q
      refine List.pairwise_cons.mpr ⟨fun z hz => ?_, h⟩
      rcases List.mem_cons.mp hz with rfl | hz
      · exact q
      · exact O.tr _ _ _ q (h1.1 z hz)
    · rename_i q
      refine List.pairwise_cons.mpr ⟨fun z hz => ?_, ins_sorted O x r h1.2⟩
      rcases List.mem_cons.mp ((ins_perm x r).mem_iff.mp hz) with rfl | hz
      · exact (O.tot y z).resolve_right q
      · exact h1.1 z hz
theorem srt_sorted {α : Type} {le : α → α → Bool} (O : Ord' le) : ∀ l, (srt le l).Pairwise (fun a b => le a b = true)
  | [] => .nil
  | x :: r => ins_sorted O x _ (srt_sorted O r)
theorem sorted_one {α : Type} {le : α → α → Bool} (O : Ord' le) : ∀ {l m : List α}, l.Perm m → l.Pairwise (fun a b => le a b = true) → m.Pairwise (fun a b => le a b = true) → l = m
  | [], m, p, _, _ => by rw [List.Perm.eq_nil p.symm]
  | x :: l, [], p, _, _ => by cases List.Perm.eq_nil p
  | x :: l, y :: m, p, h1, h2 => by
    have a1 := List.pairwise_cons.mp h1
    have a2 := List.pairwise_cons.mp h2
    have hx : x ∈ y :: m := p.mem_iff.mp List.mem_cons_self
    have hy : y ∈ x :: l := p.mem_iff.mpr List.mem_cons_self
    have le1 : le x y = true := by
      rcases List.mem_cons.mp hy with rfl | hy
      · exact (O.tot _ _).elim id id
      · exact a1.1 y hy
    have le2 : le y x = true := by
      rcases List.mem_cons.mp hx with rfl | hx
      · exact (O.tot _ _).elim id id
      · exact a2.1 x hx
    cases O.anti _ _ le1 le2
    rw [sorted_one O (List.Perm.cons_inv p) a1.2 a2.2]
theorem srt_of {α : Type} {le : α → α → Bool} (O : Ord' le) {l m : List α} (p : m.Perm l) (h : m.Pairwise (fun a b => le a b = true)) : m = srt le l := sorted_one O (p.trans (srt_perm l).symm) h (srt_sorted O l)

def leI (i j : Int) : Bool := decide (i ≤ j)
theorem ordI : Ord' leI where
  tot := fun x y => by unfold leI; simp; omega
  tr := fun x y z => by unfold leI; simp; omega
  anti := fun x y => by unfold leI; simp; omega
/-- texts in order -/
def leS (a b : List Nat) : Bool := !decide (b < a)
theorem nat_lt_irrefl (a : List Nat) : ¬ a < a := List.lt_irrefl a
theorem ordS : Ord' leS where
  tot := fun x y => by
    unfold leS
    by_cases h : y < x
    · right
      simp [List.lt_asymm h]
    · left
      simp [h]
  tr := fun x y z h1 h2 => by
    unfold leS at *
    simp only [Bool.not_eq_true', decide_eq_false_iff_not] at *
    exact fun h => (List.not_lt.mp h1 |> fun a => List.not_lt.mp h2 |> fun b => absurd h (List.not_lt.mpr (List.le_trans a b)))
  anti := fun x y h1 h2 => by
    unfold leS at *
    simp only [Bool.not_eq_true', decide_eq_false_iff_not] at *
    exact List.le_antisymm (List.not_lt.mp h1) (List.not_lt.mp h2)
theorem ltCps_eq : ∀ a b : List Nat, ltCps a b = decide (a < b)
  | [], [] => by simp [ltCps]
  | [], b :: r => by simp [ltCps]
  | a :: r, [] => by simp [ltCps]
  | a :: r, b :: t => by
    rw [ltCps, ltCps_eq r t]
    have e : (a :: r < b :: t) ↔ (a < b ∨ (a = b ∧ r < t)) := List.cons_lt_cons_iff
    by_cases h : a < b
    · simp [h, e]
    · by_cases q : a = b
      · subst q
        simp [e]
      · simp [h, q, e]
end FL

/-! FLg: sorted, list(..), subscripts, slices, methods -/
namespace FL
open PySem PySem.Spec PyProof.Rows L2

theorem rising_pw : ∀ (l : List Str) (p : Str), risingS p l = true → (∀ x ∈ l, leS p.cps.toList x.cps.toList = true) ∧ l.Pairwise (fun a b => leS a.cps.toList b.cps.toList = true)
  | [], _, _ => ⟨fun x h => (by cases h), List.Pairwise.nil⟩
  | x :: r, p, h => by
    unfold risingS at h
    simp only [Bool.and_eq_true, ltCps_eq] at h
    obtain ⟨h1, h2⟩ := h
    obtain ⟨a, b⟩ := rising_pw r x h2
    refine ⟨fun z hz => ?_, List.pairwise_cons.mpr ⟨a, b⟩⟩
    rcases List.mem_cons.mp hz with rfl | hz
    · exact h1
    · exact ordS.tr _ _ _ h1 (a z hz)
theorem sortedS_pw {l : List Str} (h : sortedS l = true) : l.Pairwise (fun a b => leS a.cps.toList b.cps.toList = true) := by
  cases l with
  | nil => exact .nil
  | cons x r =>
    obtain ⟨a, b⟩ := rising_pw r x h
    exact List.pairwise_cons.mpr ⟨a, b⟩
/-- sorted(xs) of ints, of texts -/
def kSorted : F1 := fun ds st => match ds with
  | [d] => match itemsR st d with
    | some xs => match strsOf xs with
      | some ss => .ok (.lst ((srt leS ss).map D.str)) st
      | none => match intsOf xs with
        | some is => .ok (.lst ((srt leI is).map D.int)) st
        | none => .no
    | none => .no
  | _ => .no
theorem nox_sorted : NoX1 kSorted := fun ds st c z st' h => by
  unfold kSorted at h
  split at h
  · split at h
    · split at h
      · cases h
      · split at h <;> cases h
    · cases h
  · cases h
/-- .. as a cell -/
def kCell (f : F1) : F1 := fun ds st => match f ds st with
  | .ok (.lst xs) st' => .ok (.cel st'.length) (st' ++ [.lst xs])
  | _ => .no
section
variable {X : Cx}
def rSortedA (K : PySem.W.Frag) : List V → Hp → VK → Prop := fun vs H Q => ∃ (a : Addr) (xs : List Str), vs = [V.ref a] ∧ SqL K H a (xs.map V.str) ∧
  ∀ (ys : List Str) (p : Addr), ys.Perm xs → sortedS ys = true → H p = none → Q (.ref p) (upd H p (.lst (ys.map V.str)))
theorem cr_sortedA : CallR X (.builtin "sorted") (rSortedA X.K) := by
  intro pins s σ H vs us Q I r h
  obtain ⟨a, xs, rfl, hs, q⟩ := h
  obtain ⟨its, rv, hl, hsz⟩ := I.list hs
  rw [Vals.ref1 r]
  have hlen0 := rv.length
  rw [List.length_map] at hlen0
  rw [List.length_map] at hsz
  refine PyProof.Rows.sorted_strsAny hl.isList rv.strs (by rw [← hlen0]; exact hsz) fun out ys h1 h2 h3 => ?_
  obtain ⟨ep, he'⟩ := PyProof.Rows.sortedAll_at s.heap its out
  have hlen : (ys.map V.str).length ≤ sizeLine := by rw [List.length_map, h2.length_eq]; exact hsz
  exact ⟨.ref _, upd H (s.heap.objs.size + 1) (.lst (ys.map V.str)), I.laid (t' := s.toks) (fun _ _ => PyProof.Rows.sortedAll_old) (Nat.le_succ _) ⟨hlen, out.toList, ep, vals_of_strs h1, he'⟩, rfl, q ys _ h2 h3 (I.hok.fresh (Nat.le_succ _))⟩
theorem c_sorted : ∃ r, CallR X (.builtin "sorted") r ∧ SimCR (gx X) r kSorted ∧ NoX1 kSorted := by
  refine ⟨_, cr_sortedA.or cr_sortedI, fun ds st H C vs Q so rv h => ?_, nox_sorted⟩
  unfold kSorted at h
  split at h
  · cases rv with
    | cons r1 r2 =>
      cases r2
      split at h
      · rename_i xs e
        obtain ⟨a, ys, rfl, h1, h2, _⟩ := itemsR_rep e so r1
        split at h
        · rename_i ss e2
          rw [strsOf_eq e2] at h2
          rw [Reps.strs h2] at h1
          refine .inl ⟨a, ss.map sv, rfl, h1, fun zs p hp hs hn => ?_⟩
          have e3 : zs = (srt leS ss).map sv := by
            have q1 : zs.map (fun z => z.cps.toList) = srt leS ss := srt_of ordS (by
              have := hp.map (fun z : Str => z.cps.toList)
              rw [List.map_map] at this
              have e4 : (fun z : Str => z.cps.toList) ∘ sv = id := by funext z; simp
              rw [e4, List.map_id] at this
              exact this) (List.pairwise_map.mpr (sortedS_pw hs))
            rw [← q1, List.map_map]
            have e5 : sv ∘ (fun z : Str => z.cps.toList) = id := by funext z; simp [sv]
            rw [e5, List.map_id]
          rw [e3]
          exact new_lst h so (Reps.of_strs _) p hn
        · split at h
          · rename_i is e2
            rw [intsOf_eq e2] at h2
            rw [Reps.ints h2] at h1
            refine .inr ⟨a, is, rfl, h1, fun ns p hp hs hn => ?_⟩
            have e3 : ns = srt leI is := srt_of ordI hp (hs.imp fun h => by unfold leI; simpa using h)
            rw [e3]
            exact new_lst h so (Reps.of_ints _) p hn
          · exact h.elim
      · exact h.elim
  · exact h.elim
end
/-- a call whose list may be held in a cell -/
theorem simcr_cell {g : Gx} {r : List V → Hp → VK → Prop} {f : F1} (h : ∀ (ds : List D) (st : Sto) (H : Hp) (C : Ad) (vs : List V) (Q : VK), StoOk g.K H C st → Reps g.K H C vs ds → ∀ xs st', f ds st = .ok (.lst xs) st' →
    (st' = st ∧ ((∀ ys p, Reps g.K H C ys xs → H p = none → Q (.ref p) (upd H p (.lst ys))) → r vs H Q))) : SimCR g r (kCell f) := fun ds st H C vs Q so rv q => by
  unfold kCell at q
  split at q
  · rename_i xs st' e
    obtain ⟨rfl, k⟩ := h ds st H C vs Q so rv xs _ e
    exact k fun ys p ry hp => new_cel q so ry p hp
  · exact q.elim

/-! ### list(..) -/
def kList : F1 := fun ds st => match ds with
  | [.str s] => if s.length ≤ lim then .ok (.lst (s.map fun c => .str [c])) st else .no
  | [d] => match itemsS st d with
    | some xs => .ok (.lst xs) st
    | none => .no
  | _ => .no
theorem nox_list : NoX1 kList := fun ds st c z st' h => by
  unfold kList at h
  split at h
  · split at h <;> cases h
  · split at h <;> cases h
  · cases h
section
variable {X : Cx}
theorem call_listS (hc : X.calm = true) : CallR X (.type "list") (fun xs H Q => ∃ z, xs = [.str z] ∧ z.length ≤ sizeLine ∧ ∀ l, H l = none → Q (.ref l) (upd H l (.lst (z.cps.toList.map fun c => .str (sv [c]))))) := by
  intro pins s σ H xs us Q I r h
  obtain ⟨z, rfl, hz, q⟩ := h
  obtain ⟨u, rfl, ru⟩ := vals1 r
  obtain ⟨t, rfl⟩ := ru
  refine call_list_str (I.ok.hd hc) z t (fun h' tk acc c' hk hD ha => ?_) hz
  have hsz := ha.1
  have hv : Vals (z.cps.toList.map fun c => V.str (sv [c])) acc.toList := by
    refine vals_of_at (by simp [hsz]) fun j x u e1 e2 => ?_
    rw [List.getElem?_map] at e1
    obtain ⟨c, t, h1, rfl⟩ := ha.2 j u (by rw [← Array.getElem?_toList]; exact e2)
    rw [← Array.getElem?_toList] at h1
    rw [h1] at e1
    cases e1
    exact ⟨t, rfl⟩
  refine ⟨.ref _, _, I.laid (t' := tk) (o := .lst (z.cps.toList.map fun c => V.str (sv [c]))) hk (Nat.le_refl _) ⟨?_, acc.toList, c', hv, ?_⟩, rfl, q _ I.fresh⟩
  · rw [List.length_map, Array.length_toList]; exact hz
  · simpa using hD
theorem c_list (hc : X.calm = true) : ∃ r, CallR X (.type "list") r ∧ SimCR (gx X) r kList ∧ NoX1 kList := by
  refine ⟨_, (call_listS hc).or call_list_of, fun ds st H C vs Q so rv h => ?_, nox_list⟩
  unfold kList at h
  split at h
  · cases rv with
    | cons r1 r2 =>
      cases r1; cases r2
      split at h
      · rename_i s hl
        refine .inl ⟨_, rfl, by rw [sv_len]; exact lim_line hl, ?_⟩
        rw [sv_tl]
        have e : (s.map fun c => V.str (sv [c])) = ((s.map fun c => [c]).map sv).map V.str := by simp
        have e2 : (s.map fun c => D.str [c]) = (s.map fun c => [c]).map D.str := by simp
        rw [e]
        rw [e2] at h
        exact new_lst h so (Reps.of_strs _)
      · exact h.elim
  · cases rv with
    | cons r1 r2 =>
      cases r2
      split at h
      · rename_i xs e
        obtain ⟨a, ys, rfl, h1, h2⟩ := itemsS_rep e so r1
        exact .inr ⟨a, ys, rfl, h1, new_lst h so h2⟩
      · exact h.elim
  · exact h.elim
/-- .. into a cell -/
theorem c_listC (hc : X.calm = true) : ∃ r, CallR X (.type "list") r ∧ SimCR (gx X) r (kCell kList) ∧ NoX1 (kCell kList) := by
  refine ⟨_, (call_listS hc).or call_list_of, simcr_cell fun ds st H C vs Q so rv xs st' h => ?_, fun ds st c z st' h => by unfold kCell at h; split at h <;> cases h⟩
  unfold kList at h
  split at h
  · cases rv with
    | cons r1 r2 =>
      cases r1; cases r2
      split at h
      · rename_i s hl
        cases h
        refine ⟨rfl, fun k => .inl ⟨_, rfl, by rw [sv_len]; exact lim_line hl, ?_⟩⟩
        rw [sv_tl]
        have e : (s.map fun c => V.str (sv [c])) = ((s.map fun c => [c]).map sv).map V.str := by simp
        have e2 : (s.map fun c => D.str [c]) = (s.map fun c => [c]).map D.str := by simp
        rw [e]
        rw [e2] at k
        exact fun p hp => k _ p (Reps.of_strs _) hp
      · cases h
  · cases rv with
    | cons r1 r2 =>
      cases r2
      split at h
      · rename_i xs e
        cases h
        obtain ⟨a, ys, rfl, h1, h2⟩ := itemsS_rep e so r1
        exact ⟨rfl, fun k => .inr ⟨a, ys, rfl, h1, fun p hp => k _ p h2 hp⟩⟩
      · cases h
  · cases h
end

/-! ### a[b] -/
def keyD : Key → D
  | .inl i => .int i
  | .inr x => .str x.cps.toList
/-- equal keys -/
def sameK : D → D → Bool
  | .int i, .int j => decide (i = j)
  | .str a, .str b => decide (a = b)
  | _, _ => false
def lookK (es : List (D × D)) (k : D) : Option D := (es.find? fun e => sameK e.1 k).map (·.2)
def gIx : F2 := fun x y st => match x, y with
  | .str s, .int i => if s.length ≤ lim then match atI s i with
    | some c => .ok (.str [c]) st
    | none => .no
    else .no
  | x, y => match itemsS st x with
    | some xs => match y with
      | .int i => match atI xs i with
        | some d => .ok d st
        | none => .no
      | _ => .no
    | none => match ents st x with
      | some es => match y with
        | .int i => R.opt (lookK es (.int i)) st
        | .str s => R.opt (lookK es (.str s)) st
        | _ => .no
      | none => .no
theorem nox_ix : NoX2 gIx := fun x y st c z st' h => by
  unfold gIx at h
  split at h
  · split at h
    · split at h <;> cases h
    · cases h
  · split at h
    · split at h
      · split at h <;> cases h
      · cases h
    · split at h
      · split at h
        · unfold R.opt at h; split at h <;> cases h
        · unfold R.opt at h; split at h <;> cases h
        · cases h
      · cases h
theorem atI_rep {K : PySem.W.Frag} {H : Hp} {C : Ad} {xs : List V} {ds : List D} {i : Int} {d : D} (h : atI ds i = some d) (r : Reps K H C xs ds) : ∃ v, atI xs i = some v ∧ Rep K H C v d := by
  unfold atI at *
  rw [r.length]
  cases e : ixN ds.length i with
  | none => rw [e] at h; cases h
  | some j =>
    rw [e] at h
    obtain ⟨v, h1, h2⟩ := r.get (i := j) (d := d) h
    exact ⟨v, h1, h2⟩
theorem ents_rep {K : PySem.W.Frag} {H : Hp} {C : Ad} {st : Sto} {x : D} {v : V} {es : List (D × D)} (h : ents st x = some es) (so : StoOk K H C st) (r : Rep K H C v x) : ∃ a kvs, v = .ref a ∧ Rd H a (.dK kvs) ∧ RepKs K H C kvs es := by
  cases r with
  | dct h1 h2 h3 h4 =>
    cases h
    rcases h2 with rfl | ⟨ob, rfl⟩
    · exact ⟨_, _, rfl, .inl h1, h4⟩
    · exact ⟨_, _, rfl, .inr ⟨ob, h1⟩, h4⟩
  | cel hc =>
    simp only [ents] at h
    split at h
    · rename_i e
      cases h
      obtain ⟨kvs, h1, h2⟩ := so.ok _ _ _ hc e
      exact ⟨_, kvs, rfl, .inl h1, h2⟩
    · rename_i e
      cases h
      obtain ⟨ob, kvs, h1, h2⟩ := so.ok _ _ _ hc e
      exact ⟨_, kvs, rfl, .inr ⟨ob, h1⟩, h2⟩
    · cases h
  | _ => cases h
theorem sameK_key {a b : Key} {x y : D} (h1 : RepKey a x) (h2 : RepKey b y) : sameK x y = decide (a = b) := by
  cases h1 <;> cases h2 <;> simp [sameK]
theorem lookK_rep {K : PySem.W.Frag} {H : Hp} {C : Ad} {k : Key} {q : D} (hk : RepKey k q) : ∀ {es : List (D × D)} {kvs : List (Key × V)}, RepKs K H C kvs es →
    (match lookK es q with | some d => ∃ v, valV kvs k = some v ∧ Rep K H C v d | none => valV kvs k = none)
  | [], _, h => by cases h; rfl
  | (p, d) :: es, _, h => by
    cases h with
    | cons h0 h1 h2 =>
      rename_i k' v r
      have e := sameK_key h0 hk
      have ih := lookK_rep hk h2
      unfold lookK at *
      by_cases q' : k' = k
      · rw [List.find?_cons_of_pos (by rw [e]; exact decide_eq_true q')]
        exact ⟨v, valV_pos q', h1⟩
      · rw [List.find?_cons_of_neg (by rw [e]; simpa using q'), valV_neg q']
        exact ih
section
variable {X : Cx}
def rIxDct : R2 := fun x y H Q => ∃ a v, x = .ref a ∧ DGet H a y (some v) ∧ Q v H
theorem ix_dict (hu : X.A.units + 1 < cLine) : IxR X rIxDct := by
  intro value slice pins s σ H x y v u Q I rx ry h hs
  obtain ⟨a, w, rfl, g, q⟩ := h
  cases rx
  exact tail_any (dict_typeIs I g) PySem.F.slot_dict_getitem.lookup (d_getItem hu I g ry fun w' s3 I3 rw' => ⟨w, H, I3, rw', q⟩) hs
theorem o_ix (hu : X.A.units + 1 < cLine) : ∃ r, IxR X r ∧ SimR2 (gx X) r gIx ∧ NoX2 gIx := by
  refine ⟨_, ix_str.or (ix_list.or (ix_tup.or (ix_dict hu))), fun x y st H C v u Q so rx ry h => ?_, nox_ix⟩
  unfold gIx at h
  split at h
  · cases rx; cases ry
    split at h
    · rename_i hl
      split at h
      · rename_i c e
        refine .inl ⟨_, _, c, rfl, rfl, by rw [sv_len]; exact lim_line hl, by rw [sv_tl]; exact e, ?_⟩
        exact h.here so _ (.str [c])
      · exact h.elim
    · exact h.elim
  · split at h
    · rename_i xs e
      obtain ⟨a, ys, rfl, h1, h2⟩ := itemsS_rep e so rx
      split at h
      · cases ry
        split at h
        · rename_i d e3
          obtain ⟨w, e4, r4⟩ := atI_rep e3 h2
          rcases h1 with h1 | h1
          · exact .inr (.inl ⟨a, ys, _, w, rfl, rfl, h1, e4, h.here so _ r4⟩)
          · exact .inr (.inr (.inl ⟨a, ys, _, w, rfl, rfl, h1, e4, h.here so _ r4⟩))
        · exact h.elim
      · exact h.elim
    · split at h
      · rename_i es e
        obtain ⟨a, kvs, rfl, h1, h2⟩ := ents_rep e so rx
        have fin : ∀ (k : Key) (q : D), RepKey k q → u = kV k → After (gx X) (fun _ _ _ => False) C H (R.opt (lookK es q) st) (fun d x C' H' => ∀ (v : V), Rep (gx X).K H' C' v d → Q v H') → rIxDct (V.ref a) u H Q := fun k q hk eu h => by
          obtain ⟨d, e5, h⟩ := h.opt
          have l := lookK_rep hk h2
          rw [e5] at l
          obtain ⟨w, h3, h4⟩ := l
          exact ⟨a, w, rfl, .inl ⟨kvs, k, h1, eu, h3.symm⟩, h.here so _ h4⟩
        split at h
        · cases ry; exact .inr (.inr (.inr (fin _ _ (.int _) rfl h)))
        · cases ry; exact .inr (.inr (.inr (fin _ _ (.str _) rfl h)))
        · exact h.elim
      · exact h.elim
theorem se_ix {W : WX} {a b : Expr} {fa fb : FE} {pos : Pos} (hu : X.A.units + 1 < cLine) (ha : SE X W a fa) (hb : SE X W b fb) (hs : PlainIx b := by exact fun _ _ => rfl) : SE X W (.Subscript a b pos) (fBin gIx fa fb) := by
  obtain ⟨r, h1, h2, h3⟩ := o_ix hu
  obtain ⟨ta, pa, sa⟩ := ha
  obtain ⟨tb, pb, sb⟩ := hb
  exact ⟨_, pe_ix h1 pa pb hs, sim_op h2 h3 sa sb⟩
end

/-! ### a[lo:hi] -/
abbrev FO := En → Sto → R (Option Int)
def SimO (g : Gx) (W : WX) (t : TO) (f : FO) : Prop := ∀ (ρ : En) (σ : L2.St) (st : Sto) (H : Hp) (C : Ad) (Q : Option Int → Hp → Prop), Rs g.K H C σ ρ → StoOk g.K H C st →
  After g (fun c d H' => W c d σ H') C H (f ρ st) (fun o _ _ H' => Q o H') → t σ H Q
structure SO (X : Cx) (W : WX) (e : Option Expr) (f : FO) : Prop where
  ex : ∃ t, PO X e t ∧ SimO (gx X) W t f
def foNone : FO := fun _ st => .ok none st
def foSome (f : FE) : FO := fun ρ st => (f ρ st).bind fun d st1 => match d with
  | .int i => .ok (some i) st1
  | _ => .no
def cut {α : Type} (xs : List α) (lo hi : Option Int) : List α := (xs.drop (HT.sIx xs.length 0 lo)).take (HT.sIx xs.length xs.length hi - HT.sIx xs.length 0 lo)
def gCut (x : D) (lo hi : Option Int) (st : Sto) : R D := match x with
  | .str s => if s.length ≤ lim then .ok (.str (cut s lo hi)) st else .no
  | x => match itemsR st x with
    | some xs => .ok (.lst (cut xs lo hi)) st
    | none => .no
def fCut (f : FE) (l h : FO) : FE := fun ρ st => (f ρ st).bind fun x st1 => (l ρ st1).bind fun lo st2 => (h ρ st2).bind fun hi st3 => gCut x lo hi st3
section
variable {X : Cx} {W : WX}
theorem so_none : SO X W none foNone := ⟨_, po_none, fun ρ σ st H C Q rs so h => h.here so⟩
theorem so_some {e : Expr} {f : FE} (h : SE X W e f) : SO X W (some e) (foSome f) := by
  obtain ⟨t, p, s⟩ := h
  refine ⟨_, po_some p, fun ρ σ st H C Q rs so q => s ρ σ st H C _ rs so (q.bind.imp fun d st1 C1 H1 so1 e1 h1 v rv => ?_)⟩
  cases d with
  | int i => cases rv; exact ⟨i, rfl, h1.here so1⟩
  | _ => exact h1.elim
theorem cutS_sv (s : List Nat) (lo hi : Option Int) : cutS (sv s) lo hi = sv (cut s lo hi) := by
  unfold cutS cut
  simp [sv, Str.length]
theorem Reps.cut {K : PySem.W.Frag} {H : Hp} {C : Ad} {xs : List V} {ds : List D} (r : Reps K H C xs ds) (lo hi : Option Int) : Reps K H C (cutV xs lo hi) (FL.cut ds lo hi) := by
  unfold cutV FL.cut
  rw [r.length]
  exact (r.drop _).take _
theorem se_cut {a : Expr} {lo hi : Option Expr} {f : FE} {l h : FO} {pos p2 : Pos} (ha : SE X W a f) (hl : SO X W lo l) (hh : SO X W hi h) : SE X W (.Subscript a (.Slice lo hi none p2) pos) (fCut f l h) := by
  obtain ⟨ta, pa, sa⟩ := ha
  obtain ⟨tl, pl, sl⟩ := hl
  obtain ⟨th, ph, sh⟩ := hh
  refine ⟨_, pe_slice (sl_str.or sl_list) pa pl ph, fun ρ σ st H C Q rs so q => ?_⟩
  refine sa ρ σ st H C _ rs so (q.bind.imp fun d st1 C1 H1 so1 e1 h1 v rv => ?_)
  refine sl ρ σ st1 H1 C1 _ (rs.mono e1) so1 (h1.bind.imp fun o st2 C2 H2 so2 e2 h2 => ?_)
  refine sh ρ σ st2 H2 C2 _ ((rs.mono e1).mono e2) so2 (h2.bind.imp fun o2 st3 C3 H3 so3 e3 h3 => ?_)
  have rv3 := (rv.mono e2).mono e3
  unfold gCut at h3
  split at h3
  · cases rv3
    split at h3
    · rename_i hl
      refine .inl ⟨_, rfl, by rw [sv_len]; exact lim_line hl, ?_⟩
      rw [cutS_sv]
      exact h3.here so3 _ (.str _)
    · exact h3.elim
  · split at h3
    · rename_i xs e
      obtain ⟨b, ys, rfl, k1, k2, _⟩ := itemsR_rep e so3 rv3
      exact .inr ⟨b, ys, rfl, k1, new_lst h3 so3 (k2.cut _ _)⟩
    · exact h3.elim
end
end FL

/-! FLh: statements, targets, loops -/
namespace FL
open PySem PySem.Spec PyProof.Rows L2

inductive O where
  | no | nx (ρ : En) (st : Sto) | rt (d : D) (st : Sto) | bk (ρ : En) (st : Sto) | ct (ρ : En) (st : Sto) | exc (c : Nat) (x : D) (ρ : En) (st : Sto)
abbrev FS := En → Sto → O
def AfterS (g : Gx) (W : WX) (C : Ad) (H : Hp) (r : O) (D : Ends) : Prop := match r with
  | .no => False
  | .nx ρ st => ∀ C' H' σ', StoOk g.K H' C' st → Ext C H C' H' → Rs g.K H' C' σ' ρ → D.nx σ' H'
  | .rt d st => ∀ C' H' v, StoOk g.K H' C' st → Ext C H C' H' → Rep g.K H' C' v d → D.rt v H'
  | .bk ρ st => ∀ C' H' σ', StoOk g.K H' C' st → Ext C H C' H' → Rs g.K H' C' σ' ρ → D.bk σ' H'
  | .ct ρ st => ∀ C' H' σ', StoOk g.K H' C' st → Ext C H C' H' → Rs g.K H' C' σ' ρ → D.ct σ' H'
  | .exc c x ρ st => ∀ C' H' σ' cls dd, StoOk g.K H' C' st → Ext C H C' H' → Rs g.K H' C' σ' ρ → ExcAt g H' C' cls dd c x → W cls dd σ' H'
def SimS (g : Gx) (W : WX) (t : TS) (f : FS) : Prop := ∀ (ρ : En) (σ : L2.St) (st : Sto) (H : Hp) (C : Ad) (D : Ends), Rs g.K H C σ ρ → StoOk g.K H C st → AfterS g W C H (f ρ st) D → t D σ H
structure SS (X : Cx) (W : WX) (s : Stmt) (f : FS) : Prop where
  ex : ∃ t, PS X s t ∧ SimS (gx X) W t f
structure SSs (X : Cx) (W : WX) (s : List Stmt) (f : FS) : Prop where
  ex : ∃ t, PSs X s t ∧ SimS (gx X) W t f
theorem AfterS.ext {g : Gx} {W : WX} {C C1 : Ad} {H H1 : Hp} {r : O} {D : Ends} (h : AfterS g W C H r D) (e : Ext C H C1 H1) : AfterS g W C1 H1 r D := by
  cases r with
  | no => exact h
  | nx ρ st => exact fun C' H' σ' so e' rs => h C' H' σ' so (e.trans e') rs
  | rt d st => exact fun C' H' v so e' rs => h C' H' v so (e.trans e') rs
  | bk ρ st => exact fun C' H' σ' so e' rs => h C' H' σ' so (e.trans e') rs
  | ct ρ st => exact fun C' H' σ' so e' rs => h C' H' σ' so (e.trans e') rs
  | exc c x ρ st => exact fun C' H' σ' cls dd so e' rs ex => h C' H' σ' cls dd so (e.trans e') rs ex
/-- from a value's result to a statement's -/
def R.toO {α : Type} (r : R α) (ρ : En) (k : α → Sto → O) : O := match r with
  | .no => .no
  | .ok a st => k a st
  | .exc c x st => .exc c x ρ st
@[simp] theorem R.toO_no {α : Type} (ρ : En) (k : α → Sto → O) : R.toO .no ρ k = .no := rfl
@[simp] theorem R.toO_ok {α : Type} (a : α) (st : Sto) (ρ : En) (k : α → Sto → O) : R.toO (.ok a st) ρ k = k a st := rfl
@[simp] theorem R.toO_exc {α : Type} (c : Nat) (x : D) (st : Sto) (ρ : En) (k : α → Sto → O) : R.toO (.exc c x st) ρ k = .exc c x ρ st := rfl
theorem AfterS.val {α : Type} {g : Gx} {W : WX} {C : Ad} {H : Hp} {r : R α} {ρ : En} {σ : L2.St} {k : α → Sto → O} {D : Ends} (rs : Rs g.K H C σ ρ) (h : AfterS g W C H (r.toO ρ k) D) :
    After g (fun c d H' => W c d σ H') C H r fun a st C' H' => AfterS g W C' H' (k a st) D := by
  cases r with
  | no => exact h
  | ok a st => exact fun C' H' so e => AfterS.ext h e
  | exc c x st => exact fun C' H' cls dd so e ex => h C' H' σ cls dd so e (rs.mono e) ex
theorem AfterS.now {g : Gx} {W : WX} {C : Ad} {H : Hp} {ρ : En} {σ : L2.St} {st : Sto} {D : Ends} (h : AfterS g W C H (.nx ρ st) D) (so : StoOk g.K H C st) (rs : Rs g.K H C σ ρ) : D.nx σ H := h C H σ so .refl rs

/-! ### plain statements -/
def fNext : FS := fun ρ st => .nx ρ st
def fNever : FS := fun _ _ => .no
def fBrk : FS := fun ρ st => .bk ρ st
def fCnt : FS := fun ρ st => .ct ρ st
def fDrop (f : FE) : FS := fun ρ st => (f ρ st).toO ρ fun _ st1 => .nx ρ st1
def fRet (f : FE) : FS := fun ρ st => (f ρ st).toO ρ fun d st1 => .rt d st1
def fRetN : FS := fun _ st => .rt .non st
def fSeq (f h : FS) : FS := fun ρ st => match f ρ st with
  | .nx ρ1 st1 => h ρ1 st1
  | o => o
def fIf (t : FT) (f h : FS) : FS := fun ρ st => (t ρ st).toO ρ fun b st1 => if b = true then f ρ st1 else h ρ st1
section
variable {X : Cx} {W : WX} {e : Expr} {fe : FE} {ft : FT} {f h : FS} {s : Stmt} {r : List Stmt} {pos : Pos}
theorem ss_nil : SSs X W [] fNext := ⟨_, pss_nil, fun ρ σ st H C D rs so q => q.now so rs⟩
theorem sim_seq {t u : TS} (h1 : SimS (gx X) W t f) (h2 : SimS (gx X) W u h) : SimS (gx X) W (tSeq t u) (fSeq f h) := fun ρ σ st H C D rs so q => by
  refine h1 ρ σ st H C _ rs so ?_
  unfold fSeq at q
  cases e : f ρ st with
  | nx ρ1 st1 =>
    rw [e] at q
    exact fun C' H' σ' so' e' rs' => h2 ρ1 σ' st1 H' C' D rs' so' (AfterS.ext q e')
  | _ => rw [e] at q; exact q
theorem ss_cons (h1 : SS X W s f) (h2 : SSs X W r h) : SSs X W (s :: r) (fSeq f h) := by
  obtain ⟨t, p, q⟩ := h1
  obtain ⟨u, p2, q2⟩ := h2
  exact ⟨_, pss_cons p p2, sim_seq q q2⟩
theorem ss_one (h1 : SS X W s f) : SSs X W [s] f := by
  obtain ⟨t, p, q⟩ := h1
  exact ⟨_, pss_one p, q⟩
theorem ss_never : SS X W s fNever := ⟨_, ps_never, fun ρ σ st H C D rs so q => q.elim⟩
theorem ss_pass : SS X W (.Pass pos) fNext := ⟨_, ps_pass, fun ρ σ st H C D rs so q => q.now so rs⟩
theorem ss_break : SS X W (.Break pos) fBrk := ⟨_, ps_break, fun ρ σ st H C D rs so q => q C H σ so .refl rs⟩
theorem ss_continue : SS X W (.Continue pos) fCnt := ⟨_, ps_continue, fun ρ σ st H C D rs so q => q C H σ so .refl rs⟩
theorem ss_expr (he : SE X W e fe) (hs : swapsWith e none pos.line X.env = pure false := by rfl) : SS X W (.Expr e pos) (fDrop fe) := by
  obtain ⟨t, p, q⟩ := he
  exact ⟨_, ps_expr p hs, fun ρ σ st H C D rs so h => q ρ σ st H C _ rs so ((h.val rs).imp fun d st1 C1 H1 so1 e1 h1 v rv => h1.now so1 (rs.mono e1))⟩
theorem ss_ret (he : SE X W e fe) : SS X W (.Return (some e) pos) (fRet fe) := by
  obtain ⟨t, p, q⟩ := he
  exact ⟨_, ps_ret p, fun ρ σ st H C D rs so h => q ρ σ st H C _ rs so ((h.val rs).imp fun d st1 C1 H1 so1 e1 h1 v rv => h1 C1 H1 v so1 .refl rv)⟩
theorem ss_retN : SS X W (.Return none pos) fRetN := ⟨_, ps_retN, fun ρ σ st H C D rs so q => q C H .non so .refl .non⟩
theorem ss_if {a b : List Stmt} (ht : ST X W e ft) (ha : SSs X W a f) (hb : SSs X W b h) : SS X W (.If e a b pos) (fIf ft f h) := by
  obtain ⟨t, p, q⟩ := ht
  obtain ⟨t1, p1, q1⟩ := ha
  obtain ⟨t2, p2, q2⟩ := hb
  refine ⟨_, ps_if p p1 p2, fun ρ σ st H C D rs so h => q ρ σ st H C _ rs so ((h.val rs).imp fun k st1 C1 H1 so1 e1 h1 => ?_)⟩
  cases k with
  | true => exact iteT (q1 ρ σ st1 H1 C1 _ (rs.mono e1) so1 h1)
  | false => exact iteF (q2 ρ σ st1 H1 C1 _ (rs.mono e1) so1 h1)
end

/-! ### targets -/
abbrev FG := D → En → Sto → R En
abbrev FGs := List D → En → Sto → R En
def SimG (g : Gx) (W : WX) (t : TG) (f : FG) : Prop := ∀ (d : D) (v : V) (ρ : En) (σ : L2.St) (st : Sto) (H : Hp) (C : Ad) (Q : L2.St → Hp → Prop), Rep g.K H C v d → Rs g.K H C σ ρ → StoOk g.K H C st →
  After g (fun c d H' => W c d σ H') C H (f d ρ st) (fun ρ' _ C' H' => ∀ σ', Rs g.K H' C' σ' ρ' → Q σ' H') → t v σ H Q
def SimGs (g : Gx) (W : WX) (t : TGs) (f : FGs) : Prop := ∀ (ds : List D) (vs : List V) (ρ : En) (σ : L2.St) (st : Sto) (H : Hp) (C : Ad) (Q : L2.St → Hp → Prop), Reps g.K H C vs ds → Rs g.K H C σ ρ → StoOk g.K H C st →
  After g (fun _ _ _ => False) C H (f ds ρ st) (fun ρ' _ C' H' => ∀ σ', Rs g.K H' C' σ' ρ' → Q σ' H') → t vs σ H Q
structure SG (X : Cx) (W : WX) (e : Expr) (f : FG) : Prop where
  ex : ∃ t, PG X e t ∧ SimG (gx X) W t f
structure SGs (X : Cx) (W : WX) (es : List Expr) (f : FGs) : Prop where
  ex : ∃ t, PGs X es t ∧ SimGs (gx X) W t f
def hName (i : Nat) : FG := fun d ρ st => .ok (ρ.set i (some d)) st
def hNil : FGs := fun ds ρ st => match ds with
  | [] => .ok ρ st
  | _ => .no
/-- an error in a target is not served -/
def R.quiet {α : Type} (r : R α) : R α := match r with
  | .exc _ _ _ => .no
  | r => r
def hCons (f : FG) (r : FGs) : FGs := fun ds ρ st => match ds with
  | d :: ds => (f d ρ st).quiet.bind fun ρ1 st1 => r ds ρ1 st1
  | [] => .no
def hTup (n : Nat) (f : FGs) : FG := fun d ρ st => match d with
  | .tup ds => if ds.length = n then (f ds ρ st).quiet else .no
  | _ => .no
theorem After.quiet {α : Type} {g : Gx} {W W' : XK'} {C : Ad} {H : Hp} {r : R α} {P : α → Sto → Ad → Hp → Prop} (h : After g W C H r.quiet P) : After g W' C H r P := by
  cases r with
  | no => exact h
  | ok a st => exact h
  | exc c x st => exact h.elim
section
variable {X : Cx} {W : WX} {e : Expr} {es : List Expr} {fe : FE} {pos : Pos}
theorem sg_name {i : Nat} {x : Str} (hN : X.N.Nodup) (hi : X.N[i]? = some x := by rfl) (hx : Loc X.env.scope x := by first | exact Or.inl rfl | exact Or.inr rfl) (hf : X.fn x = true ∨ X.env.scope.names.lookup x = some .local := by first | exact .inl rfl | exact .inr rfl | assumption) :
    SG X W (.Name x pos) (hName i) := ⟨_, pg_name hN hi hx hf, fun d v ρ σ st H C Q rv rs so q => q.here so _ (rs.set rv)⟩
theorem sgs_nil : SGs X W [] hNil := ⟨_, pgs_nil, fun ds vs ρ σ st H C Q rv rs so q => by
  cases ds with
  | nil => cases rv; exact ⟨rfl, q.here so _ rs⟩
  | cons d ds => exact q.elim⟩
theorem sgs_cons {f : FG} {r : FGs} (h1 : SG X W e f) (h2 : SGs X W es r) (hs : (assignEach (e :: es) X.env).map (·.2) = assign e X.env :: (assignEach es X.env).map (·.2) := by rfl) : SGs X W (e :: es) (hCons f r) := by
  obtain ⟨t, p, s⟩ := h1
  obtain ⟨u, p2, s2⟩ := h2
  refine ⟨_, pgs_cons p p2 hs, fun ds vs ρ σ st H C Q rv rs so q => ?_⟩
  cases ds with
  | nil => exact q.elim
  | cons d ds =>
    cases rv with
    | cons r1 r2 =>
      refine ⟨_, _, rfl, s d _ ρ σ st H C _ r1 rs so ?_⟩
      have q := After.bind (r := (f d ρ st).quiet) (k := fun ρ1 st1 => r ds ρ1 st1) q
      exact q.quiet.imp fun ρ1 st1 C1 H1 so1 e1 h1 σ1 rs1 => s2 ds _ ρ1 σ1 st1 H1 C1 Q (r2.mono e1) rs1 so1 h1
theorem sg_tup {k n : Nat} {f : FGs} (hc : X.calm = true) (h : SGs X W es f) (hn : (assignEach es X.env).length = n := by rfl) (hst : (assignEach es X.env).findIdx? (·.1) = none := by rfl) : SG X W (.Tuple es k pos) (hTup n f) := by
  obtain ⟨t, p, s⟩ := h
  refine ⟨_, pg_tup hc p hn hst, fun d v ρ σ st H C Q rv rs so q => ?_⟩
  unfold hTup at q
  split at q
  · split at q
    · rename_i hl
      obtain ⟨a, xs, rfl, h1, _, h2⟩ := tup_rep rv
      exact ⟨a, xs, rfl, SqT.of h1, by rw [h2.length]; exact hl, s _ _ ρ σ st H C Q h2 rs so q.quiet⟩
    · exact q.elim
  · exact q.elim

/-! ### assignments -/
def fAsg (f : FE) (h : FG) : FS := fun ρ st => (f ρ st).toO ρ fun d st1 => (h d ρ st1).toO ρ fun ρ1 st2 => .nx ρ1 st2
theorem sim_asg {t : TE} {u : TG} {f : FE} {h : FG} (h1 : SimE (gx X) W t f) (h2 : SimG (gx X) W u h) : SimS (gx X) W (tAsg t u) (fAsg f h) := fun ρ σ st H C D rs so q => by
  refine h1 ρ σ st H C _ rs so ((q.val rs).imp fun d st1 C1 H1 so1 e1 h3 v rv => ?_)
  have rs1 := rs.mono e1
  exact h2 d v ρ σ st1 H1 C1 _ rv rs1 so1 ((h3.val rs1).imp fun ρ1 st2 C2 H2 so2 e2 h4 σ' rs2 => h4.now so2 rs2)
theorem ss_asg {tg e : Expr} {f : FE} {h : FG} (he : SE X W e f) (hg : SG X W tg h) (hs : swapsWithSole [tg] e pos.line X.env = pure false := by rfl) (hw : swappedStores [tg] e X.env = pure none := by rfl) (h1 : (assignEach [tg] X.env).map (·.2) = [assign tg X.env] := by rfl) : SS X W (.Assign [tg] e pos) (fAsg f h) := by
  obtain ⟨t, p, s⟩ := he
  obtain ⟨u, p2, s2⟩ := hg
  exact ⟨_, ps_asg p p2 hs hw h1, sim_asg s s2⟩
theorem ss_set {i : Nat} {x : Str} {f : FE} {pos' : Pos} (hN : X.N.Nodup) (he : SE X W e f) (hi : X.N[i]? = some x := by rfl) (hx : Loc X.env.scope x := by first | exact Or.inl rfl | exact Or.inr rfl) (hs : swapsWith e (some (.Name x pos')) pos.line X.env = pure false := by rfl)
    (hf : X.fn x = true ∨ X.env.scope.names.lookup x = some .local := by first | exact .inl rfl | exact .inr rfl | assumption) : SS X W (.Assign [.Name x pos'] e pos) (fAsg f (hName i)) := by
  obtain ⟨t, p, s⟩ := he
  exact ⟨_, ps_set hN hi hx p hs hf, sim_asg s fun d v ρ σ st H C Q rv rs so q => q.here so _ (rs.set rv)⟩
def fPar (i j : Nat) (fa : FA) : FS := fun ρ st => (fa ρ st).toO ρ fun ds st1 => match ds with
  | [a, b] => .nx ((ρ.set i (some a)).set j (some b)) st1
  | _ => .no
theorem ss_par {i j : Nat} {x y : Str} {a b : Expr} {fa : FA} {px py pt : Pos} {kt k2 pt2} (hc : X.calm = true) (hN : X.N.Nodup) (ha : SA X W [a, b] fa) (hi : X.N[i]? = some x := by rfl) (hj : X.N[j]? = some y := by rfl) (hij : i ≠ j := by decide)
    (hx : X.env.scope.names.lookup x = some .local := by rfl) (hy : X.env.scope.names.lookup y = some .local := by rfl)
    (hw : swappedStores [.Tuple [.Name x px, .Name y py] kt pt] (.Tuple [a, b] k2 pt2) X.env = pure (some [x, y]) := by rfl)
    (hs : swapsWithSole [.Tuple [.Name x px, .Name y py] kt pt] (.Tuple [a, b] k2 pt2) pos.line X.env = pure false := by rfl) :
    SS X W (.Assign [.Tuple [.Name x px, .Name y py] kt pt] (.Tuple [a, b] k2 pt2) pos) (fPar i j fa) := by
  obtain ⟨t, p, s⟩ := ha
  refine ⟨_, ps_par hc hN hi hj hij hx hy p hw hs, fun ρ σ st H C D rs so q => s ρ σ st H C _ rs so ((q.val rs).imp fun ds st1 C1 H1 so1 e1 h1 vs rv => ?_)⟩
  split at h1
  · cases rv with
    | cons r1 r2 =>
      cases r2 with
      | cons r2 r3 =>
        cases r3
        exact ⟨_, _, rfl, h1.now so1 (((rs.mono e1).set r1).set r2)⟩
  · exact h1.elim
def fPar3 (i j l : Nat) (fa : FA) : FS := fun ρ st => (fa ρ st).toO ρ fun ds st1 => match ds with
  | [a, b, c] => .nx (((ρ.set i (some a)).set j (some b)).set l (some c)) st1
  | _ => .no
end
end FL

/-! FLi: what is walked; for, while, list comprehensions -/
namespace FL
open PySem PySem.Spec PyProof.Rows L2

/-- what a loop walks: data told ahead; a cell's list, read turn by turn; two of these side by side -/
inductive Sd where
  | fix (ds : List D) | cel (n : Nat)
inductive Src where
  | fix (ds : List D) | cel (n : Nat) | zip (a b : Sd)
abbrev FI := En → Sto → R Src
def sdAt (s : Sd) (st : Sto) (i : Nat) : Option (Option D) := match s with
  | .fix ds => some ds[i]?
  | .cel n => match st[n]? with
    | some (.lst ds) => some ds[i]?
    | _ => none
/-- the item at the i-th turn, or the end -/
def nextS (s : Src) (st : Sto) (i : Nat) : Option (Option D) := match s with
  | .fix ds => some ds[i]?
  | .cel n => match st[n]? with
    | some (.lst ds) => some ds[i]?
    | _ => none
  | .zip a b => match sdAt a st i, sdAt b st i with
    | some (some x), some (some y) => some (some (.tup [x, y]))
    | some _, some _ => some none
    | _, _ => none
/-- the iterator J yields what the source tells, from the heap H₁ on -/
def Walk (g : Gx) (J : It) (s : Src) (C₁ : Ad) (H₁ : Hp) : Prop := ∀ (st : Sto) (C : Ad) (H : Hp), StoOk g.K H C st → Stay C₁ H₁ C H → ∀ (i : Nat) (o : Option D), nextS s st i = some o →
  match o with
  | some d => J.go i H ∧ ∀ x H', J.yld i H x H' → StoOk g.K H' C st ∧ Ext C H C H' ∧ Rep g.K H' C x d
  | none => J.stop i H
def SimI (g : Gx) (W : WX) (wi : TI) (f : FI) : Prop := ∀ (ρ : En) (σ : L2.St) (st : Sto) (H : Hp) (C : Ad) (P : It → Hp → Prop), Rs g.K H C σ ρ → StoOk g.K H C st →
  After g (fun c d H' => W c d σ H') C H (f ρ st) (fun s _ C' H' => ∀ J, Walk g J s C' H' → P J H') → wi σ H P
structure SI (X : Cx) (W : WX) (tg iter : Expr) (f : FI) : Prop where
  ex : ∃ wi, PI X tg iter wi ∧ SimI (gx X) W wi f

/-! ### for -/
def stepO (r : O) (k : En → Sto → O) : O := match r with
  | .nx ρ st => k ρ st
  | .ct ρ st => k ρ st
  | .bk ρ st => .nx ρ st
  | o => o
def loopF (h : FG) (b : FS) : List D → En → Sto → O
  | [], ρ, st => .nx ρ st
  | d :: ds, ρ, st => (h d ρ st).toO ρ fun ρ1 st1 => stepO (b ρ1 st1) fun ρ2 st2 => loopF h b ds ρ2 st2
def loopN (s : Src) (h : FG) (b : FS) : Nat → Nat → En → Sto → O
  | 0, _, _, _ => .no
  | m + 1, i, ρ, st => match nextS s st i with
    | some (some d) => (h d ρ st).toO ρ fun ρ1 st1 => stepO (b ρ1 st1) fun ρ2 st2 => loopN s h b m (i + 1) ρ2 st2
    | some none => .nx ρ st
    | none => .no
/-- how many turns a loop over a cell may have -/
def celLen (st : Sto) (n : Nat) : Nat := match st[n]? with
  | some (.lst ds) => ds.length
  | _ => 0
def sdLen (s : Sd) (st : Sto) : Nat := match s with
  | .fix ds => ds.length
  | .cel n => celLen st n
def srcLen (s : Src) (st : Sto) : Nat := match s with
  | .fix ds => ds.length
  | .cel n => celLen st n
  | .zip a _ => sdLen a st
def fFor (src : FI) (h : FG) (b : FS) : FS := fun ρ st => (src ρ st).toO ρ fun s st1 => match s with
  | .fix ds => loopF h b ds ρ st1
  | s => loopN s h b (srcLen s st1 + 1) 0 ρ st1
theorem loopN_fix {h : FG} {b : FS} (ds : List D) : ∀ (m i : Nat) (ρ : En) (st : Sto), i + m = ds.length → loopN (.fix ds) h b (m + 1) i ρ st = loopF h b (ds.drop i) ρ st := fun m => by
  induction m with
  | zero =>
    intro i ρ st hi
    have e : ds[i]? = none := List.getElem?_eq_none_iff.mpr (by omega)
    rw [List.drop_eq_nil_of_le (by omega)]
    show (match some ds[i]? with
      | some (some d) => (h d ρ st).toO ρ fun ρ1 st1 => stepO (b ρ1 st1) fun ρ2 st2 => loopN (.fix ds) h b 0 (i + 1) ρ2 st2
      | some none => .nx ρ st
      | none => .no) = _
    rw [e, loopF]
  | succ m ih =>
    intro i ρ st hi
    have hl : i < ds.length := by omega
    rw [List.drop_eq_getElem_cons hl]
    show (match some ds[i]? with
      | some (some d) => (h d ρ st).toO ρ fun ρ1 st1 => stepO (b ρ1 st1) fun ρ2 st2 => loopN (.fix ds) h b (m + 1) (i + 1) ρ2 st2
      | some none => .nx ρ st
      | none => .no) = _
    rw [List.getElem?_eq_getElem hl, loopF]
    simp only
    congr 1
    funext ρ1 st1
    congr 1
    funext ρ2 st2
    exact ih (i + 1) ρ2 st2 (by omega)
theorem AfterS.step {g : Gx} {W : WX} {C : Ad} {H : Hp} {r : O} {k : En → Sto → O} {D : Ends} {N : L2.St → Hp → Prop} (h : AfterS g W C H (stepO r k) D)
    (hN : ∀ ρ' st' C' H' σ', StoOk g.K H' C' st' → Ext C H C' H' → Rs g.K H' C' σ' ρ' → AfterS g W C' H' (k ρ' st') D → N σ' H') : AfterS g W C H r { D with nx := N, ct := N, bk := D.nx } := by
  cases r with
  | no => exact h
  | nx ρ st => exact fun C' H' σ' so e rs => hN ρ st C' H' σ' so e rs (AfterS.ext (r := k ρ st) h e)
  | ct ρ st => exact fun C' H' σ' so e rs => hN ρ st C' H' σ' so e rs (AfterS.ext (r := k ρ st) h e)
  | bk ρ st => exact h
  | rt d st => exact h
  | exc c x ρ st => exact h
section
variable {X : Cx} {W : WX}
theorem sim_for {wi : TI} {tg : TG} {tb : TS} {src : FI} {h : FG} {b : FS} (h0 : SimI (gx X) W wi src) (h1 : SimG (gx X) W tg h) (h2 : SimS (gx X) W tb b) : SimS (gx X) W (tFor wi tg tb) (fFor src h b) := fun ρ σ st H C D rs so q => by
  refine h0 ρ σ st H C _ rs so ((q.val rs).imp fun s st1 C1 H1 so1 e1 h3 J wk => ?_)
  have rs1 := rs.mono e1
  have dyn : ∀ m0, AfterS (gx X) W C1 H1 (loopN s h b m0 0 ρ st1) D → ∃ Wf : Nat → Nat → L2.St → Hp → Prop, (∃ m, Wf 0 m σ H1) ∧ ∀ i m σ H, Wf i m σ H →
      (J.stop i H ∧ D.nx σ H) ∨ (J.go i H ∧ ∃ N : L2.St → Hp → Prop, (∀ σ' H', N σ' H' → ∃ m', m' < m ∧ Wf (i + 1) m' σ' H') ∧ ∀ v H', J.yld i H v H' → tg v σ H' fun σ2 H2 => tb { D with nx := N, ct := N, bk := D.nx } σ2 H2) := fun m0 h3 => by
    let Wf : Nat → Nat → L2.St → Hp → Prop := fun i m σ H => ∃ ρ st C, Rs X.K H C σ ρ ∧ StoOk X.K H C st ∧ Ext C1 H1 C H ∧ AfterS (gx X) W C H (loopN s h b m i ρ st) D
    refine ⟨Wf, ⟨m0, ρ, st1, C1, rs1, so1, .refl, h3⟩, ?_⟩
    rintro i m σ2 H2 ⟨ρ2, st2, C2, rs2, so2, e2, h4⟩
    cases m with
    | zero => exact h4.elim
    | succ m =>
      rw [loopN] at h4
      cases e : nextS s st2 i with
      | none => rw [e] at h4; exact h4.elim
      | some o =>
        rw [e] at h4
        have w := wk st2 C2 H2 so2 e2.stay i o e
        cases o with
        | none => exact .inl ⟨w, h4.now so2 rs2⟩
        | some d =>
          refine .inr ⟨w.1, fun σ' H' => Wf (i + 1) m σ' H', fun σ' H' hw => ⟨m, Nat.lt_succ_self m, hw⟩, fun x H' hy => ?_⟩
          obtain ⟨so3, e3, rx⟩ := w.2 x H' hy
          have rs3 := rs2.mono e3
          refine h1 d x ρ2 σ2 st2 H' C2 _ rx rs3 so3 (((AfterS.ext h4 e3).val rs3).imp fun ρ4 st4 C4 H4 so4 e4 h5 σ4 rs4 => ?_)
          exact h2 ρ4 σ4 st4 H4 C4 _ rs4 so4 (h5.step fun ρ5 st5 C5 H5 σ5 so5 e5 rs5 h6 => ⟨ρ5, st5, C5, rs5, so5, ((e2.trans e3).trans e4).trans e5, h6⟩)
  cases s with
  | fix ds =>
    refine dyn (ds.length + 1) ?_
    rw [loopN_fix ds ds.length 0 ρ st1 (by omega)]
    exact h3
  | cel n => exact dyn _ h3
  | zip a b => exact dyn _ h3
theorem ss_for {tg iter : Expr} {body : List Stmt} {src : FI} {h : FG} {b : FS} {pos : Pos} (hp : PassesOwn (model X.prog X.w) X.A X.env X.xe) (hc : X.calm = true) (hi : SI X W tg iter src) (hg : SG X W tg h) (hb : SSs X W body b)
    (hs : ∀ x, foldedSetIterable iter X.env x = pure x := by intro _; rfl) : SS X W (.For tg iter body [] pos) (fFor src h b) := by
  obtain ⟨wi, p0, s0⟩ := hi
  obtain ⟨t1, p1, s1⟩ := hg
  obtain ⟨t2, p2, s2⟩ := hb
  exact ⟨_, ps_for hp hc p0 p1 p2 hs, sim_for s0 s1 s2⟩
end

/-! ### while -/
def whileF (t : FT) (b : FS) : Nat → En → Sto → O
  | 0, _, _ => .no
  | m + 1, ρ, st => (t ρ st).toO ρ fun c st1 => if c = true then stepO (b ρ st1) fun ρ2 st2 => whileF t b m ρ2 st2 else .nx ρ st1
def fWhile (fuel : Nat) (t : FT) (b : FS) : FS := fun ρ st => whileF t b fuel ρ st
section
variable {X : Cx} {W : WX}
theorem ss_while (fuel : Nat) {c : Expr} {body : List Stmt} {t : FT} {b : FS} {pos : Pos} (hp : PassesOwn (model X.prog X.w) X.A X.env X.xe) (hc : ST X W c t) (hb : SSs X W body b) : SS X W (.While c body [] pos) (fWhile fuel t b) := by
  obtain ⟨tc, p1, s1⟩ := hc
  obtain ⟨tb, p2, s2⟩ := hb
  refine ⟨_, ps_while hp p1 p2, fun ρ σ st H C D rs so q => ?_⟩
  let Wf : Nat → L2.St → Hp → Prop := fun m σ H => ∃ ρ st C, Rs X.K H C σ ρ ∧ StoOk X.K H C st ∧ AfterS (gx X) W C H (whileF t b m ρ st) D
  refine ⟨Wf, ⟨fuel, ρ, st, C, rs, so, q⟩, ?_⟩
  rintro m σ2 H2 ⟨ρ2, st2, C2, rs2, so2, h4⟩
  cases m with
  | zero => exact h4.elim
  | succ m =>
    rw [whileF] at h4
    refine s1 ρ2 σ2 st2 H2 C2 _ rs2 so2 ((h4.val rs2).imp fun k st3 C3 H3 so3 e3 h5 => ?_)
    have rs3 := rs2.mono e3
    cases k with
    | true =>
      refine iteT ⟨fun σ' H' => Wf m σ' H', fun σ' H' hw => ⟨m, Nat.lt_succ_self m, hw⟩, ?_⟩
      rw [if_pos rfl] at h5
      exact s2 ρ2 σ2 st3 H3 C3 _ rs3 so3 (h5.step fun ρ5 st5 C5 H5 σ5 so5 e5 rs5 h6 => ⟨ρ5, st5, C5, rs5, so5, h6⟩)
    | false =>
      rw [if_neg Bool.false_ne_true] at h5
      exact iteF (h5.now so3 rs3)
end

/-! ### sources -/
def iList (f : FE) : FI := fun ρ st => (f ρ st).bind fun d st1 => match d with
  | .cel n => match st1[n]? with
    | some (.lst _) => .ok (.cel n) st1
    | _ => .no
  | .str s => .ok (.fix (s.map fun c => .str [c])) st1
  | .tup ds => .ok (.fix ds) st1
  | d => match itemsR st1 d with
    | some ds => .ok (.fix ds) st1
    | none => .no
def rng (lo hi : Int) : List Int := (List.range (hi - lo).toNat).map fun (i : Nat) => lo + (i : Int)
def okR (i : Int) : Bool := decide (i.natAbs ≤ 1000000000)
def iRange1 (f : FE) : FI := fun ρ st => (f ρ st).bind fun d st1 => match d with
  | .int j => if okR j = true then .ok (.fix ((rng 0 j).map D.int)) st1 else .no
  | _ => .no
def iRange2 (f h : FE) : FI := fun ρ st => (f ρ st).bind fun d st1 => (h ρ st1).bind fun d2 st2 => match d, d2 with
  | .int i, .int j => if okR i = true ∧ okR j = true then .ok (.fix ((rng i j).map D.int)) st2 else .no
  | _, _ => .no
section
variable {X : Cx} {W : WX} {tg e : Expr} {f : FE}
theorem walk_list {a : Addr} {xs : List V} {ds : List D} {C₁ : Ad} {H₁ : Hp} (hq : ∀ H' C', Stay C₁ H₁ C' H' → SqL X.K H' a xs) (hr : Reps X.K H₁ C₁ xs ds) : Walk (gx X) (Itl X.K a) (.fix ds) C₁ H₁ := fun st C H so e i o hn => by
  have q := hq H C e
  have hn : ds[i]? = o := Option.some.inj hn
  cases o with
  | some d =>
    obtain ⟨v, h1, h2⟩ := hr.get hn
    refine ⟨⟨xs, v, q, h1⟩, fun x H' hy => ?_⟩
    obtain ⟨rfl, hy⟩ := hy
    have := hy xs q
    rw [h1] at this
    cases this
    exact ⟨so, .refl, h2.monoS e⟩
  | none => exact ⟨xs, q, by rw [hr.length]; exact List.getElem?_eq_none_iff.mp hn⟩
theorem walk_tup {a : Addr} {xs : List V} {ds : List D} {C₁ : Ad} {H₁ : Hp} (h0 : H₁ a = some (.tup xs)) (ho : C₁.out a) (hr : Reps X.K H₁ C₁ xs ds) : Walk (gx X) (Itt X.K a) (.fix ds) C₁ H₁ := fun st C H so e i o hn => by
  have q : SqT X.K H a xs := SqT.of (e.keep _ _ h0 ho)
  have hn : ds[i]? = o := Option.some.inj hn
  cases o with
  | some d =>
    obtain ⟨v, h1, h2⟩ := hr.get hn
    refine ⟨⟨xs, v, q, h1⟩, fun x H' hy => ?_⟩
    obtain ⟨rfl, hy⟩ := hy
    have := hy xs q
    rw [h1] at this
    cases this
    exact ⟨so, .refl, h2.monoS e⟩
  | none => exact ⟨xs, q, by rw [hr.length]; exact List.getElem?_eq_none_iff.mp hn⟩
theorem walk_str {s : List Nat} {C₁ : Ad} {H₁ : Hp} : Walk (gx X) (Its (sv s)) (.fix (s.map fun c => .str [c])) C₁ H₁ := fun st C H so ex i o hn => by
  have hsz : (sv s).cps.size = s.length := by simp
  have hd : (s.map fun c => D.str [c])[i]? = o := Option.some.inj hn
  rw [List.getElem?_map] at hd
  cases e : s[i]? with
  | none =>
    rw [e] at hd
    cases hd
    show (sv s).cps.size ≤ _
    rw [hsz]
    exact List.getElem?_eq_none_iff.mp e
  | some c =>
    rw [e] at hd
    cases hd
    have hl := (List.getElem?_eq_some_iff.mp e).1
    refine ⟨by show i < (sv s).cps.size; rw [hsz]; exact hl, fun x H' hy => ?_⟩
    obtain ⟨rfl, c', e1, rfl⟩ := hy
    have e2 : (sv s).cps[i]? = s[i]? := by simp
    rw [e2, e] at e1
    cases e1
    exact ⟨so, .refl, .str [c]⟩
theorem walk_cel {a : Addr} {n : Nat} {C₁ : Ad} {H₁ : Hp} (h : C₁.c[n]? = some a) : Walk (gx X) (Itl X.K a) (.cel n) C₁ H₁ := fun st C H so e i o hn => by
  unfold nextS at hn
  simp only at hn
  split at hn
  · rename_i ds hd
    obtain ⟨xs, h1, h2⟩ := so.ok n a _ (e.get h) hd
    have hn : ds[i]? = o := Option.some.inj hn
    cases o with
    | some d =>
      obtain ⟨v, h3, h4⟩ := h2.get hn
      refine ⟨⟨xs, v, SqL.of h1, h3⟩, fun x H' hy => ?_⟩
      obtain ⟨rfl, hy⟩ := hy
      have := hy xs (SqL.of h1)
      rw [h3] at this
      cases this
      exact ⟨so, .refl, h4⟩
    | none => exact ⟨xs, SqL.of h1, by rw [h2.length]; exact List.getElem?_eq_none_iff.mp hn⟩
  · cases hn
theorem PI.or {wi wj : TI} (h : PI X tg e wi) (k : PI X tg e wj) : PI X tg e fun σ H P => wi σ H P ∨ wj σ H P := ⟨fun pins s σ H R I q => by
  rcases q with q | q
  · exact h.run pins s σ H R I q
  · exact k.run pins s σ H R I q⟩
theorem si_list (he : SE X W e f) : SI X W tg e (iList f) := by
  obtain ⟨t, p, s⟩ := he
  refine ⟨_, PI.or (PI.or (pi_str p) (pi_tup p)) (pi_list p), fun ρ σ st H C P rs so q => ?_⟩
  have key : ∀ (R' : VK), (∀ d st1, f ρ st = .ok d st1 → After (gx X) (fun c d H' => W c d σ H') C H (R.ok d st1) fun d _ C' H' => ∀ v, Rep X.K H' C' v d → R' v H') → t σ H R' := fun R' k => by
    refine s ρ σ st H C R' rs so ?_
    unfold iList at q
    cases e : f ρ st with
    | no => rw [e] at q; exact q.elim
    | exc c x st1 => rw [e] at q; exact q
    | ok d st1 => exact k d st1 e
  unfold iList at q
  cases e : f ρ st with
  | no => rw [e] at q; exact q.elim
  | exc c x st1 =>
    refine .inr (key _ fun d st1 e2 => ?_)
    rw [e] at e2; cases e2
  | ok d st1 =>
    rw [e, R.bind_ok] at q
    split at q
    · split at q
      · rename_i n _ ds hn
        refine .inr (key _ fun d st1 e2 => ?_)
        rw [e] at e2; cases e2
        intro C1 H1 so1 e1 v rv
        cases rv with
        | @cel a _ hc =>
          obtain ⟨xs, h1, h2⟩ := so1.ok _ _ _ hc hn
          exact ⟨a, rfl, ⟨xs, SqL.of h1⟩, q C1 H1 so1 e1 _ (walk_cel hc)⟩
      · exact q.elim
    · refine .inl (.inl (key _ fun d st1 e2 => ?_))
      rw [e] at e2; cases e2
      intro C1 H1 so1 e1 v rv
      cases rv
      exact ⟨_, rfl, q C1 H1 so1 e1 _ walk_str⟩
    · refine .inl (.inr (key _ fun d st1 e2 => ?_))
      rw [e] at e2; cases e2
      intro C1 H1 so1 e1 v rv
      obtain ⟨a, xs, rfl, h1, h2, h3⟩ := tup_rep rv
      exact ⟨a, rfl, ⟨xs, SqT.of h1⟩, q C1 H1 so1 e1 _ (walk_tup h1 h2 h3)⟩
    · split at q
      · rename_i hc _ _ _ ds hd
        refine .inr (key _ fun d st1 e2 => ?_)
        rw [e] at e2; cases e2
        intro C1 H1 so1 e1 v rv
        obtain ⟨a, xs, rfl, h1, h2, h3⟩ := itemsR_rep hd so1 rv
        exact ⟨a, rfl, ⟨xs, h1⟩, q C1 H1 so1 e1 _ (walk_list (fun H' C' e' => h3 H' C' e' fun n hn => absurd hn (hc n)) h2)⟩
      · exact q.elim
theorem rng_at {lo : Int} {n i : Nat} {d : D} (h : (((List.range n).map fun (i : Nat) => lo + (i : Int)).map D.int)[i]? = some d) : i < n ∧ d = .int (lo + i) := by
  rw [List.getElem?_map, List.getElem?_map] at h
  cases e : (List.range n)[i]? with
  | none => rw [e] at h; cases h
  | some k =>
    rw [e] at h
    cases h
    obtain ⟨h1, h2⟩ := List.getElem?_eq_some_iff.mp e
    rw [List.length_range] at h1
    rw [List.getElem_range] at h2
    subst h2
    exact ⟨h1, rfl⟩
theorem walk_range {lo : Int} {n : Nat} {C₁ : Ad} {H₁ : Hp} : Walk (gx X) (Itr lo n) (Src.fix (((List.range n).map fun (i : Nat) => lo + (i : Int)).map D.int)) C₁ H₁ := fun st C H so e i o hn => by
  have hn : (((List.range n).map fun (i : Nat) => lo + (i : Int)).map D.int)[i]? = o := Option.some.inj hn
  cases o with
  | some d =>
    obtain ⟨h1, rfl⟩ := rng_at hn
    refine ⟨h1, fun x H' hy => ?_⟩
    obtain ⟨rfl, rfl⟩ := hy
    exact ⟨so, .refl, .int _⟩
  | none =>
    have := List.getElem?_eq_none_iff.mp hn
    show n ≤ _
    simpa using this
theorem si_range1 {p pos : Pos} (hm : X.mg "range" = none) (he : SE X W e f) (hg : Gl X "range" := by rfl) (hs : starEach [e] X.env = [(false, eval e X.env)] := by rfl) (hs2 : starEach (e :: []) X.env = (false, eval e X.env) :: starEach [] X.env := by rfl) :
    SI X W tg (.Call (.Name "range" p) [e] [] pos) (iRange1 f) := by
  obtain ⟨t, pe, s⟩ := he
  refine ⟨_, pi_range1 hg hm (pa_cons pe pa_nil hs2) hs, fun ρ σ st H C P rs so q => ?_⟩
  refine s ρ σ st H C _ rs so (q.bind.imp fun d st1 C1 H1 so1 e1 h1 v rv => ?_)
  cases d with
  | int j =>
    cases rv
    have h1 : After (gx X) _ C1 H1 (if okR j = true then R.ok (Src.fix ((rng 0 j).map D.int)) st1 else R.no) _ := h1
    split at h1
    · rename_i hj
      unfold okR at hj
      simp only [decide_eq_true_eq] at hj
      refine ⟨j, rfl, by omega, by omega, h1.here so1 _ ?_⟩
      have e : j.toNat = (j - 0).toNat := by rw [Int.sub_zero]
      rw [e]
      exact walk_range
    · exact h1.elim
  | _ => exact h1.elim
theorem si_range2 {e2 : Expr} {h : FE} {p pos : Pos} (hm : X.mg "range" = none) (he : SE X W e f) (he2 : SE X W e2 h) (hg : Gl X "range" := by rfl) (hs : starEach [e, e2] X.env = [(false, eval e X.env), (false, eval e2 X.env)] := by rfl) (hs2 : starEach [e2] X.env = [(false, eval e2 X.env)] := by rfl)
    (hs3 : starEach (e :: [e2]) X.env = (false, eval e X.env) :: starEach [e2] X.env := by rfl) (hs4 : starEach (e2 :: []) X.env = (false, eval e2 X.env) :: starEach [] X.env := by rfl) :
    SI X W tg (.Call (.Name "range" p) [e, e2] [] pos) (iRange2 f h) := by
  obtain ⟨t, pe, s⟩ := he
  obtain ⟨t2, pe2, s2⟩ := he2
  refine ⟨_, pi_range2 hg hm (pa_cons pe (pa_cons pe2 pa_nil hs4) hs3) hs hs2, fun ρ σ st H C P rs so q => ?_⟩
  refine s ρ σ st H C _ rs so (q.bind.imp fun d st1 C1 H1 so1 e1 h1 v rv => ?_)
  refine s2 ρ σ st1 H1 C1 _ (rs.mono e1) so1 (h1.bind.imp fun d2 st2 C2 H2 so2 e2 h2 v2 rv2 => ?_)
  split at h2
  · cases rv; cases rv2
    split at h2
    · rename_i i j hij
      unfold okR at hij
      simp only [decide_eq_true_eq] at hij
      exact ⟨i, j, rfl, by omega, h2.here so2 _ walk_range⟩
    · exact h2.elim
  · exact h2.elim
end
end FL

/-! FLj: list comprehensions -/
namespace FL
open PySem PySem.Spec PyProof.Rows L2

/-- the transformer that a function tells -/
def TEf (g : Gx) (W : WX) (f : FE) : TE := fun σ H Q => ∃ ρ st C, Rs g.K H C σ ρ ∧ StoOk g.K H C st ∧ After g (fun c d H' => W c d σ H') C H (f ρ st) (fun d _ C' H' => ∀ v, Rep g.K H' C' v d → Q v H')
def TTf (g : Gx) (W : WX) (f : FT) : TT := fun σ H Q => ∃ ρ st C, Rs g.K H C σ ρ ∧ StoOk g.K H C st ∧ After g (fun c d H' => W c d σ H') C H (f ρ st) (fun b _ _ H' => Q b H')
theorem SE.can {X : Cx} {W : WX} {e : Expr} {f : FE} (h : SE X W e f) : PE X e (TEf (gx X) W f) := by
  obtain ⟨t, p, s⟩ := h
  exact ⟨fun pins sh σ H Q I ⟨ρ, st, C, rs, so, q⟩ => p.run pins sh σ H Q I (s ρ σ st H C Q rs so q)⟩
abbrev W0 : WX := fun _ _ _ _ => False
/-- the tests of a comprehension -/
structure SPs (X : Cx) (W : WX) (ifs : List Expr) (f : FT) : Prop where
  ex : ∃ t, PTs X ifs t ∧ SimT (gx X) W t f
def fYes : FT := fun _ st => .ok true st
section
variable {X : Cx} {W : WX}
theorem sp_nil : SPs X W [] fYes := ⟨_, pts_nil, fun ρ σ st H C Q rs so h => h.here so⟩
theorem sp_one {c : Expr} {f : FT} (h : ST X W c f) : SPs X W [c] f := by
  obtain ⟨t, p, s⟩ := h
  exact ⟨_, pts_one p, s⟩
theorem SPs.can {ifs : List Expr} {f : FT} (h : SPs X W ifs f) : PTs X ifs (TTf (gx X) W f) := by
  obtain ⟨t, p, s⟩ := h
  exact ⟨fun pins sh σ H Q I ⟨ρ, st, C, rs, so, q⟩ => p.run pins sh σ H Q I (s ρ σ st H C Q rs so q)⟩
end
/-- a comprehension's target: the slots vs alone are stored -/
def SimV (g : Gx) (vs : List Nat) (t : TG) (f : FG) : Prop := ∀ (d : D) (v : V) (ρ : En) (σ : L2.St) (st : Sto) (H : Hp) (C : Ad) (Q : L2.St → Hp → Prop), Rep g.K H C v d → Rs g.K H C σ ρ → StoOk g.K H C st →
  After g (fun _ _ _ => False) C H (f d ρ st) (fun ρ' _ C' H' => ∀ σ', Rs g.K H' C' σ' ρ' → L2.wipe σ' vs = L2.wipe σ vs → Q σ' H') → t v σ H Q
def SimVs (g : Gx) (vs : List Nat) (t : TGs) (f : FGs) : Prop := ∀ (ds : List D) (us : List V) (ρ : En) (σ : L2.St) (st : Sto) (H : Hp) (C : Ad) (Q : L2.St → Hp → Prop), Reps g.K H C us ds → Rs g.K H C σ ρ → StoOk g.K H C st →
  After g (fun _ _ _ => False) C H (f ds ρ st) (fun ρ' _ C' H' => ∀ σ', Rs g.K H' C' σ' ρ' → L2.wipe σ' vs = L2.wipe σ vs → Q σ' H') → t us σ H Q
structure SV (X : Cx) (vs : List Nat) (e : Expr) (f : FG) : Prop where
  ex : ∃ t, PG X e t ∧ SimV (gx X) vs t f
structure SVs (X : Cx) (vs : List Nat) (es : List Expr) (f : FGs) : Prop where
  ex : ∃ t, PGs X es t ∧ SimVs (gx X) vs t f
def TGf (g : Gx) (vs : List Nat) (f : FG) : TG := fun v σ H Q => ∃ d ρ st C, Rep g.K H C v d ∧ Rs g.K H C σ ρ ∧ StoOk g.K H C st ∧ After g (fun _ _ _ => False) C H (f d ρ st) (fun ρ' _ C' H' => ∀ σ', Rs g.K H' C' σ' ρ' → L2.wipe σ' vs = L2.wipe σ vs → Q σ' H')
theorem wipe_set {i : Nat} {o : Option V} : ∀ {vs : List Nat} {σ : L2.St}, i ∈ vs → L2.wipe (σ.set i o) vs = L2.wipe σ vs
  | v :: vs, σ, h => by
    unfold L2.wipe
    by_cases e : i = v
    · subst e
      by_cases hm : i ∈ vs
      · rw [wipe_set hm]
      · have : ∀ (vs : List Nat) (σ : L2.St), (L2.wipe (σ.set i o) vs).set i none = (L2.wipe σ vs).set i none := by
          intro vs
          induction vs with
          | nil => intro σ; simp [L2.wipe]
          | cons w ws ih =>
            intro σ
            unfold L2.wipe
            by_cases hw : w = i
            · subst hw
              simp only [List.set_set]
              exact ih σ
            · rw [List.set_comm _ _ hw, ih, List.set_comm _ _ (Ne.symm hw)]
        exact this vs σ
    · have hm : i ∈ vs := by
        rcases List.mem_cons.mp h with q | q
        · exact absurd q e
        · exact q
      rw [wipe_set hm]
section
variable {X : Cx} {vs : List Nat} {e : Expr} {es : List Expr} {pos : Pos}
theorem SV.can {f : FG} (h : SV X vs e f) : PG X e (TGf (gx X) vs f) := by
  obtain ⟨t, p, s⟩ := h
  exact ⟨fun pins sh σ H v u Q I r ⟨d, ρ, st, C, rv, rs, so, q⟩ => p.run pins sh σ H v u Q I r (s d v ρ σ st H C Q rv rs so q)⟩
theorem sv_name {i : Nat} {x : Str} (hN : X.N.Nodup) (hi : X.N[i]? = some x := by rfl) (hv : i ∈ vs := by decide) (hx : Loc X.env.scope x := by first | exact Or.inl rfl | exact Or.inr rfl) (hf : X.fn x = true ∨ X.env.scope.names.lookup x = some .local := by first | exact .inl rfl | exact .inr rfl | assumption) :
    SV X vs (.Name x pos) (hName i) := ⟨_, pg_name hN hi hx hf, fun d v ρ σ st H C Q rv rs so q => q.here so _ (rs.set rv) (wipe_set hv)⟩
theorem svs_nil : SVs X vs [] hNil := ⟨_, pgs_nil, fun ds us ρ σ st H C Q rv rs so q => by
  cases ds with
  | nil => cases rv; exact ⟨rfl, q.here so _ rs rfl⟩
  | cons d ds => exact q.elim⟩
theorem svs_cons {f : FG} {r : FGs} (h1 : SV X vs e f) (h2 : SVs X vs es r) (hs : (assignEach (e :: es) X.env).map (·.2) = assign e X.env :: (assignEach es X.env).map (·.2) := by rfl) : SVs X vs (e :: es) (hCons f r) := by
  obtain ⟨t, p, s⟩ := h1
  obtain ⟨u, p2, s2⟩ := h2
  refine ⟨_, pgs_cons p p2 hs, fun ds us ρ σ st H C Q rv rs so q => ?_⟩
  cases ds with
  | nil => exact q.elim
  | cons d ds =>
    cases rv with
    | cons r1 r2 =>
      refine ⟨_, _, rfl, s d _ ρ σ st H C _ r1 rs so ?_⟩
      have q := After.bind (r := (f d ρ st).quiet) (k := fun ρ1 st1 => r ds ρ1 st1) q
      exact q.quiet.imp fun ρ1 st1 C1 H1 so1 e1 h1 σ1 rs1 w1 => s2 ds _ ρ1 σ1 st1 H1 C1 Q (r2.mono e1) rs1 so1 (h1.imp fun ρ2 st2 C2 H2 so2 e2 h2 σ2 rs2 w2 => h2 σ2 rs2 (w2.trans w1))
theorem sv_tup {k n : Nat} {f : FGs} (hc : X.calm = true) (h : SVs X vs es f) (hn : (assignEach es X.env).length = n := by rfl) (hst : (assignEach es X.env).findIdx? (·.1) = none := by rfl) : SV X vs (.Tuple es k pos) (hTup n f) := by
  obtain ⟨t, p, s⟩ := h
  refine ⟨_, pg_tup hc p hn hst, fun d v ρ σ st H C Q rv rs so q => ?_⟩
  unfold hTup at q
  split at q
  · split at q
    · rename_i hl
      obtain ⟨a, xs, rfl, h1, _, h2⟩ := tup_rep rv
      exact ⟨a, xs, rfl, SqT.of h1, by rw [h2.length]; exact hl, s _ _ ρ σ st H C Q h2 rs so q.quiet⟩
    · exact q.elim
  · exact q.elim
end

theorem wipe_idem (σ : L2.St) : ∀ vs : List Nat, L2.wipe (L2.wipe σ vs) vs = L2.wipe σ vs := fun vs => by
  have h : ∀ us : List Nat, (∀ i ∈ us, i ∈ vs) → L2.wipe (L2.wipe σ us) vs = L2.wipe σ vs := by
    intro us
    induction us with
    | nil => intro _; rfl
    | cons u us ih =>
      intro hu
      show L2.wipe ((L2.wipe σ us).set u none) vs = _
      rw [wipe_set (hu u List.mem_cons_self)]
      exact ih fun i hi => hu i (List.mem_cons_of_mem _ hi)
  exact h vs fun _ h => h
/-! ### the loop -/
/-- one turn -/
def turnL (h : FG) (t : FT) (e : FE) (vs : List Nat) (ρ : En) (d : D) (st : Sto) : R (Option D) :=
  (h d (wipeE ρ vs) st).quiet.bind fun ρ2 st2 => (t ρ2 st2).quiet.bind fun b st3 => if b = true then (e ρ2 st3).quiet.bind fun y st4 => .ok (some y) st4 else .ok none st3
def consO (o : Option D) (l : List D) : List D := match o with
  | some y => y :: l
  | none => l
def lcN (s : Src) (T : D → Sto → R (Option D)) : Nat → Nat → Sto → R (List D)
  | 0, _, _ => .no
  | m + 1, i, st => match nextS s st i with
    | none => .no
    | some none => .ok [] st
    | some (some d) => (T d st).bind fun o st1 => (lcN s T m (i + 1) st1).bind fun l st2 => .ok (consO o l) st2
def lcL (T : D → Sto → R (Option D)) : List D → Sto → R (List D)
  | [], st => .ok [] st
  | d :: ds, st => (T d st).bind fun o st1 => (lcL T ds st1).bind fun l st2 => .ok (consO o l) st2
theorem lcN_fix (T : D → Sto → R (Option D)) (ds : List D) : ∀ (m i : Nat) (st : Sto), i + m = ds.length → lcN (.fix ds) T (m + 1) i st = lcL T (ds.drop i) st
  | 0, i, st, h => by
    have e : ds[i]? = none := List.getElem?_eq_none_iff.mpr (by omega)
    rw [List.drop_eq_nil_of_le (by omega)]
    simp [lcN, nextS, e, lcL]
  | m + 1, i, st, h => by
    have hi : i < ds.length := by omega
    rw [List.drop_eq_getElem_cons hi]
    have h1 : lcN (.fix ds) T (m + 1 + 1) i st = (T ds[i] st).bind fun o st1 => (lcN (.fix ds) T (m + 1) (i + 1) st1).bind fun l st2 => .ok (consO o l) st2 := by
      show (match some ds[i]? with
        | none => R.no
        | some none => R.ok [] st
        | some (some d) => (T d st).bind fun o st1 => (lcN (.fix ds) T (m + 1) (i + 1) st1).bind fun l st2 => R.ok (consO o l) st2) = _
      rw [List.getElem?_eq_getElem hi]
    rw [h1, lcL]
    congr 1
    funext o st1
    rw [lcN_fix T ds m (i + 1) st1 (by omega)]
def runL (s : Src) (T : D → Sto → R (Option D)) (st : Sto) : R (List D) := match s with
  | .fix ds => lcL T ds st
  | s => lcN s T (srcLen s st + 1) 0 st
theorem runL_N (s : Src) (T : D → Sto → R (Option D)) (st : Sto) : ∃ m, runL s T st = lcN s T m 0 st := by
  cases s with
  | fix ds => exact ⟨ds.length + 1, by rw [lcN_fix T ds ds.length 0 st (by omega)]; rfl⟩
  | cel n => exact ⟨_, rfl⟩
  | zip a b => exact ⟨_, rfl⟩
/-- the list, as a tree or in a cell -/
def endL (cell : Bool) (ys : List D) (st : Sto) : R D := if ys.length ≤ lim then (if cell = true then .ok (.cel st.length) (st ++ [.lst ys]) else .ok (.lst ys) st) else .no
def fLc (cell : Bool) (src : FI) (h : FG) (t : FT) (e : FE) (vs : List Nat) : FE := fun ρ st => (src ρ st).bind fun s st1 => (runL s (turnL h t e vs ρ) st1).bind fun ys st2 => endL cell ys st2
theorem R.quiet_ok {α : Type} {r : R α} {a : α} {st : Sto} (h : r.quiet = .ok a st) : r = .ok a st := by
  cases r <;> first | exact h | cases h
theorem R.bind_eq_ok {α β : Type} {r : R α} {k : α → Sto → R β} {b : β} {st : Sto} (h : r.bind k = .ok b st) : ∃ a st1, r = .ok a st1 ∧ k a st1 = .ok b st := by
  cases r with
  | no => cases h
  | exc c x s => cases h
  | ok a st1 => exact ⟨a, st1, rfl, h⟩
theorem consO_len (o : Option D) (l : List D) : l.length ≤ (consO o l).length := by
  cases o with
  | none => exact Nat.le_refl _
  | some y => exact Nat.le_succ _
section
variable {X : Cx} {W : WX}
theorem sim_lc {cell : Bool} {wi : TI} {tg : TG} {tt : TT} {te : TE} {src : FI} {h : FG} {t : FT} {e : FE} {vs : List Nat} (h0 : SimI (gx X) W wi src) (h1 : SimV (gx X) vs tg h) (h2 : SimT (gx X) W0 tt t) (h3 : SimE (gx X) W0 te e) :
    SimE (gx X) W (tLc wi tg tt te vs) (fLc cell src h t e vs) := fun ρ σ st H C Q rs so q => by
  refine h0 ρ σ st H C _ rs so (q.bind.imp fun s st1 C1 H1 so1 e1 q1 J wk => ?_)
  have rs1 := rs.mono e1
  have tot : ∃ ys st2, runL s (turnL h t e vs ρ) st1 = .ok ys st2 := by
    cases z : runL s (turnL h t e vs ρ) st1 with
    | ok ys st2 => exact ⟨ys, st2, rfl⟩
    | no => rw [z] at q1; exact q1.elim
    | exc c x st2 =>
      exfalso
      obtain ⟨m, hm⟩ := runL_N s (turnL h t e vs ρ) st1
      rw [hm] at z
      have nx : ∀ (m i : Nat) (st : Sto), lcN s (turnL h t e vs ρ) m i st ≠ .exc c x st2 := by
        intro m
        induction m with
        | zero => intro i st z; cases z
        | succ m ih =>
          intro i st z
          rw [lcN] at z
          split at z
          · cases z
          · cases z
          · rename_i d _
            have tn : ∀ c x st', turnL h t e vs ρ d st ≠ .exc c x st' := by
              intro c x st' z
              unfold turnL at z
              cases a1 : h d (wipeE ρ vs) st with
              | no => rw [a1] at z; cases z
              | exc c x st => rw [a1] at z; cases z
              | ok ρ2 s2 =>
                rw [a1] at z
                simp only [R.quiet, R.bind_ok] at z
                cases a2 : t ρ2 s2 with
                | no => rw [a2] at z; cases z
                | exc c x st => rw [a2] at z; cases z
                | ok b s3 =>
                  rw [a2] at z
                  simp only [R.bind_ok] at z
                  split at z
                  · cases a3 : e ρ2 s3 with
                    | no => rw [a3] at z; cases z
                    | exc c x st => rw [a3] at z; cases z
                    | ok y s4 => rw [a3] at z; cases z
                  · cases z
            cases a1 : turnL h t e vs ρ d st with
            | no => rw [a1] at z; cases z
            | exc c x st => exact tn _ _ _ a1
            | ok o s1 =>
              rw [a1, R.bind_ok] at z
              cases a2 : lcN s (turnL h t e vs ρ) m (i + 1) s1 with
              | no => rw [a2] at z; cases z
              | exc c' x' st' => rw [a2] at z; cases z; exact ih _ _ a2
              | ok l s2 => rw [a2] at z; cases z
      exact nx m 0 st1 z
  obtain ⟨ysA, stA, hrun⟩ := tot
  rw [hrun, R.bind_ok] at q1
  unfold endL at q1
  split at q1
  case isFalse => exact q1.elim
  rename_i hlim
  obtain ⟨m0, hm0⟩ := runL_N s (turnL h t e vs ρ) st1
  rw [hm0] at hrun
  intro D hD
  let Wf : Nat → Nat → Hp → Prop := fun i m H => ∃ st C acc accD ys, StoOk X.K H (C.hide D) st ∧ Ext C1 H1 C H ∧ D ∉ C.c ∧ H D = some (.lst acc) ∧ Reps X.K H (C.hide D) acc accD ∧ (∀ ds, s = .fix ds → i ≤ ds.length) ∧ lcN s (turnL h t e vs ρ) m i st = .ok ys stA ∧ accD ++ ys = ysA
  have hDp : D ∉ C1.p := (so1.fresh hD).2
  refine ⟨Wf, ⟨m0, st1, C1, [], [], ysA, so1.hide hD, Ext.tree hD, (so1.fresh hD).1, upd_same, .nil, fun _ _ => Nat.zero_le _, hrun, rfl⟩, ?_⟩
  rintro i m H2 ⟨st2, C2, acc, accD, ys, so2, e2, hD2, hA, rA, hi, hl, hcat⟩
  have soS := so2.show
  cases m with
  | zero => cases hl
  | succ m =>
    rw [lcN] at hl
    split at hl
    · cases hl
    · rename_i hn
      cases hl
      have nw := wk _ C2 H2 soS e2.stay i none hn
      refine .inl ⟨nw, ?_⟩
      rw [List.append_nil] at hcat
      subst hcat
      have rA' := rA.monoS Stay.show
      have hD3 : D ∉ C2.p := by rw [e2.priv]; exact hDp
      split at q1
      · have ex : Ext C1 H1 (C2.add D) H2 := ⟨e2.pre.trans (List.prefix_append _ _), e2.priv, fun a ha => by
          rcases List.mem_append.mp ha with z | z
          · exact e2.new a z
          · rw [List.mem_singleton.mp z]; exact .inr hD, e2.keep, e2.frz, e2.trk⟩
        refine q1 (C2.add D) H2 (so2.open hD2 hD3 hA rA) ex _ (.cel ?_)
        show (C2.c ++ [D])[stA.length]? = some D
        have l : C2.c.length = stA.length := so2.len
        rw [← l]; simp
      · exact q1 C2 H2 soS e2 _ (.lst hA ⟨hD2, hD3⟩ rA')
    · rename_i d hn
      have sH : Stay C1 H1 (C2.hide D) H2 := ⟨e2.pre, fun a ho hn => by
        have z := e2.stay.nt a ho hn
        refine ⟨z.1, fun hc => ?_⟩
        rcases List.mem_cons.mp hc with q | q
        · rw [q] at hn; exact hn hD
        · exact z.2 q, e2.stay.keep⟩
      obtain ⟨w1, w2⟩ := wk st2 (C2.hide D) H2 so2 sH i (some d) hn
      obtain ⟨o, st3, hT, hl⟩ := R.bind_eq_ok hl
      obtain ⟨l, st4, hl', hfin⟩ := R.bind_eq_ok hl
      cases hfin
      have hi' : ∀ ds, s = .fix ds → i + 1 ≤ ds.length := fun ds es => by
        subst es
        have hn : some ds[i]? = some (some d) := hn
        exact (List.getElem?_eq_some_iff.mp (Option.some.inj hn)).1
      -- behind the turn
      have fin : ∀ (C6 : Ad) (H6 : Hp), StoOk X.K H6 C6 st3 → Ext (C2.hide D) H2 C6 H6 → H6 D = some (.lst acc) ∧ (o = none → Wf (i + 1) m H6) ∧ ∀ y v, o = some y → Rep X.K H6 C6 v y → acc.length < sizeLine ∧ Wf (i + 1) m (upd H6 D (.lst (acc ++ [v]))) := fun C6 H6 so6 e6 => by
        have hA6 : H6 D = some (.lst acc) := e6.keep _ _ hA hD2
        have ep : C6.p = D :: C2.p := e6.priv
        let C3 : Ad := ⟨C6.c, C2.p⟩
        have eC : C6 = C3.hide D := by
          show C6 = ⟨C6.c, D :: C2.p⟩
          rw [← ep]
        have e26 : Ext C2 H2 C3 H6 := ⟨e6.pre, rfl, e6.new, e6.keep, e6.frz, e6.trk⟩
        have e16 : Ext C1 H1 C3 H6 := e2.trans e26
        have hD6 : D ∉ C3.c := fun hc => by
          rcases e6.new D hc with z | z
          · exact hD2 z
          · rw [hA] at z; cases z
        have rA6 := rA.mono e6
        refine ⟨hA6, fun ho => ?_, fun y v ho rv => ?_⟩
        · subst ho
          exact ⟨st3, C3, acc, accD, l, eC ▸ so6, e16, hD6, hA6, eC ▸ rA6, hi', hl', hcat⟩
        · subst ho
          have hlen : acc.length = accD.length := rA.length
          have hc2 : accD ++ (y :: l) = ysA := hcat
          have hl2 : accD.length + (l.length + 1) ≤ lim := by
            rw [← hc2, List.length_append, List.length_cons] at hlim
            exact hlim
          refine ⟨?_, st3, C3, acc ++ [v], accD ++ [y], l, ?_, ?_, hD6, upd_same, ?_, hi', hl', ?_⟩
          · have hz : lim < sizeLine := by rw [sizeLine_eq]; decide
            omega
          · have hm : D ∈ C6.p := by rw [ep]; exact List.mem_cons_self
            exact eC ▸ so6.hid hm
          · refine ⟨e16.pre, e16.priv, e16.new, fun a u ha hc => ?_, fun a u ha hc => ?_, fun a u ha => ?_⟩
            · rw [upd_ne (ne_of_none ha hD)]; exact e16.keep a u ha hc
            · rw [upd_ne (ne_of_none ha hD)]; exact e16.frz a u ha hc
            · rw [upd_ne (ne_of_none ha hD)]; exact e16.trk a u ha
          · have hm : D ∈ C6.p := by rw [ep]; exact List.mem_cons_self
            exact eC ▸ (rA6.app (.cons rv .nil)).monoS (Stay.hid hm)
          · rw [List.append_assoc]; exact hc2
      refine .inr ⟨w1, fun H' => Wf (i + 1) m H', fun H' hw => ⟨m, Nat.lt_succ_self m, hw⟩, fun x H3 hy => ?_⟩
      obtain ⟨so3, e3, rx⟩ := w2 x H3 hy
      have rs3 : Rs X.K H3 (C2.hide D) (L2.wipe σ vs) (wipeE ρ vs) := ((rs1.wipe vs).monoS sH).mono e3
      unfold turnL at hT
      obtain ⟨ρ2, sa, hh, hT⟩ := R.bind_eq_ok hT
      obtain ⟨b, sb, ht, hT⟩ := R.bind_eq_ok hT
      have hh := R.quiet_ok hh
      have ht := R.quiet_ok ht
      refine h1 d x (wipeE ρ vs) (L2.wipe σ vs) st2 H3 (C2.hide D) _ rx rs3 so3 ?_
      rw [hh]
      intro C4 H4 so4 e4 σ4 rs4 w4
      refine ⟨w4.trans (wipe_idem σ vs), ?_⟩
      refine h2 ρ2 σ4 sa H4 C4 _ rs4 so4 ?_
      rw [ht]
      intro C5 H5 so5 e5
      cases b with
      | true =>
        rw [if_pos rfl] at hT
        obtain ⟨y, sc, he, hT⟩ := R.bind_eq_ok hT
        have he := R.quiet_ok he
        cases hT
        refine iteT (h3 ρ2 σ4 sb H5 C5 _ (rs4.mono e5) so5 ?_)
        rw [he]
        intro C6 H6 so6 e6 v rv
        obtain ⟨f1, _, f2⟩ := fin C6 H6 so6 (((e3.trans e4).trans e5).trans e6)
        obtain ⟨f3, f4⟩ := f2 y v rfl rv
        exact ⟨acc, f1, f3, f4⟩
      | false =>
        rw [if_neg Bool.false_ne_true] at hT
        cases hT
        exact iteF ((fin C5 H5 so5 ((e3.trans e4).trans e5)).2.1 rfl)
/-- [elt for tg in iter if ..] -/
theorem se_lc (cell : Bool) {elt tg iter : Expr} {ifs : List Expr} {scope : Scope} {own : List (Str × Nat)} {pos : Pos} {src : FI} {h : FG} {t : FT} {e : FE} (hc : X.calm = true) (hN : X.N.Nodup) (hi : SI X W tg iter src) (ok : BlkOk X.N X.env.scope scope own)
    (hg : ∀ (s : Shared) (H : Hp) (C : Addr) (cl : List (Str × Addr)) (fp : List Addr), SV (X.blk s H scope (compEnvC scope cl C X.env) fp) (own.map (·.2)) tg h)
    (ht : ∀ (s : Shared) (H : Hp) (C : Addr) (cl : List (Str × Addr)) (fp : List Addr), SPs (X.blk s H scope (compEnvC scope cl C X.env) fp) W0 ifs t)
    (he : ∀ (s : Shared) (H : Hp) (C : Addr) (cl : List (Str × Addr)) (fp : List Addr), SE (X.blk s H scope (compEnvC scope cl C X.env) fp) W0 elt e) (hs : ∀ x, foldedSetIterable iter X.env x = pure x := by intro _; rfl) :
    SE X W (.ListComp elt [⟨tg, iter, ifs, 0⟩] scope pos) (fLc cell src h t e (own.map (·.2))) := by
  obtain ⟨wi, p0, s0⟩ := hi
  exact ⟨_, pe_lc (g := TGf (gx X) (own.map (·.2)) h) (tt := TTf (gx X) W0 t) (te := TEf (gx X) W0 e) hc hN p0 ok (fun s H C cl fp => (hg s H C cl fp).can) (fun s H C cl fp => (ht s H C cl fp).can) (fun s H C cl fp => (he s H C cl fp).can) hs,
    sim_lc s0 (fun d v ρ σ st H C Q rv rs so q => ⟨d, ρ, st, C, rv, rs, so, q⟩) (fun ρ σ st H C Q rs so q => ⟨ρ, st, C, rs, so, q⟩) (fun ρ σ st H C Q rs so q => ⟨ρ, st, C, rs, so, q⟩)⟩
/-- name = [..] -/
theorem ss_setLc (cell : Bool) {i : Nat} {y : Str} {py : Pos} {elt tg iter : Expr} {ifs : List Expr} {scope : Scope} {own : List (Str × Nat)} {pos spos : Pos} {src : FI} {h : FG} {t : FT} {e : FE} (hc : X.calm = true) (hN : X.N.Nodup)
    (hi : SI X W tg iter src) (ok : BlkOk X.N X.env.scope scope own)
    (hg : ∀ (s : Shared) (H : Hp) (C : Addr) (cl : List (Str × Addr)) (fp : List Addr), SV (X.blk s H scope (compEnvC scope cl C X.env) fp) (own.map (·.2)) tg h)
    (ht : ∀ (s : Shared) (H : Hp) (C : Addr) (cl : List (Str × Addr)) (fp : List Addr), SPs (X.blk s H scope (compEnvC scope cl C X.env) fp) W0 ifs t)
    (he : ∀ (s : Shared) (H : Hp) (C : Addr) (cl : List (Str × Addr)) (fp : List Addr), SE (X.blk s H scope (compEnvC scope cl C X.env) fp) W0 elt e)
    (hsw : swapsWith (.ListComp elt [⟨tg, iter, ifs, 0⟩] scope pos) (some (.Name y py)) spos.line X.env = pure true := by exact sw_true rfl rfl rfl (by decide +kernel)) (hs : ∀ x, foldedSetIterable iter X.env x = pure x := by intro _; rfl)
    (hy : X.N[i]? = some y := by rfl) (hyl : X.env.scope.names.lookup y = some .local := by rfl) :
    SS X W (.Assign [.Name y py] (.ListComp elt [⟨tg, iter, ifs, 0⟩] scope pos) spos) (fAsg (fLc cell src h t e (own.map (·.2))) (hName i)) := by
  obtain ⟨wi, p0, s0⟩ := hi
  exact ⟨_, ps_setLc (g := TGf (gx X) (own.map (·.2)) h) (tt := TTf (gx X) W0 t) (te := TEf (gx X) W0 e) hc hN hy hyl hsw p0 ok (fun s H C cl fp => (hg s H C cl fp).can) (fun s H C cl fp => (ht s H C cl fp).can) (fun s H C cl fp => (he s H C cl fp).can) hs,
    sim_asg (sim_lc s0 (fun d v ρ σ st H C Q rv rs so q => ⟨d, ρ, st, C, rv, rs, so, q⟩) (fun ρ σ st H C Q rs so q => ⟨ρ, st, C, rs, so, q⟩) (fun ρ σ st H C Q rs so q => ⟨ρ, st, C, rs, so, q⟩))
      fun d v ρ σ st H C Q rv rs so q => q.here so _ (rs.set rv)⟩
end
end FL

/-! FLk: defs: what a body's store leaves (cells that nobody holds any more become trees), the promise, the calls -/
namespace FL
open PySem PySem.Spec PyProof.Rows L2

/-! ### closed data: all cells below n -/
mutual
inductive Cl (n : Nat) : D → Prop
  | non : Cl n .non
  | bl (b : Bool) : Cl n (.bl b)
  | int (i : Int) : Cl n (.int i)
  | str (s : List Nat) : Cl n (.str s)
  | val (v : V) : Cl n (.val v)
  | ty (t : Ty) : Cl n (.ty t)
  | lst {ds : List D} : Cls n ds → Cl n (.lst ds)
  | tup {ds : List D} : Cls n ds → Cl n (.tup ds)
  | ro {ds : List D} : Cls n ds → Cl n (.ro ds)
  | dct {es : List (D × D)} : Clk n es → Cl n (.dct es)
  | cel {k : Nat} : k < n → Cl n (.cel k)
inductive Cls (n : Nat) : List D → Prop
  | nil : Cls n []
  | cons {d : D} {ds : List D} : Cl n d → Cls n ds → Cls n (d :: ds)
inductive Clk (n : Nat) : List (D × D) → Prop
  | nil : Clk n []
  | cons {q d : D} {es : List (D × D)} : Cl n d → Clk n es → Clk n ((q, d) :: es)
end
section
variable {K : PySem.W.Frag} {H : Hp} {C : Ad}
mutual
theorem Rep.cl : ∀ {d : D} {v : V}, Rep K H C v d → Cl C.c.length d
  | .non, _, _ => .non
  | .bl b, _, _ => .bl b
  | .int i, _, _ => .int i
  | .str s, _, _ => .str s
  | .val v, _, _ => .val v
  | .ty t, _, _ => .ty t
  | .lst ds, _, h => by
    cases h with
    | lst _ _ r => exact .lst (Reps.cl r)
  | .tup ds, _, h => by
    cases h with
    | tup _ _ r => exact .tup (Reps.cl r)
  | .ro ds, _, h => by
    cases h with
    | ro _ _ _ r => exact .ro (Reps.cl r)
    | roK _ r => exact .ro (Reps.cl r)
  | .dct es, _, h => by
    cases h with
    | dct _ _ _ r => exact .dct (RepKs.cl r)
  | .cel k, _, h => by
    cases h with
    | cel e => exact .cel (List.getElem?_eq_some_iff.mp e).1
theorem Reps.cl : ∀ {ds : List D} {vs : List V}, Reps K H C vs ds → Cls C.c.length ds
  | [], _, _ => .nil
  | d :: ds, _, h => by
    cases h with
    | cons h1 h2 => exact .cons (Rep.cl h1) (Reps.cl h2)
theorem RepKs.cl : ∀ {es : List (D × D)} {kvs : List (Key × V)}, RepKs K H C kvs es → Clk C.c.length es
  | [], _, _ => .nil
  | (q, d) :: es, _, h => by
    cases h with
    | cons h0 h1 h2 => exact .cons (Rep.cl h1) (RepKs.cl h2)
end
end

/-! ### cells become trees -/
mutual
/-- in the store st the data d is, with the cells from n on opened, e -/
inductive Rsv (st : Sto) (n : Nat) : D → D → Prop
  | same {d : D} : Cl n d → Rsv st n d d
  | lst {ds es : List D} : Rsvs st n ds es → Rsv st n (.lst ds) (.lst es)
  | tup {ds es : List D} : Rsvs st n ds es → Rsv st n (.tup ds) (.tup es)
  | dct {ds es : List (D × D)} : Rsvk st n ds es → Rsv st n (.dct ds) (.dct es)
  | cell {k : Nat} {ds es : List D} : n ≤ k → st[k]? = some (.lst ds) → Rsvs st n ds es → Rsv st n (.cel k) (.lst es)
  | celd {k : Nat} {ds es : List (D × D)} : n ≤ k → st[k]? = some (.dct ds) → Rsvk st n ds es → Rsv st n (.cel k) (.dct es)
inductive Rsvs (st : Sto) (n : Nat) : List D → List D → Prop
  | nil : Rsvs st n [] []
  | cons {d e : D} {ds es : List D} : Rsv st n d e → Rsvs st n ds es → Rsvs st n (d :: ds) (e :: es)
inductive Rsvk (st : Sto) (n : Nat) : List (D × D) → List (D × D) → Prop
  | nil : Rsvk st n [] []
  | cons {q d e : D} {ds es : List (D × D)} : Rsv st n d e → Rsvk st n ds es → Rsvk st n ((q, d) :: ds) ((q, e) :: es)
end
def RsvC (st : Sto) (n : Nat) : Co → Co → Prop
  | .lst ds, .lst es => Rsvs st n ds es
  | .dct ds, .dct es => Rsvk st n ds es
  | .lck ds, .lck es => Rsvk st n ds es
  | _, _ => False
section
variable {K : PySem.W.Frag} {H : Hp} {C : Ad} {st : Sto} {n : Nat}
/-- the first n cells alone -/
def Ad.cut (C : Ad) (n : Nat) : Ad := ⟨C.c.take n, C.p⟩
theorem Ad.cut_out {a : Addr} (h : C.out a) : (C.cut n).out a := ⟨fun q => h.1 (List.mem_of_mem_take q), h.2⟩
mutual
theorem Rep.shrink : ∀ {d : D} {v : V}, Rep K H C v d → Cl n d → Rep K H (C.cut n) v d
  | .non, _, h, _ => by cases h; exact .non
  | .bl b, _, h, _ => by cases h; exact .bl b
  | .int i, _, h, _ => by cases h; exact .int i
  | .str s, _, h, _ => by cases h; exact .str s
  | .val v, _, h, _ => by cases h; exact .val v
  | .ty t, _, h, _ => by cases h; exact .ty t
  | .lst ds, _, h, c => by
    cases h with
    | lst h1 h2 r =>
      cases c with
      | lst c => exact .lst h1 (Ad.cut_out h2) (Reps.shrink r c)
  | .tup ds, _, h, c => by
    cases h with
    | tup h1 h2 r =>
      cases c with
      | tup c => exact .tup h1 (Ad.cut_out h2) (Reps.shrink r c)
  | .ro ds, _, h, c => by
    cases c with
    | ro c =>
      cases h with
      | ro h1 h2 h3 r => exact .ro h1 h2 (Ad.cut_out h3) (Reps.shrink r c)
      | roK h1 r => exact .roK h1 (Reps.shrink r c)
  | .dct es, _, h, c => by
    cases h with
    | dct h1 h2 h3 r =>
      cases c with
      | dct c => exact .dct h1 h2 (Ad.cut_out h3) (RepKs.shrink r c)
  | .cel k, _, h, c => by
    cases h with
    | cel e =>
      cases c with
      | cel c =>
        refine .cel ?_
        show (C.c.take n)[k]? = some _
        rw [List.getElem?_take_of_lt c]
        exact e
theorem Reps.shrink : ∀ {ds : List D} {vs : List V}, Reps K H C vs ds → Cls n ds → Reps K H (C.cut n) vs ds
  | [], _, h, _ => by cases h; exact .nil
  | d :: ds, _, h, c => by
    cases h with
    | cons h1 h2 =>
      cases c with
      | cons c1 c2 => exact .cons (Rep.shrink h1 c1) (Reps.shrink h2 c2)
theorem RepKs.shrink : ∀ {es : List (D × D)} {kvs : List (Key × V)}, RepKs K H C kvs es → Clk n es → RepKs K H (C.cut n) kvs es
  | [], _, h, _ => by cases h; exact .nil
  | (q, d) :: es, _, h, c => by
    cases h with
    | cons h0 h1 h2 =>
      cases c with
      | cons c1 c2 => exact .cons h0 (Rep.shrink h1 c1) (RepKs.shrink h2 c2)
end
theorem cut_not (so : StoOk K H C st) {k : Nat} {a : Addr} (h : C.c[k]? = some a) (hk : n ≤ k) : (C.cut n).out a := by
  refine ⟨fun q => ?_, fun q => so.ap a q (List.mem_of_getElem? h)⟩
  obtain ⟨j, hj, e⟩ := List.mem_iff_getElem.mp (show a ∈ C.c.take n from q)
  have hl : j < n := Nat.lt_of_lt_of_le hj (List.length_take_le _ _)
  have e1 : C.c[j]? = some a := by
    rw [← List.getElem?_take_of_lt hl, List.getElem?_eq_getElem hj, e]
  have := nodup_at so.nd e1 h
  omega
mutual
theorem Rsv.rep (so : StoOk K H C st) : ∀ {d e : D} {v : V}, Rsv st n d e → Rep K H C v d → Rep K H (C.cut n) v e
  | _, _, _, .same c, r => r.shrink c
  | _, _, _, .lst q, r => by
    cases r with
    | lst h1 h2 r => exact .lst h1 (Ad.cut_out h2) (Rsvs.rep so q r)
  | _, _, _, .tup q, r => by
    cases r with
    | tup h1 h2 r => exact .tup h1 (Ad.cut_out h2) (Rsvs.rep so q r)
  | _, _, _, .dct q, r => by
    cases r with
    | dct h1 h2 h3 r => exact .dct h1 h2 (Ad.cut_out h3) (Rsvk.rep so q r)
  | _, _, _, .cell hk hs q, r => by
    cases r with
    | cel e =>
      obtain ⟨xs, h1, h2⟩ := so.ok _ _ _ e hs
      exact .lst h1 (cut_not so e hk) (Rsvs.rep so q h2)
  | _, _, _, .celd hk hs q, r => by
    cases r with
    | cel e =>
      obtain ⟨xs, h1, h2⟩ := so.ok _ _ _ e hs
      exact .dct h1 (.inl rfl) (cut_not so e hk) (Rsvk.rep so q h2)
theorem Rsvs.rep (so : StoOk K H C st) : ∀ {ds es : List D} {vs : List V}, Rsvs st n ds es → Reps K H C vs ds → Reps K H (C.cut n) vs es
  | _, _, _, .nil, r => by cases r; exact .nil
  | _, _, _, .cons q1 q2, r => by
    cases r with
    | cons r1 r2 => exact .cons (Rsv.rep so q1 r1) (Rsvs.rep so q2 r2)
theorem Rsvk.rep (so : StoOk K H C st) : ∀ {ds es : List (D × D)} {kvs : List (Key × V)}, Rsvk st n ds es → RepKs K H C kvs ds → RepKs K H (C.cut n) kvs es
  | _, _, _, .nil, r => by cases r; exact .nil
  | _, _, _, .cons q1 q2, r => by
    cases r with
    | cons r0 r1 r2 => exact .cons r0 (Rsv.rep so q1 r1) (Rsvk.rep so q2 r2)
end
end
/-- behind a body: the store st' with the answer d' is, for whoever held the store st, the store st2 with the answer d -/
def Fz (st st' : Sto) (d' : D) (st2 : Sto) (d : D) : Prop := ∀ (K : PySem.W.Frag) (H : Hp) (C : Ad) (H' : Hp) (C' : Ad), StoOk K H C st → StoOk K H' C' st' → Ext C H C' H' →
  ∃ C2, StoOk K H' C2 st2 ∧ Ext C H C2 H' ∧ ∀ v, Rep K H' C' v d' → Rep K H' C2 v d
theorem Fz.same {st st' : Sto} {d : D} : Fz st st' d st' d := fun K H C H' C' s1 s2 e => ⟨C', s2, e, fun _ r => r⟩
theorem Fz.of {st st' st2 : Sto} {d' d : D} (hl : st2.length = st.length)
    (ho : ∀ i : Nat, i < st.length → (st'[i]? = st[i]? ∧ st2[i]? = st[i]?) ∨ ∃ o o2, st'[i]? = some o ∧ st2[i]? = some o2 ∧ RsvC st' st.length o o2) (hd : Rsv st' st.length d' d) : Fz st st' d' st2 d := fun K H C H' C' s1 s2 e => by
  have hc : C'.cut st.length = C := by
    obtain ⟨t, ht⟩ := e.pre
    have l := s1.len
    show (⟨C'.c.take st.length, C'.p⟩ : Ad) = C
    rw [← ht, e.priv, List.take_append_of_le_length (by omega), List.take_of_length_le (by omega)]
  refine ⟨C, ?_, ⟨List.prefix_rfl, rfl, fun _ h => .inl h, e.keep, e.frz, e.trk⟩, fun v r => hc ▸ hd.rep s2 r⟩
  refine ⟨s1.len.trans hl.symm, s1.nd, fun i a o h1 h2 => ?_, fun a ha => by rw [← e.priv] at ha; exact s2.pt a ha, s1.ap⟩
  have hi : i < st.length := by rw [← s1.len]; exact (List.getElem?_eq_some_iff.mp h1).1
  have h1' := e.get h1
  rcases ho i hi with ⟨q1, q2⟩ | ⟨o1, o2, q1, q2, q3⟩
  · rw [q2] at h2
    have k1 := s1.ok i a o h1 h2
    have k2 := s2.ok i a o h1' (by rw [q1]; exact h2)
    have l := s1.len
    cases o with
    | lst ds =>
      obtain ⟨xs, a1, a2⟩ := k1
      obtain ⟨ys, b1, b2⟩ := k2
      have c := a2.cl
      rw [l] at c
      exact ⟨ys, b1, hc ▸ b2.shrink c⟩
    | dct ds =>
      obtain ⟨xs, a1, a2⟩ := k1
      obtain ⟨ys, b1, b2⟩ := k2
      have c := a2.cl
      rw [l] at c
      exact ⟨ys, b1, hc ▸ b2.shrink c⟩
    | lck ds =>
      obtain ⟨_, xs, a1, a2⟩ := k1
      obtain ⟨ob, ys, b1, b2⟩ := k2
      have c := a2.cl
      rw [l] at c
      exact ⟨ob, ys, b1, hc ▸ b2.shrink c⟩
  · rw [q2] at h2
    cases h2
    have k2 := s2.ok i a o1 h1' q1
    cases o1 <;> cases o <;> first
      | exact q3.elim
      | skip
    · obtain ⟨ys, b1, b2⟩ := k2
      exact ⟨ys, b1, hc ▸ Rsvs.rep s2 q3 b2⟩
    · obtain ⟨ys, b1, b2⟩ := k2
      exact ⟨ys, b1, hc ▸ Rsvk.rep s2 q3 b2⟩
    · obtain ⟨ob, ys, b1, b2⟩ := k2
      exact ⟨ob, ys, b1, hc ▸ Rsvk.rep s2 q3 b2⟩
/-- nothing that was held is changed -/
theorem Fz.junk {st junk : Sto} {d' d : D} (hd : Rsv (st ++ junk) st.length d' d) : Fz st (st ++ junk) d' st d := Fz.of rfl (fun i hi => .inl ⟨List.getElem?_append_left hi, rfl⟩) hd

/-! ### defs -/
def startE (N : List Str) (ds : List D) : En := ds.map some ++ List.replicate (N.length - ds.length) none
/-- the clean function F is what the body fb does -/
def Clean (N : List Str) (np : Nat) (fb : FS) (F : F1) : Prop := ∀ (ds : List D) (st : Sto), match F ds st with
  | .no => True
  | .ok d st2 => ds.length = np ∧ ((∃ d' st', fb (startE N ds) st = .rt d' st' ∧ Fz st st' d' st2 d) ∨ ∃ ρ' st', fb (startE N ds) st = .nx ρ' st' ∧ Fz st st' .non st2 d)
  | .exc c x st2 => ds.length = np ∧ ∃ x' ρ' st', fb (startE N ds) st = .exc c x' ρ' st' ∧ Fz st st' x' st2 x
/-- the promise of a clean function -/
def spF (g : Gx) (np : Nat) (F : F1) : Sp := fun vs H Q E => ∃ ds st C, Reps g.K H C vs ds ∧ ds.length = np ∧ StoOk g.K H C st ∧ After g E C H (F ds st) fun d _ C' H' => ∀ v, Rep g.K H' C' v d → Q v H'
structure DefC (P : Program) (w : World) (K : PySem.W.Frag) (mg : Str → Option Value) (base : Heap) (CX : CXT) (k : Nat) (st : Stmt) (x : Str) (ps : List Str) (F : F1) : Prop where
  ex : ∃ f fd, mg x = some (.ref f) ∧ FunD K x x (defArgs st) (defBody st) (defScope st) [] [] f fd ∧ Binds K fd ps [] ∧ FnOk P w K mg base CX k f fd ps (spF ⟨K, mg⟩ ps.length F)
section
variable {P : Program} {w : World} {K : PySem.W.Frag} {mg : Str → Option Value} {base : Heap} {CX : CXT} {k : Nat} {s : Stmt} {x : Str} {ps N : List Str} {F : F1} {fb : FS}
theorem DefC.mono {j : Nat} (d : DefC P w K mg base CX k s x ps F) (h : k ≤ j) : DefC P w K mg base CX j s x ps F := by
  obtain ⟨f, fd, a, b, c, e⟩ := d
  exact ⟨f, fd, a, b, c, e.mono h⟩
/-- a function that says less -/
theorem DefC.less {G : F1} (d : DefC P w K mg base CX k s x ps F) (h : ∀ ds st, G ds st = .no ∨ G ds st = F ds st) : DefC P w K mg base CX k s x ps G := by
  obtain ⟨f, fd, a, b, c, e⟩ := d
  refine ⟨f, fd, a, b, c, e.imp fun vs H Q E ⟨ds, st, C, r, l, so, q⟩ => ⟨ds, st, C, r, l, so, ?_⟩⟩
  rcases h ds st with z | z
  · rw [z] at q; exact q.elim
  · rw [z] at q; exact q
theorem startE_rs {H : Hp} {C : Ad} {vs : List V} {ds : List D} (r : Reps K H C vs ds) : Rs K H C (L2.start N vs) (startE N ds) := by
  unfold L2.start startE
  refine ⟨by simp [r.length], fun i d h => ?_⟩
  by_cases hi : i < ds.length
  · rw [List.getElem?_append_left (by simpa using hi), List.getElem?_map] at h
    cases e : ds[i]? with
    | none => rw [e] at h; cases h
    | some d' =>
      rw [e] at h
      cases h
      obtain ⟨v, h1, h2⟩ := r.get e
      have hv : i < vs.length := (List.getElem?_eq_some_iff.mp h1).1
      exact ⟨v, by rw [List.getElem?_append_left (by simpa using hv), List.getElem?_map, h1]; rfl, h2⟩
  · rw [List.getElem?_append_right (by simpa using hi), List.getElem?_replicate] at h
    split at h <;> cases h
theorem spF_run {g : Gx} {t : TS} {W : WX} {E : XK} {vs : List V} {H : Hp} {Q : VK} {np : Nat} (cl : Clean N np fb F) (hs : SimS g W t fb) (hW : ∀ c d σ H, E c d H → W c d σ H) (h : spF g np F vs H Q E) : t { nx := fun _ H' => Q .non H', rt := Q } (L2.start N vs) H := by
  obtain ⟨ds, st, C, r, l, so, q⟩ := h
  refine hs (startE N ds) (L2.start N vs) st H C _ (startE_rs r) so ?_
  have c := cl ds st
  cases e : F ds st with
  | no => rw [e] at q; exact q.elim
  | ok d st2 =>
    rw [e] at q c
    obtain ⟨_, ⟨d', st', hb, fz⟩ | ⟨ρ', st', hb, fz⟩⟩ := c
    · rw [hb]
      intro C' H' v so' e' rv
      obtain ⟨C2, s2, e2, k2⟩ := fz _ _ _ _ _ so so' e'
      exact q C2 H' s2 e2 v (k2 v rv)
    · rw [hb]
      intro C' H' σ' so' e' rs'
      obtain ⟨C2, s2, e2, k2⟩ := fz _ _ _ _ _ so so' e'
      exact q C2 H' s2 e2 .non (k2 .non .non)
  | exc ec x st2 =>
    rw [e] at q c
    obtain ⟨_, x', ρ', st', hb, fz⟩ := c
    rw [hb]
    intro C' H' σ' cls dd so' e' rs' ⟨m, d, v, e1, e2, rv⟩
    obtain ⟨C2, s2, e3, k2⟩ := fz _ _ _ _ _ so so' e'
    exact hW _ _ _ _ (q C2 H' cls dd s2 e3 ⟨m, d, v, e1, e2, k2 v rv⟩)
/-- a def that lets nothing out -/
theorem DefC.mk0 {f : Addr} {fd : FuncData} (FD : FunD K x x (defArgs s) (defBody s) (defScope s) [] [] f fd) (hm : mg x = some (.ref f)) (S : FnScope N ps (defScope s)) (b : Binds K fd ps []) (cl : Clean N ps.length fb F) (nx : NoX1 F)
    (hb : ∀ (cdv : Value) (A : Around) (outer : List Env) (sh : Shared) (H : Hp) (E : XK), Room k (A.deeper (envOfC x (defScope s) sh.heap.objs.size f cdv)) →
      SSs (cxOf CX0 P w K mg base N x (defScope s) f cdv A outer sh H E).nox W0 (defBody s) fb) : DefC P w K mg base CX0 (k + 1) s x ps F := by
  refine ⟨f, fd, hm, FD, b, FD.ok S (fun vs H Q E ⟨ds, st, C, r, l, _⟩ => by rw [r.length, l]) fun cdv A outer sh H vs Q E hr h => ?_⟩
  obtain ⟨t, p, q⟩ := hb cdv A outer sh H E hr
  refine ⟨t, p.nox, ?_⟩
  obtain ⟨ds, st, C, r, l, so, q2⟩ := h
  exact spF_run (g := ⟨K, mg⟩) (E := fun _ _ _ => False) cl q (fun _ _ _ _ z => z) ⟨ds, st, C, r, l, so, q2.nox fun c x st2 => nx ds st c x st2⟩
/-- a def that may raise -/
theorem DefC.mkX {f : Addr} {fd : FuncData} (FD : FunD K x x (defArgs s) (defBody s) (defScope s) [] [] f fd) (hm : mg x = some (.ref f)) (S : FnScope N ps (defScope s)) (b : Binds K fd ps []) (cl : Clean N ps.length fb F)
    (hb : ∀ (cdv : Value) (A : Around) (outer : List Env) (sh : Shared) (H : Hp) (E : XK), Room k (A.deeper (envOfC x (defScope s) sh.heap.objs.size f cdv)) →
      SSs (cxOf (L2.CX P w) P w K mg base N x (defScope s) f cdv A outer sh H E) (fun c d _ H' => E c d H') (defBody s) fb) : DefC P w K mg base (L2.CX P w) (k + 1) s x ps F := by
  refine ⟨f, fd, hm, FD, b, FD.ok S (fun vs H Q E ⟨ds, st, C, r, l, _⟩ => by rw [r.length, l]) fun cdv A outer sh H vs Q E hr h => ?_⟩
  obtain ⟨t, p, q⟩ := hb cdv A outer sh H E hr
  exact ⟨t, p, spF_run (g := ⟨K, mg⟩) cl q (fun _ _ _ _ z => z) h⟩
end

/-! ### calls -/
/-- what is let out may be wished for -/
def Pass (CX : CXT) (X : Cx) (W : WX) : Prop := ∀ σ, PassesAt CX X σ (WE W σ)
theorem pass_0 {X : Cx} {W : WX} : Pass CX0 X W := fun _ _ _ _ _ _ _ h => h.elim
theorem pass_X {X : Cx} {W : WX} (tk : Takes X W) : Pass (L2.CX X.prog X.w) X W := fun σ => passAt tk σ
section
variable {X : Cx} {W : WX} {CX : CXT} {k : Nat} {s : Stmt} {x : Str} {ps : List Str} {F : F1} {e : Expr} {es : List Expr} {fa : FA} {pos p : Pos}
theorem sim_call {t : TA} (ha : SimA (gx X) W t fa) : SimE (gx X) W (tCallSD (spF (gx X) ps.length F) [] (WE W) t) (fCB (fun ds st => if ds.length = ps.length then F ds st else .no) fa) := fun ρ σ st H C Q rs so q => by
  refine ha ρ σ st H C _ rs so (q.bind.imp fun ds st1 C1 H1 so1 e1 h1 vs rv => ?_)
  have h1 : After (gx X) _ C1 H1 (if ds.length = ps.length then F ds st1 else .no) _ := h1
  split at h1
  · rename_i hl
    exact ⟨ds, st1, C1, by rw [List.append_nil]; exact rv, hl, so1, h1⟩
  · exact h1.elim
def fCall (n : Nat) (F : F1) (fa : FA) : FE := fCB (fun ds st => if ds.length = n then F ds st else .no) fa
theorem se_call (D : DefC X.prog X.w X.K X.mg X.base CX k s x ps F) (hr : Room k X.A) (hx : Pass CX X W) (ha : SA X W (e :: es) fa) (hg : Gl X x := by rfl) (hdb : (x == ("__debug__" : Str)) = false := by decide)
    (he : starEach (e :: es) X.env = (false, eval e X.env) :: starEach es X.env := by rfl) (hpl : (backTo pos (starEach es X.env)).any (·.1) = false := by rfl) : SE X W (.Call (.Name x p) (e :: es) [] pos) (fCall ps.length F fa) := by
  obtain ⟨f, fd, hm, FD, b, O⟩ := D
  obtain ⟨t, pa, sa⟩ := ha
  exact ⟨_, pe_callSD O hr hg hm FD.kp b .nil hx pa hdb he hpl, sim_call sa⟩
/-- f() -/
theorem pe_callSD0 {f : Addr} {fd : FuncData} {sp : Sp} {E : L2.St → XK} (F : FnOk X.prog X.w X.K X.mg X.base CX k f fd ps sp) (hr : Room k X.A) (hg : Gl X x) (hm : X.mg x = some (.ref f)) (hk : PySem.W.keepIn X.K (.ref f) = true) (hb : Binds X.K fd ps []) (hx : ∀ σ, PassesAt CX X σ (E σ))
    (hdb : (x == ("__debug__" : Str)) = false := by decide) : PE X (.Call (.Name x p) [] [] pos) (tCallSD sp [] E tNil) := by
  refine ⟨fun pins s σ H Q I h => ?_⟩
  refine wpAny_Call_Name_kw (ld_glob I hg hm ?_ hdb)
  exact PySem.W.callWith_K0 I.kIn hk (run_fnSD F hr hb .nil (hx σ) I .nil h)
theorem se_call0 (D : DefC X.prog X.w X.K X.mg X.base CX k s x ps F) (hr : Room k X.A) (hx : Pass CX X W) (hg : Gl X x := by rfl) (hdb : (x == ("__debug__" : Str)) = false := by decide) : SE X W (.Call (.Name x p) [] [] pos) (fCall ps.length F faNil) := by
  obtain ⟨f, fd, hm, FD, b, O⟩ := D
  exact ⟨_, pe_callSD0 O hr hg hm FD.kp b hx hdb, sim_call fun ρ σ st H C Q rs so h => h.here so [] .nil⟩

/-! ### f(k = v, ..): keywords alone -/
structure SK (X : Cx) (W : WX) (kws : List Keyword) (f : FA) : Prop where
  ex : ∃ t, PK X kws t ∧ SimA (gx X) W t f
theorem sk_nil : SK X W [] faNil := ⟨tNil, pk_nil, fun ρ σ st H C Q rs so h => h.here so [] .nil⟩
theorem sk_cons {nm : Option Str} {kpos : Pos} {kws : List Keyword} {f : FE} {r : FA} (he : SE X W e f) (hr : SK X W kws r) : SK X W (⟨nm, e, kpos⟩ :: kws) (faCons f r) := by
  obtain ⟨te, pe, se⟩ := he
  obtain ⟨ta, pa, sa⟩ := hr
  refine ⟨tCons te ta, pk_cons pe pa, fun ρ σ st H C Q rs so h => ?_⟩
  refine se ρ σ st H C _ rs so (h.bind.imp fun d st1 C1 H1 so1 e1 h1 v rv => ?_)
  refine sa ρ σ st1 H1 C1 _ (rs.mono e1) so1 (h1.bind.imp fun ds st2 C2 H2 so2 e2 h2 vs rvs => ?_)
  exact h2.here so2 _ (.cons (rv.mono e2) rvs)
/-- the values in the order of the places ix -/
def pick {α : Type} (ix : List Nat) (l : List α) : List α := ix.filterMap fun i => l[i]?
theorem pick_rel {ix : List Nat} {vs : List V} {us : List Value} (r : Vals vs us) : Vals (pick ix vs) (pick ix us) := by
  unfold pick
  induction ix with
  | nil => exact .nil
  | cons i ix ih =>
    cases e : vs[i]? with
    | none =>
      have e2 := r.none_of e
      rw [List.filterMap_cons_none e, List.filterMap_cons_none e2]
      exact ih
    | some v =>
      obtain ⟨u, e2, q⟩ := r.get e
      rw [List.filterMap_cons_some e, List.filterMap_cons_some e2]
      exact .cons q ih
theorem pick_reps {K : PySem.W.Frag} {H : Hp} {C : Ad} {ix : List Nat} {vs : List V} {ds : List D} (r : Reps K H C vs ds) : Reps K H C (pick ix vs) (pick ix ds) := by
  unfold pick
  induction ix with
  | nil => exact .nil
  | cons i ix ih =>
    cases e : ds[i]? with
    | none =>
      have e2 : vs[i]? = none := by
        have := List.getElem?_eq_none_iff.mp e
        exact List.getElem?_eq_none_iff.mpr (by rw [r.length]; exact this)
      rw [List.filterMap_cons_none e, List.filterMap_cons_none e2]
      exact ih
    | some v =>
      obtain ⟨u, e2, q⟩ := r.get e
      rw [List.filterMap_cons_some e, List.filterMap_cons_some e2]
      exact .cons q ih
theorem pick_len {α : Type} {ix : List Nat} {n : Nat} {l : List α} (h : (ix.length == n && ix.all fun i => decide (i < n)) = true) (hl : l.length = n) : (pick ix l).length = n := by
  rw [Bool.and_eq_true, beq_iff_eq, List.all_eq_true] at h
  obtain ⟨h1, h2⟩ := h
  have k : ∀ jx : List Nat, (∀ i ∈ jx, decide (i < n) = true) → (pick jx l).length = jx.length := by
    intro jx
    induction jx with
    | nil => intro _; rfl
    | cons i jx ih =>
      intro hj
      have hi := hj i List.mem_cons_self
      rw [decide_eq_true_eq, ← hl] at hi
      unfold pick
      rw [List.filterMap_cons_some (List.getElem?_eq_getElem hi), List.length_cons, List.length_cons]
      exact congrArg (· + 1) (ih fun i q => hj i (List.mem_cons_of_mem _ q))
  rw [k ix h2, h1]
def fCallK (ix : List Nat) (n : Nat) (F : F1) (fa : FA) : FE := fCB (fun ds st => if ds.length = n then (F (pick ix ds) st).quiet else .no) fa
theorem se_callK (ix : List Nat) {ks : List Str} {kws : List Keyword} (D : DefC X.prog X.w X.K X.mg X.base CX k s x ps F) (hr : Room k X.A) (hx : Passes CX X E0) (ha : SK X W kws fa)
    (hb : ∀ (kV doc pm : Value) (an : Option Addr) (cdv ct : Value) (us : List Value), us.length = ps.length → bindArgs (PySem.W.fnOf x x (defArgs s) (defBody s) (defScope s) .none kV doc pm an cdv ct) ⟨[], ks.zip us⟩ = pure (ps.zip (pick ix us)))
    (hix : (ix.length == ps.length && ix.all fun i => decide (i < ps.length)) = true := by rfl)
    (hg : Gl X x := by rfl) (hall : (backToKw pos (keywordEach kws X.env)).all (·.1.isSome) = true := by rfl) (hks : (backToKw pos (keywordEach kws X.env)).filterMap (·.1) = ks := by rfl) (hdb : (x == ("__debug__" : Str)) = false := by decide)
    (hpl : ((backTo pos (starEach [] X.env)).any (·.1) || (backToKw pos (keywordEach kws X.env)).any (·.1.isNone)) = false := by rfl) : SE X W (.Call (.Name x p) [] kws pos) (fCallK ix ps.length F fa) := by
  obtain ⟨f, fd, hm, FD, b, O⟩ := D
  obtain ⟨t, pk, sa⟩ := ha
  have pe : PE X (.Call (.Name x p) [] kws pos) (fun σ H Q => t σ H fun zs H1 => zs.length = ps.length ∧ spF (gx X) ps.length F (pick ix zs) H1 Q E0) := by
    refine ⟨fun pins s₁ σ H Q I h => ?_⟩
    refine wpAny_Call_Name_kw (ld_glob I hg hm ?_ hdb)
    refine PySem.W.callWith_KW0 (h₀ := X.base) I.ok.mod.kin FD.kp hall ?_ hpl
    refine thn (pk.run pos pins s₁ σ H _ I h) fun ws s2 ⟨zs, H2, I2, rz, hzl, q2⟩ => ⟨I2.kIn, ?_⟩
    rw [hks]
    have r2 : Vals (pick ix zs) (pick ix ws) := pick_rel rz
    have hw : ws.length = ps.length := by rw [← rz.length]; exact hzl
    have hb2 : BindsTo s2 fd ⟨[], ks.zip ws⟩ (ps.zip (pick ix ws)) := by
      obtain ⟨oc, od, dV, kV, doc, pm, an, cdv, ct, osl, rfl, lk, hcd, hD, hK⟩ := FD.ex
      rcases hD with ⟨_, rfl⟩ | ⟨e, _⟩
      · exact .of_eq (hb kV doc pm an cdv ct ws hw)
      · exact absurd rfl e
    refine wpAny_call (codeAny_mono (O.run X.A X.stack s2 H2 ⟨[], ks.zip ws⟩ (pick ix ws) (pick ix zs) Q E0 hr I2.env0 hb2 r2 q2) fun r s' hq => ?_)
    cases r with
    | error e => exact hx pins σ H2 s2 e s' I2 hq
    | ok fl =>
      cases fl with
      | ret u => exact I2.after hq
      | next => exact False.elim hq
      | brk => exact False.elim hq
      | cont => exact False.elim hq
  refine ⟨_, pe, fun ρ σ st H C Q rs so q => sa ρ σ st H C _ rs so (q.bind.imp fun ds st1 C1 H1 so1 e1 h1 vs rv => ?_)⟩
  have h1 : After (gx X) _ C1 H1 (if ds.length = ps.length then (F (pick ix ds) st1).quiet else .no) _ := h1
  split at h1
  · rename_i hl
    exact ⟨by rw [rv.length]; exact hl, pick ix ds, st1, C1, pick_reps rv, pick_len hix hl, so1, h1.quiet⟩
  · exact h1.elim
end
end FL

/-! FLl: methods of built-in types, stores -/
namespace FL
open PySem PySem.Spec PyProof.Rows L2

/-! ### o.m(..) -/
abbrev FM := D → List D → Sto → R D
def SimMt (g : Gx) (r : V → List V → Hp → VK → Prop) (f : FM) : Prop := ∀ (x : D) (ds : List D) (st : Sto) (H : Hp) (C : Ad) (v : V) (vs : List V) (Q : VK), StoOk g.K H C st → Rep g.K H C v x → Reps g.K H C vs ds →
  After g (fun _ _ _ => False) C H (f x ds st) (fun d _ C' H' => ∀ v, Rep g.K H' C' v d → Q v H') → r v vs H Q
def NoXM (f : FM) : Prop := ∀ x ds st c z st', f x ds st ≠ .exc c z st'
def tyIs (T : Ty) (st : Sto) (x : D) : Bool := match T, x with
  | .str, .str _ => true
  | .list, x => (itemsR st x).isSome
  | _, _ => false
theorem tyIs_rep {K : PySem.W.Frag} {H : Hp} {C : Ad} {st : Sto} {T : Ty} {x : D} {v : V} (h : tyIs T st x = true) (so : StoOk K H C st) (r : Rep K H C v x) : tyV K T.nm v H := by
  unfold tyIs at h
  split at h
  · cases r; rfl
  · cases e : itemsR st x with
    | none => rw [e] at h; cases h
    | some ds =>
      obtain ⟨a, xs, rfl, h1, _⟩ := itemsR_rep e so r
      exact .inl ⟨rfl, xs, h1⟩
  · cases h
def fBm (T : Ty) (m : FM) (o : FE) (a : FA) : FE := fun ρ st => (o ρ st).bind fun x st1 => if tyIs T st1 x = true then (a ρ st1).bind fun ds st2 => m x ds st2 else .no
section
variable {X : Cx} {W : WX} {o e : Expr} {es : List Expr} {fo : FE} {fa : FA} {name : Str} {apos cpos : Pos} {id : String} {m : FM}
theorem se_bm (T : Ty) (hm : ∃ r, MtR X id r ∧ SimMt (gx X) r m ∧ NoXM m) (pa : PlainAttrs T.nm) (slot : Slot T.nm name id) (hty : typeOf (.builtin id) = pure (.type "method_descriptor")) (ho : SE X W o fo) (ha : SA X W (e :: es) fa)
    (hbase : attributeBase o name X.env (eval o X.env) = eval o X.env := by rfl)
    (hfew : ((backTo cpos (starEach (e :: es) X.env)).all (fun x => !x.1) && (backToKw cpos (keywordEach [] X.env)).all (fun x => x.1.isSome)
      && decide ((e :: es).length + ([] : List Keyword).length + (if ([] : List Keyword).isEmpty then 0 else 1) < 30)) = true := by rfl)
    (hline : (apos.endLine == cpos.line) = true := by rfl) (hs : starEach (e :: es) X.env = (false, eval e X.env) :: starEach es X.env := by rfl) (hplain : (backTo cpos (starEach es X.env)).any (·.1) = false := by rfl) :
    SE X W (.Call (.Attribute o name apos) (e :: es) [] cpos) (fBm T m fo fa) := by
  obtain ⟨r, h1, h2, h3⟩ := hm
  obtain ⟨t, po, so⟩ := ho
  obtain ⟨ta, paa, sa⟩ := ha
  refine ⟨_, pe_bm pa slot hty h1 po paa hbase hfew hline hs hplain, fun ρ σ st H C Q rs so1 q => so ρ σ st H C _ rs so1 (q.bind.imp fun x st1 C1 H1 so2 e1 q1 v rv => ?_)⟩
  split at q1
  · rename_i ht
    refine ⟨tyIs_rep ht so2 rv, sa ρ σ st1 H1 C1 _ (rs.mono e1) so2 (q1.bind.imp fun ds st2 C2 H2 so3 e2 q2 vs rvs => ?_)⟩
    exact h2 x ds st2 H2 C2 v vs Q so3 (rv.mono e2) rvs (q2.nox (h3 x ds st2))
  · exact q1.elim
theorem se_bm0 (T : Ty) (hm : ∃ r, MtR X id r ∧ SimMt (gx X) r m ∧ NoXM m) (pa : PlainAttrs T.nm) (slot : Slot T.nm name id) (hty : typeOf (.builtin id) = pure (.type "method_descriptor")) (ho : SE X W o fo)
    (hbase : attributeBase o name X.env (eval o X.env) = eval o X.env := by rfl) (hline : (apos.endLine == cpos.line) = true := by rfl) : SE X W (.Call (.Attribute o name apos) [] [] cpos) (fBm T m fo faNil) := by
  obtain ⟨r, h1, h2, h3⟩ := hm
  obtain ⟨t, po, so⟩ := ho
  refine ⟨_, pe_bm0 pa slot hty h1 po hbase hline, fun ρ σ st H C Q rs so1 q => so ρ σ st H C _ rs so1 (q.bind.imp fun x st1 C1 H1 so2 e1 q1 v rv => ?_)⟩
  split at q1
  · rename_i ht
    have q1 : After (gx X) _ C1 H1 (m x [] st1) _ := q1
    exact ⟨tyIs_rep ht so2 rv, h2 x [] st1 H1 C1 v [] Q so2 rv .nil (q1.nox (h3 x [] st1))⟩
  · exact q1.elim
end

/-! ### list.append, list.pop; str.join; n.bit_length() -/
def mAppend : FM := fun x ds st => match x, ds with
  | .cel n, [d] => match st[n]? with
    | some (.lst xs) => if xs.length < lim then .ok .non (st.set n (.lst (xs ++ [d]))) else .no
    | _ => .no
  | _, _ => .no
theorem noxm_append : NoXM mAppend := fun x ds st c z st' h => by
  unfold mAppend at h
  split at h
  · split at h
    · split at h <;> cases h
    · cases h
  · cases h
/-- pop(), pop(i) -/
def mPop : FM := fun x ds st => match x with
  | .cel n => match st[n]? with
    | some (.lst xs) => match ds with
      | [] => match xs[xs.length - 1]? with
        | some d => .ok d (st.set n (.lst xs.dropLast))
        | none => .no
      | [.int i] => if 0 ≤ i ∧ i < xs.length ∧ i ≤ 1000000 then match xs[i.toNat]? with
        | some d => .ok d (st.set n (.lst (xs.eraseIdx i.toNat)))
        | none => .no
        else .no
      | _ => .no
    | _ => .no
  | _ => .no
theorem noxm_pop : NoXM mPop := fun x ds st c z st' h => by
  unfold mPop at h
  split at h
  · split at h
    · split at h
      · split at h <;> cases h
      · split at h
        · split at h <;> cases h
        · cases h
      · cases h
    · cases h
  · cases h
def joinS (s : List Nat) : List (List Nat) → List Nat
  | [] => []
  | [a] => a
  | a :: b :: r => a ++ s ++ joinS s (b :: r)
def mJoin : FM := fun x ds st => match x, ds with
  | .str s, [d] => match (itemsS st d).bind strsOf with
    | some ss => if (ss.map List.length).sum + ss.length * s.length ≤ lim then .ok (.str (joinS s ss)) st else .no
    | none => .no
  | _, _ => .no
theorem noxm_join : NoXM mJoin := fun x ds st c z st' h => by
  unfold mJoin at h
  split at h
  · split at h
    · split at h <;> cases h
    · cases h
  · cases h
theorem Reps.dropLast {K : PySem.W.Frag} {H : Hp} {C : Ad} {ds : List D} {vs : List V} (h : Reps K H C vs ds) : Reps K H C vs.dropLast ds.dropLast := by
  rw [List.dropLast_eq_take, List.dropLast_eq_take, h.length]
  exact h.take _
theorem joinL_S (S : List Nat) : ∀ l : List (List Nat), TL.joinL S l = joinS S l
  | [] => rfl
  | [a] => by simp [TL.joinL, joinS]
  | a :: b :: r => by
    have ih := joinL_S S (b :: r)
    simp only [TL.joinL, joinS] at ih ⊢
    rw [ih]
    simp [List.append_assoc]
theorem txt_join (s : List Nat) (ss : List (List Nat)) : Txt.join (sv s) (ss.map sv) = sv (joinS s ss) := by
  rw [TL.join_eq]
  have h := TL.tl_join (sv s) (ss.map sv)
  have e : (ss.map sv).map TL.tl = ss := by
    rw [List.map_map]
    have : TL.tl ∘ sv = id := by funext z; simp [TL.tl]
    rw [this, List.map_id]
  rw [e, show TL.tl (sv s) = s from by simp [TL.tl], joinL_S] at h
  rw [← h]
section
variable {X : Cx}
/-- writing a list in a cell -/
theorem cel_set {g : Gx} {C : Ad} {H : Hp} {st : Sto} {n : Nat} {a : Addr} {xs xs' : List V} {ds ds' : List D} (so : StoOk g.K H C st) (hc : C.c[n]? = some a) (h1 : H a = some (.lst xs)) (r : Reps g.K H C xs' ds') :
    StoOk g.K (upd H a (.lst xs')) C (st.set n (.lst ds')) ∧ Ext C H C (upd H a (.lst xs')) := by
  have e : Ext C H C (upd H a (.lst xs')) := Ext.put (List.mem_of_getElem? hc) h1 rfl
  exact ⟨so.put hc h1 rfl ⟨xs', upd_same, r.mono e⟩, e⟩
theorem m_append : ∃ r, MtR X "list.append" r ∧ SimMt (gx X) r mAppend ∧ NoXM mAppend := by
  refine ⟨_, mt_append, fun x ds st H C v vs Q so rx rv q => ?_, noxm_append⟩
  unfold mAppend at q
  split at q
  · cases rx with
    | cel hc =>
      cases rv with
      | cons r1 r2 =>
        cases r2
        split at q
        · rename_i n d xs hx
          split at q
          · rename_i hl
            obtain ⟨ys, h1, h2⟩ := so.ok _ _ _ hc hx
            obtain ⟨s2, e2⟩ := cel_set (ds := xs) so hc h1 (h2.app (.cons r1 .nil))
            refine ⟨_, ys, _, rfl, rfl, h1, ?_, q.now s2 e2 _ .non⟩
            rw [h2.length, sizeLine_eq]
            exact Nat.lt_trans hl (by decide)
          · exact q.elim
        · exact q.elim
  · exact q.elim
theorem m_pop : ∃ r, MtR X "list.pop" r ∧ SimMt (gx X) r mPop ∧ NoXM mPop := by
  refine ⟨_, MtR.or mt_pop mt_popAt, fun x ds st H C v vs Q so rx rv q => ?_, noxm_pop⟩
  unfold mPop at q
  split at q
  · cases rx with
    | cel hc =>
      split at q
      · rename_i n xs hx
        obtain ⟨ys, h1, h2⟩ := so.ok _ _ _ hc hx
        split at q
        · cases rv
          split at q
          · rename_i d hd
            obtain ⟨w, h3, h4⟩ := h2.get hd
            obtain ⟨s2, e2⟩ := cel_set (ds := xs) so hc h1 h2.dropLast
            exact .inl ⟨_, ys, w, rfl, rfl, h1, by rw [h2.length]; exact h3, q.now s2 e2 _ (h4.mono e2)⟩
          · exact q.elim
        · cases rv with
          | cons r1 r2 =>
            cases r1; cases r2
            split at q
            · rename_i hi
              split at q
              · rename_i d hd
                obtain ⟨w, h3, h4⟩ := h2.get hd
                obtain ⟨s2, e2⟩ := cel_set (ds := xs) so hc h1 (h2.erase _)
                refine .inr ⟨_, ys, _, _, w, rfl, rfl, h1, by omega, by omega, ?_, h3, q.now s2 e2 _ (h4.mono e2)⟩
                rw [h2.length]
                exact seqIndex_of hi.1 hi.2.1
              · exact q.elim
            · exact q.elim
        · exact q.elim
      · exact q.elim
  · exact q.elim
theorem m_join : ∃ r, MtR X "str.join" r ∧ SimMt (gx X) r mJoin ∧ NoXM mJoin := by
  refine ⟨_, mt_join, fun x ds st H C v vs Q so rx rv q => ?_, noxm_join⟩
  unfold mJoin at q
  split at q
  · cases rx
    cases rv with
    | cons r1 r2 =>
      cases r2
      split at q
      · rename_i ss e
        split at q
        · rename_i hl
          obtain ⟨xs, e1, e2⟩ := Option.bind_eq_some_iff.mp e
          obtain ⟨a, ys, rfl, h1, h2⟩ := itemsS_rep e1 so r1
          rw [strsOf_eq e2] at h2
          rw [Reps.strs h2] at h1
          refine ⟨_, a, ss.map sv, rfl, rfl, h1, ?_, ?_⟩
          · rw [List.map_map, List.length_map]
            have e3 : (fun z : Str => z.length) ∘ sv = List.length := by funext z; simp [Str.length]
            have e4 : (Str.length ∘ sv) = List.length := by funext z; simp [Str.length]
            rw [show (List.map ((fun x => x.length) ∘ sv) ss) = ss.map List.length from by rw [e3], sv_len]
            exact Nat.le_trans hl (by decide)
          · rw [txt_join]
            exact q.here so _ (.str _)
        · exact q.elim
      · exact q.elim
  · exact q.elim
def fBits (f : FE) : FE := fun ρ st => (f ρ st).bind fun d st1 => match d with
  | .int i => .ok (.int (Builtin.Int.intBits i : Nat)) st1
  | _ => .no
theorem se_bits {W : WX} {o : Expr} {fo : FE} {apos pos : Pos} (ho : SE X W o fo) (hbase : attributeBase o "bit_length" X.env (eval o X.env) = eval o X.env := by rfl) (hline : (apos.endLine == pos.line) = true := by rfl) : SE X W (.Call (.Attribute o "bit_length" apos) [] [] pos) (fBits fo) := by
  obtain ⟨t, p, s⟩ := ho
  refine ⟨_, pe_bits p hbase hline, fun ρ σ st H C Q rs so q => s ρ σ st H C _ rs so (q.bind.imp fun d st1 C1 H1 so1 e1 h1 v rv => ?_)⟩
  cases d with
  | int i => cases rv; exact ⟨i, rfl, h1.here so1 _ (.int _)⟩
  | _ => exact h1.elim
end

/-! ### o[i] = v -/
def putL (es : List (D × D)) (k v : D) : List (D × D) := if (es.any fun e => sameK e.1 k) = true then es.map fun e => if sameK e.1 k = true then (e.1, v) else e else es ++ [(k, v)]
def isKey : D → Bool
  | .int _ => true
  | .str _ => true
  | _ => false
def gSet (o i v : D) (st : Sto) : R Unit := match o with
  | .cel n => match st[n]? with
    | some (.lst xs) => match i with
      | .int k => match ixN xs.length k with
        | some j => .ok () (st.set n (.lst (xs.set j v)))
        | none => .no
      | _ => .no
    | some (.dct es) => if isKey i = true ∧ es.length < lim then .ok () (st.set n (.dct (putL es i v))) else .no
    | _ => .no
  | _ => .no
def hSub (o i : FE) : FG := fun d ρ st => (o ρ st).bind fun x st1 => (i ρ st1).bind fun y st2 => (gSet x y d st2).bind fun _ st3 => .ok ρ st3
section
variable {K : PySem.W.Frag} {H : Hp} {C : Ad}
theorem any_same {k : Key} {q : D} (hk : RepKey k q) : ∀ {es : List (D × D)} {kvs : List (Key × V)}, RepKs K H C kvs es → (es.any fun e => sameK e.1 q) = (kvs.any fun kv => decide (kv.1 = k))
  | [], _, h => by cases h; rfl
  | (p, d) :: es, _, h => by
    cases h with
    | cons h0 h1 h2 => rw [List.any_cons, List.any_cons, any_same hk h2, sameK_key h0 hk]
theorem map_same {k : Key} {q : D} {v : V} {d : D} (hk : RepKey k q) (rv : Rep K H C v d) : ∀ {es : List (D × D)} {kvs : List (Key × V)}, RepKs K H C kvs es → RepKs K H C (kvs.map fun kv => if kv.1 = k then (kv.1, v) else kv) (es.map fun e => if sameK e.1 q = true then (e.1, d) else e)
  | [], _, h => by cases h; exact .nil
  | (p, e) :: es, _, h => by
    cases h with
    | cons h0 h1 h2 =>
      rename_i k' v' r
      have s := sameK_key h0 hk
      rw [List.map_cons, List.map_cons]
      by_cases z : k' = k
      · rw [if_pos z, if_pos (by rw [s]; exact decide_eq_true z)]
        exact .cons h0 rv (map_same hk rv h2)
      · rw [if_neg z, if_neg (by rw [s]; simpa using z)]
        exact .cons h0 h1 (map_same hk rv h2)
theorem RepKs.snoc {k : Key} {q : D} {v : V} {d : D} (hk : RepKey k q) (rv : Rep K H C v d) : ∀ {es : List (D × D)} {kvs : List (Key × V)}, RepKs K H C kvs es → RepKs K H C (kvs ++ [(k, v)]) (es ++ [(q, d)])
  | [], _, h => by cases h; exact .cons hk rv .nil
  | (p, e) :: es, _, h => by
    cases h with
    | cons h0 h1 h2 => exact .cons h0 h1 (RepKs.snoc hk rv h2)
theorem RepKs.put {k : Key} {q : D} {v : V} {d : D} (hk : RepKey k q) (rv : Rep K H C v d) {es : List (D × D)} {kvs : List (Key × V)} (h : RepKs K H C kvs es) : RepKs K H C (putK kvs k v) (putL es q d) := by
  unfold putK putL
  rw [any_same hk h]
  split
  · exact map_same hk rv h
  · exact h.snoc hk rv
end
section
variable {X : Cx} {W : WX}
theorem PSet.or {t u : TSet} (h : PSet X t) (k : PSet X u) : PSet X fun o i v H Q => t o i v H Q ∨ u o i v H Q := fun pins s σ H o i v ov iv w Q I r1 r2 r3 q => by
  rcases q with q | q
  · exact h pins s σ H o i v ov iv w Q I r1 r2 r3 q
  · exact k pins s σ H o i v ov iv w Q I r1 r2 r3 q
theorem sg_sub (hu : X.A.units + 1 < cLine) {o i : Expr} {fo fi : FE} {pos : Pos} (ho : SE X W o fo) (hi : SE X W i fi)
    (ha : ∀ v, assign (.Subscript o i pos) X.env v = (do
      let ov ← holding [v] (eval o X.env)
      let iv ← holding [v, ov] (eval i X.env)
      standAt pos
      holding [v, ov, iv] (setItem ov iv v)
      release [v, ov, iv] []) := by intro _; rfl) : SG X W (.Subscript o i pos) (hSub fo fi) := by
  obtain ⟨t, po, so⟩ := ho
  obtain ⟨t2, pi, si⟩ := hi
  refine ⟨_, pg_sub po pi (PSet.or set_list (set_dict hu)) ha, fun d v ρ σ st H C Q rv rs s0 q => ?_⟩
  refine so ρ σ st H C _ rs s0 (q.bind.imp fun x st1 C1 H1 so1 e1 q1 vx rx => ?_)
  refine si ρ σ st1 H1 C1 _ (rs.mono e1) so1 (q1.bind.imp fun y st2 C2 H2 so2 e2 q2 vy ry => ?_)
  have rx := rx.mono e2
  have rv := (rv.mono e1).mono e2
  have rs := (rs.mono e1).mono e2
  unfold gSet at q2
  cases x with
  | cel n =>
    cases rx with
    | cel hc =>
      simp only at q2
      cases hx : st2[n]? with
      | none => rw [hx] at q2; exact q2.elim
      | some co =>
        rw [hx] at q2
        cases co with
        | lck es => exact q2.elim
        | lst xs =>
          simp only at q2
          obtain ⟨ys, h1, h2⟩ := so2.ok _ _ _ hc hx
          cases y with
          | int k =>
            cases ry
            simp only at q2
            cases hj : ixN xs.length k with
            | none => rw [hj] at q2; exact q2.elim
            | some j =>
              rw [hj] at q2
              obtain ⟨s3, e3⟩ := cel_set (g := gx X) (ds := xs) so2 hc h1 (h2.set j rv)
              have q3 : After (gx X) _ C2 H2 (R.ok ρ (st2.set n (.lst (xs.set j d)))) _ := q2
              refine .inl ⟨_, ys, k, j, rfl, rfl, h1, by rw [h2.length]; exact hj, ?_⟩
              exact q3.now s3 e3 σ (rs.mono e3)
          | _ => exact q2.elim
        | dct es =>
          simp only at q2
          obtain ⟨kvs, h1, h2⟩ := so2.ok _ _ _ hc hx
          split at q2
          · rename_i hk
            obtain ⟨key, hkey, ek⟩ : ∃ key, RepKey key y ∧ vy = kV key := by
              cases y with
              | int i => cases ry; exact ⟨_, .int i, rfl⟩
              | str s => cases ry; exact ⟨_, .str s, rfl⟩
              | _ => exact absurd hk.1 Bool.false_ne_true
            have r2 := h2.put hkey rv
            have e3 : Ext C2 H2 C2 (upd H2 _ (.dK (putK kvs key v))) := Ext.put (List.mem_of_getElem? hc) h1 rfl
            have s3 : StoOk X.K (upd H2 _ (.dK (putK kvs key v))) C2 (st2.set n (.dct (putL es y d))) := so2.put hc h1 rfl ⟨_, upd_same, r2.mono e3⟩
            have q3 : After (gx X) _ C2 H2 (R.ok ρ (st2.set n (.dct (putL es y d)))) _ := q2
            refine .inr ⟨_, _, rfl, .inl ⟨kvs, key, h1, ek, ?_, rfl⟩, q3.now s3 e3 σ (rs.mono e3)⟩
            rw [h2.length, sizeLine_eq]
            exact Nat.lt_trans hk.2 (by decide)
          · exact q2.elim
  | _ => exact q2.elim
end
end FL

/-! FLm: is; zip; [::-1]; a, b, c = ..; a < b < c -/
namespace FL
open PySem PySem.Spec PyProof.Rows L2

section
variable {X : Cx} {W : WX}
theorem o_is : ∃ r, OpR X (compareOp .Is) r ∧ SimR2 (gx X) r gIs ∧ NoX2 gIs := by
  refine ⟨_, op_isN.or op_isV, fun x y st H C v u Q so rx ry h => ?_, nox_is⟩
  unfold gIs at h
  split at h
  · rename_i b e
    rcases isD_rep e rx ry with ⟨rfl, q⟩ | ⟨k, rfl, q⟩
    · exact .inl ⟨rfl, by rw [q]; exact h.here so _ (.bl _)⟩
    · exact .inr ⟨k, rfl, by rw [q]; exact h.here so _ (.bl _)⟩
  · exact h.elim
theorem o_isNot : ∃ r, OpR X (compareOp .IsNot) r ∧ SimR2 (gx X) r gIsNot ∧ NoX2 gIsNot := by
  refine ⟨_, op_notN.or op_isNotV, fun x y st H C v u Q so rx ry h => ?_, nox_isNot⟩
  unfold gIsNot at h
  split at h
  · rename_i b e
    rcases isD_rep e rx ry with ⟨rfl, q⟩ | ⟨k, rfl, q⟩
    · exact .inl ⟨rfl, by rw [q]; exact h.here so _ (.bl _)⟩
    · exact .inr ⟨k, rfl, by rw [q]; exact h.here so _ (.bl _)⟩
  · exact h.elim

/-! ### zip -/
def sdOf (st : Sto) (d : D) : Option Sd := match d with
  | .cel n => match st[n]? with
    | some (.lst _) => some (.cel n)
    | _ => none
  | d => (itemsR st d).map .fix
def zipS (st : Sto) (ds : List D) : Option Src := match ds with
  | [.tup xs, .tup ys] => some (.zip (.fix xs) (.fix ys))
  | [x, y] => match sdOf st x, sdOf st y with
    | some a, some b => some (.zip a b)
    | _, _ => none
  | _ => none
def iZip (f : FA) : FI := fun ρ st => (f ρ st).bind fun ds st1 => R.opt (zipS st1 ds) st1
/-- the list at a is what the side tells, as it stands -/
def SdAt (K : PySem.W.Frag) (sq : Hp → List V → Prop) (s : Sd) (C₁ : Ad) (H₁ : Hp) : Prop := ∀ (st : Sto) (C : Ad) (H : Hp), StoOk K H C st → Stay C₁ H₁ C H → ∀ (i : Nat) (o : Option D), sdAt s st i = some o →
  ∃ xs, sq H xs ∧ match o with
    | some d => ∃ v, xs[i]? = some v ∧ Rep K H C v d
    | none => xs.length ≤ i
theorem sdAt_fix {K : PySem.W.Frag} {sq : Hp → List V → Prop} {xs : List V} {ds : List D} {C₁ : Ad} {H₁ : Hp} (hq : ∀ H' C', Stay C₁ H₁ C' H' → sq H' xs) (hr : Reps K H₁ C₁ xs ds) : SdAt K sq (.fix ds) C₁ H₁ := fun st C H so e i o hn => by
  have hn : ds[i]? = o := Option.some.inj hn
  refine ⟨xs, hq H C e, ?_⟩
  cases o with
  | some d =>
    obtain ⟨v, h1, h2⟩ := hr.get hn
    exact ⟨v, h1, h2.monoS e⟩
  | none => rw [hr.length]; exact List.getElem?_eq_none_iff.mp hn
theorem sdAt_of {d : D} {s : Sd} {st : Sto} {C : Ad} {H : Hp} {v : V} (h : sdOf st d = some s) (so : StoOk X.K H C st) (r : Rep X.K H C v d) : ∃ a xs, v = .ref a ∧ SqL X.K H a xs ∧ SdAt X.K (fun H xs => SqL X.K H a xs) s C H := by
  unfold sdOf at h
  split at h
  · split at h
    · rename_i n _ ds hn
      cases h
      cases r with
      | @cel a _ hc =>
        obtain ⟨xs, h1, h2⟩ := so.ok _ _ _ hc hn
        refine ⟨a, xs, rfl, SqL.of h1, fun st' C' H' so' e i o hs => ?_⟩
        unfold sdAt at hs
        simp only at hs
        split at hs
        · rename_i ds' hd
          obtain ⟨ys, k1, k2⟩ := so'.ok _ _ _ (e.get hc) hd
          have hs : ds'[i]? = o := Option.some.inj hs
          refine ⟨ys, SqL.of k1, ?_⟩
          cases o with
          | some d =>
            obtain ⟨v, h3, h4⟩ := k2.get hs
            exact ⟨v, h3, h4⟩
          | none => rw [k2.length]; exact List.getElem?_eq_none_iff.mp hs
        · cases hs
    · cases h
  · rename_i hc
    rw [Option.map_eq_some_iff] at h
    obtain ⟨ds, e1, rfl⟩ := h
    obtain ⟨a, xs, rfl, h1, h2, h3⟩ := itemsR_rep e1 so r
    exact ⟨a, xs, rfl, h1, sdAt_fix (fun H' C' e' => h3 H' C' e' fun n hn => absurd hn (hc n)) h2⟩
theorem walk_zip {a b : Addr} {s t : Sd} {C₁ : Ad} {H₁ : Hp} {SQ : Hp → Addr → List V → Prop} {J : It} 
    (hgo : ∀ i H, (∃ (xs ys : List V) (x y : V), SQ H a xs ∧ SQ H b ys ∧ xs[i]? = some x ∧ ys[i]? = some y) → J.go i H)
    (hy : ∀ i H v H', J.yld i H v H' → ∃ T x y, v = .ref T ∧ H T = none ∧ H' = upd H T (.tup [x, y]) ∧ (∀ xs, SQ H a xs → xs[i]? = some x) ∧ ∀ ys, SQ H b ys → ys[i]? = some y)
    (hst : ∀ i H, (∃ xs ys : List V, SQ H a xs ∧ SQ H b ys ∧ (xs.length ≤ i ∨ ys.length ≤ i)) → J.stop i H)
    (ha : SdAt X.K (fun H xs => SQ H a xs) s C₁ H₁) (hb : SdAt X.K (fun H xs => SQ H b xs) t C₁ H₁) : Walk (gx X) J (.zip s t) C₁ H₁ := fun st C H so e i o hn => by
  unfold nextS at hn
  simp only at hn
  cases e1 : sdAt s st i with
  | none => rw [e1] at hn; cases hn
  | some o1 =>
    cases e2 : sdAt t st i with
    | none => rw [e1, e2] at hn; cases o1 <;> cases hn
    | some o2 =>
      rw [e1, e2] at hn
      obtain ⟨xs, q1, k1⟩ := ha st C H so e i o1 e1
      obtain ⟨ys, q2, k2⟩ := hb st C H so e i o2 e2
      cases o1 with
      | none => cases hn; exact hst i H ⟨xs, ys, q1, q2, .inl k1⟩
      | some d1 =>
        cases o2 with
        | none => cases hn; exact hst i H ⟨xs, ys, q1, q2, .inr k2⟩
        | some d2 =>
          cases hn
          obtain ⟨v1, x1, r1⟩ := k1
          obtain ⟨v2, x2, r2⟩ := k2
          refine ⟨hgo i H ⟨xs, ys, v1, v2, q1, q2, x1, x2⟩, fun x H' hyl => ?_⟩
          obtain ⟨T, x', y', rfl, hT, rfl, f1, f2⟩ := hy i H x H' hyl
          have g1 := f1 xs q1
          have g2 := f2 ys q2
          rw [x1] at g1; cases g1
          rw [x2] at g2; cases g2
          exact ⟨so.tree hT, Ext.tree hT, .tup upd_same (so.fresh hT) ((Reps.cons r1 (.cons r2 .nil)).mono (Ext.tree hT))⟩
end
section
variable {X : Cx} {W : WX}
theorem si_zip {e e2 : Expr} {f : FA} {p pos tpos : Pos} {elts : List Expr} {kk : Nat} (hm : X.mg "zip" = none) (ha : SA X W [e, e2] f) (hg : Gl X "zip" := by rfl)
    (hs : starEach [e, e2] X.env = (false, eval e X.env) :: starEach [e2] X.env := by rfl) (hpl : (backTo pos (starEach [e2] X.env)).any (·.1) = false := by rfl) :
    SI X W (.Tuple elts kk tpos) (.Call (.Name "zip" p) [e, e2] [] pos) (iZip f) := by
  obtain ⟨t, pa, s⟩ := ha
  refine ⟨_, RZ.pi_zipA hg hm pa hs hpl, fun ρ σ st H C P rs so q => s ρ σ st H C _ rs so (q.bind.imp fun ds st1 C1 H1 so1 e1 h1 vs rv => ?_)⟩
  obtain ⟨src, e3, h1⟩ := h1.opt
  unfold zipS at e3
  split at e3
  · cases e3
    cases rv with
    | cons r1 r2 =>
      cases r2 with
      | cons r2 r3 =>
        cases r3
        obtain ⟨a, xs, rfl, k1, o1, k2⟩ := tup_rep r1
        obtain ⟨b, ys, rfl, l1, o2, l2⟩ := tup_rep r2
        refine ⟨a, b, xs, ys, rfl, .inr ⟨SqT.of k1, SqT.of l1, h1.here so1 _ ?_⟩⟩
        exact walk_zip (SQ := fun H a xs => SqT X.K H a xs) (fun _ _ h => h) (fun _ _ _ _ h => h) (fun _ _ h => h)
          (sdAt_fix (fun H' C' e' => SqT.of (e'.keep _ _ k1 o1)) k2) (sdAt_fix (fun H' C' e' => SqT.of (e'.keep _ _ l1 o2)) l2)
  · cases rv with
    | cons r1 r2 =>
      cases r2 with
      | cons r2 r3 =>
        cases r3
        split at e3
        · rename_i a' b' m1 m2
          cases e3
          obtain ⟨a, xs, rfl, k1, k2⟩ := sdAt_of m1 so1 r1
          obtain ⟨b, ys, rfl, l1, l2⟩ := sdAt_of m2 so1 r2
          refine ⟨a, b, xs, ys, rfl, .inl ⟨k1, l1, h1.here so1 _ ?_⟩⟩
          exact walk_zip (SQ := fun H a xs => SqL X.K H a xs) (fun _ _ h => h) (fun _ _ _ _ h => h) (fun _ _ h => h) k2 l2
        · cases e3
  · cases e3
end

/-! ### x[::-1] -/
def rRev (K : PySem.W.Frag) : V → Hp → VK → Prop := fun x H Q => (∃ z, x = .str z ∧ z.length ≤ sizeLine ∧ Q (.str (sv z.cps.toList.reverse)) H) ∨ ∃ a xs, x = .ref a ∧ SqL K H a xs ∧ ∀ p, H p = none → Q (.ref p) (upd H p (.lst xs.reverse))
def tRev (K : PySem.W.Frag) (te : TE) : TE := fun σ H Q => te σ H fun x H1 => rRev K x H1 Q
theorem str_rev (z : Str) : (⟨((Builtin.Str.strSliceIndices none none (-1) z.length).filterMap (z.cps[·]?)).toArray⟩ : Str) = sv z.cps.toList.reverse := by
  have e : Builtin.Str.strSliceIndices none none (-1) z.length = (List.range z.cps.size).reverse := by
    show sliceRange _ _ (-1) = _
    have h : ∀ n : Nat, sliceRange ((n : Int) - 1) (-1) (-1) = (List.range n).reverse := fun n => by rw [PySem.W.krv_sliceRange, PySem.W.krv_range]
    exact h z.cps.size
  rw [e, List.filterMap_reverse, PySem.W.krv_all]
theorem pe_rev {X : Cx} {e : Expr} {te : TE} {k : Nat} {p1 p2 p3 pos : Pos} (he : PE X e te) : PE X (.Subscript e (.Slice none none (some (.UnaryOp .USub (.Constant (.int 1) k p1) p2)) p3) pos) (tRev X.K te) := by
  refine ⟨fun pins s σ H Q I h => ?_⟩
  refine Subscript_ (thn (he.run pins s σ H _ I h) fun v s1 ⟨x, H1, I1, r1, q1⟩ => ?_)
  have hst : PO X (some (.UnaryOp .USub (.Constant (.int 1) k p1) p2)) (tPart (tUn (rU fun i => .int (-i)) (tC (.int 1)))) := po_some (pe_un un_neg pe_int)
  refine wpAny_Slice (thn (po_none.run pins s1 σ H1 (fun o H2 => o = none ∧ H2 = H1) I1 ⟨rfl, rfl⟩) fun vl s2 ⟨l, H2, I2, pl, el, e2⟩ => ?_)
  subst el e2
  refine thn (po_none.run pins s2 σ H2 (fun o H3 => o = none ∧ H3 = H2) I2 ⟨rfl, rfl⟩) fun vu s3 ⟨u, H3, I3, pu, eu, e3⟩ => ?_
  subst eu e3
  refine thn (hst.run pins s3 σ H3 (fun o H4 => o = some (-1) ∧ H4 = H3) I3 ⟨1, rfl, -1, rfl, rfl, rfl⟩) fun vs s4 ⟨o, H4, I4, ps, eo, e4⟩ => ?_
  subst eo e4
  have I5 : Inv X pins σ H4 { s4 with heap := s4.heap.push { cls := .type "slice", data := .fields #[vl, vu, vs] } } := I4.kept (t' := s4.toks) fun b ob q => Heap.get?_push_of_some _ q
  rcases q1 with ⟨z, ex, hz, q⟩ | ⟨a, xs, ex, hx, q⟩
  · subst ex
    obtain ⟨t, rfl⟩ := r1
    show wpAny (model X.prog X.w) X.A (subscriptTail e (.Slice none none (some (.UnaryOp .USub (.Constant (.int 1) k p1) p2)) p3) (.str z t) (.ref s4.heap.objs.size)) (EP X pins σ Q) X.xe { s4 with heap := s4.heap.push { cls := .type "slice", data := .fields #[vl, vu, vs] } }
    obtain ⟨l, rfl, hl⟩ := IsPart.raw pl
    obtain ⟨u, rfl, hu⟩ := IsPart.raw pu
    obtain ⟨st, rfl, hs⟩ := IsPart.raw ps
    have h0 : ((st.map (·.1)).getD 1 == 0) = false := by rw [hs]; rfl
    refine tail_any (ops := [.str z t, .ref s4.heap.objs.size]) (typeIs_str _ _ _) (F.slot_str_getitem.lookup) ?_ (by with_unfolding_all rfl)
    refine wpAny_getItem_str_slice (l := l) (u := u) (st := st) ⟨_, Heap.get?_push_size _ rfl, rfl, rfl⟩ h0 ?_
    unfold sliceMade slicePicked
    rw [hl, hu, hs]
    show Made.post (if ((-1 : Int) == 1 && (Builtin.Str.strSliceIndices none none (-1) z.length).length == z.length) = true then Made.val (.str z t)
      else Made.str ⟨((Builtin.Str.strSliceIndices none none (-1) z.length).filterMap (z.cps[·]?)).toArray⟩) (EP X pins σ Q) _
    rw [str_rev, if_neg (by simp)]
    exact ⟨by rw [sv_len, List.length_reverse, Array.length_toList]; exact hz, .str _, H4, I5.tok _, ⟨_, rfl⟩, q⟩
  · subst ex
    cases r1
    obtain ⟨its, r, ht, hz⟩ := I5.list hx
    have hlen := r.length
    show wpAny (model X.prog X.w) X.A (subscriptTail e (.Slice none none (some (.UnaryOp .USub (.Constant (.int 1) k p1) p2)) p3) (.ref a) (.ref s4.heap.objs.size)) (EP X pins σ Q) X.xe { s4 with heap := s4.heap.push { cls := .type "slice", data := .fields #[vl, vu, vs] } }
    refine tail_any (ops := [.ref a, .ref s4.heap.objs.size]) ht.isList.typeIs (PySem.slot_list_getitem.lookup) ?_ (by with_unfolding_all rfl)
    refine wpAny_getItem_list_slice ht.isList (Heap.IsSliceOf.new _ vl vu vs) pl pu ps (by decide) ?_ (by rw [List.size_toArray]; omega)
    rw [PySem.W.krv_pick]
    refine ⟨.ref _, _, I5.laid (t' := s4.toks) (o := .lst xs.reverse) (fun b ob q => Heap.get?_push_of_some _ q) (Nat.le_refl _) ?_, rfl, q _ (I5.hok.fresh (Nat.le_refl _))⟩
    exact ⟨by rw [List.length_reverse]; exact hz, _, 0, r.reverse, Heap.get?_push_size _ rfl⟩
def gRev (x : D) (st : Sto) : R D := match x with
  | .str s => if s.length ≤ lim then .ok (.str s.reverse) st else .no
  | d => match itemsR st d with
    | some ds => .ok (.lst ds.reverse) st
    | none => .no
def fRev (f : FE) : FE := fun ρ st => (f ρ st).bind fun x st1 => gRev x st1
theorem Reps.rev {K : PySem.W.Frag} {H : Hp} {C : Ad} {ds : List D} {vs : List V} (h : Reps K H C vs ds) : Reps K H C vs.reverse ds.reverse := by
  induction ds generalizing vs with
  | nil => cases h; exact .nil
  | cons d ds ih =>
    cases h with
    | cons h1 h2 =>
      rw [List.reverse_cons, List.reverse_cons]
      exact (ih h2).app (.cons h1 .nil)
section
variable {X : Cx} {W : WX}
theorem se_rev {a : Expr} {f : FE} {k : Nat} {p1 p2 p3 pos : Pos} (ha : SE X W a f) : SE X W (.Subscript a (.Slice none none (some (.UnaryOp .USub (.Constant (.int 1) k p1) p2)) p3) pos) (fRev f) := by
  obtain ⟨t, p, s⟩ := ha
  refine ⟨_, pe_rev p, fun ρ σ st H C Q rs so q => s ρ σ st H C _ rs so (q.bind.imp fun d st1 C1 H1 so1 e1 h1 v rv => ?_)⟩
  unfold gRev at h1
  split at h1
  · cases rv
    split at h1
    · rename_i hl
      refine .inl ⟨_, rfl, by rw [sv_len]; exact lim_line hl, ?_⟩
      rw [sv_tl]
      exact h1.here so1 _ (.str _)
    · exact h1.elim
  · split at h1
    · rename_i xs e
      obtain ⟨b, ys, rfl, k1, k2, _⟩ := itemsR_rep e so1 rv
      exact .inr ⟨b, ys, rfl, k1, new_lst h1 so1 k2.rev⟩
    · exact h1.elim

/-! ### a, b, c = x, y, z -/
theorem ss_par3 {i j l : Nat} {x y z : Str} {a b c : Expr} {fa : FA} {px py pz pt pos : Pos} {kt k2 pt2} (hc : X.calm = true) (hN : X.N.Nodup) (ha : SA X W [a, b, c] fa) (hi : X.N[i]? = some x := by rfl) (hj : X.N[j]? = some y := by rfl) (hl : X.N[l]? = some z := by rfl)
    (hij : i ≠ j := by decide) (hil : i ≠ l := by decide) (hjl : j ≠ l := by decide)
    (hx : X.env.scope.names.lookup x = some .local := by rfl) (hy : X.env.scope.names.lookup y = some .local := by rfl) (hz : X.env.scope.names.lookup z = some .local := by rfl)
    (hw : swappedStores [.Tuple [.Name x px, .Name y py, .Name z pz] kt pt] (.Tuple [a, b, c] k2 pt2) X.env = pure (some [x, y, z]) := by rfl)
    (hs : swapsWithSole [.Tuple [.Name x px, .Name y py, .Name z pz] kt pt] (.Tuple [a, b, c] k2 pt2) pos.line X.env = pure false := by rfl) :
    SS X W (.Assign [.Tuple [.Name x px, .Name y py, .Name z pz] kt pt] (.Tuple [a, b, c] k2 pt2) pos) (fPar3 i j l fa) := by
  obtain ⟨t, p, s⟩ := ha
  refine ⟨_, ps_par3 hc hN hi hj hl hij hil hjl hx hy hz p hw hs, fun ρ σ st H C D rs so q => s ρ σ st H C _ rs so ((q.val rs).imp fun ds st1 C1 H1 so1 e1 h1 vs rv => ?_)⟩
  split at h1
  · cases rv with
    | cons r1 r2 =>
      cases r2 with
      | cons r2 r3 =>
        cases r3 with
        | cons r3 r4 =>
          cases r4
          exact ⟨_, _, _, rfl, h1.now so1 ((((rs.mono e1).set r1).set r2).set r3)⟩
  · exact h1.elim

/-! ### a < b < c -/
def fChain (f h : F2) (a b c : FE) : FE := fun ρ st => (a ρ st).bind fun x st1 => (b ρ st1).bind fun y st2 => (f x y st2).bind fun d st3 => match d with
  | .bl true => (c ρ st3).bind fun z st4 => h y z st4
  | .bl false => .ok (.bl false) st3
  | _ => .no
theorem sim_chain {r r' : R2} {f h : F2} {ta tb tc : TE} {a b c : FE} (hr : SimR2 (gx X) r f) (hn : NoX2 f) (hr' : SimR2 (gx X) r' h) (hn' : NoX2 h) (ha : SimE (gx X) W ta a) (hb : SimE (gx X) W tb b) (hc : SimE (gx X) W tc c) : SimE (gx X) W (tChain r r' ta tb tc) (fChain f h a b c) := fun ρ σ st H C Q rs so q => by
  refine ha ρ σ st H C _ rs so (q.bind.imp fun x st1 C1 H1 so1 e1 h1 v rv => ?_)
  refine hb ρ σ st1 H1 C1 _ (rs.mono e1) so1 (h1.bind.imp fun y st2 C2 H2 so2 e2 h2 u ru => ?_)
  have h2 := h2.bind.nox (W' := fun _ _ _ => False) (hn x y st2)
  refine hr x y st2 H2 C2 v u _ so2 (rv.mono e2) ru (h2.imp fun d st3 C3 H3 so3 e3 h3 w rw => ?_)
  cases d with
  | bl k =>
    cases rw
    cases k with
    | true =>
      refine ⟨true, rfl, iteT (hc ρ σ st3 H3 C3 _ (((rs.mono e1).mono e2).mono e3) so3 (h3.bind.imp fun z st4 C4 H4 so4 e4 h4 w' rw' => ?_))⟩
      exact hr' y z st4 H4 C4 u w' Q so4 ((ru.mono e3).mono e4) rw' (h4.nox (hn' y z st4))
    | false => exact ⟨false, rfl, iteF (h3.here so3 _ (.bl _))⟩
  | _ => exact h3.elim
theorem se_chain {op op' : CmpOp} {a b c : Expr} {fa fb fc : FE} {f h : F2} {pos : Pos} (ho : ∃ r, OpR X (compareOp op) r ∧ SimR2 (gx X) r f ∧ NoX2 f) (ho' : ∃ r, OpR X (compareOp op') r ∧ SimR2 (gx X) r h ∧ NoX2 h)
    (ha : SE X W a fa) (hb : SE X W b fb) (hc : SE X W c fc) (hm : lastMarks [op, op'] [b, c] = false := by with_unfolding_all rfl) : SE X W (.Compare a [op, op'] [b, c] pos) (fChain f h fa fb fc) := by
  obtain ⟨r, h1, h2, h3⟩ := ho
  obtain ⟨r', h1', h2', h3'⟩ := ho'
  obtain ⟨ta, pa, sa⟩ := ha
  obtain ⟨tb, pb, sb⟩ := hb
  obtain ⟨tc, pc, sc⟩ := hc
  exact ⟨_, pe_chain h1 h1' pa pb pc hm, sim_chain h2 h3 h2' h3' sa sb sc⟩
theorem st_chain {op op' : CmpOp} {a b c : Expr} {fa fb fc : FE} {f h : F2} {pos : Pos} (ho : ∃ r, OpR X (compareOp op) r ∧ SimR2 (gx X) r f ∧ NoX2 f) (ho' : ∃ r, OpR X (compareOp op') r ∧ SimR2 (gx X) r h ∧ NoX2 h)
    (ha : SE X W a fa) (hb : SE X W b fb) (hc : SE X W c fc) (hm : lastMarks [op, op'] [b, c] = false := by with_unfolding_all rfl) : ST X W (.Compare a [op, op'] [b, c] pos) (fTest (fChain f h fa fb fc)) := by
  obtain ⟨r, h1, h2, h3⟩ := ho
  obtain ⟨r', h1', h2', h3'⟩ := ho'
  obtain ⟨ta, pa, sa⟩ := ha
  obtain ⟨tb, pb, sb⟩ := hb
  obtain ⟨tc, pc, sc⟩ := hc
  exact ⟨_, pt_chain h1 h1' pa pb pc hm, sim_test (sim_chain h2 h3 h2' h3' sa sb sc)⟩
end
end FL

/-! FLn: minus, x op= e; a body's function as it is; defs by what the head tells of them -/
namespace FL
open PySem PySem.Spec PyProof.Rows L2

def fNeg (f : FE) : FE := fun ρ st => (f ρ st).bind fun d st1 => match d with
  | .int i => .ok (.int (-i)) st1
  | _ => .no
section
variable {X : Cx} {W : WX}
theorem se_neg {a : Expr} {f : FE} {pos : Pos} (ha : SE X W a f) : SE X W (.UnaryOp .USub a pos) (fNeg f) := by
  obtain ⟨t, p, s⟩ := ha
  refine ⟨_, pe_un un_neg p, fun ρ σ st H C Q rs so q => s ρ σ st H C _ rs so (q.bind.imp fun d st1 C1 H1 so1 e1 h1 v rv => ?_)⟩
  cases d with
  | int i => cases rv; exact ⟨i, rfl, h1.here so1 _ (.int _)⟩
  | _ => exact h1.elim
end
theorem pl_list : PlainAttrs (Ty.nm .list) := F.plainAttrs_list
theorem pl_str : PlainAttrs (Ty.nm .str) := F.plainAttrs_str
theorem sl_list_append : Slot (Ty.nm .list) "append" "list.append" := slot_list_append
theorem sl_list_pop : Slot (Ty.nm .list) "pop" "list.pop" := F.slot_list_pop
theorem sl_str_join : Slot (Ty.nm .str) "join" "str.join" := F.slot_str_join
/-- sorted(..) into a cell -/
theorem c_sortedC {X : Cx} : ∃ r, CallR X (.builtin "sorted") r ∧ SimCR (gx X) r (kCell kSorted) ∧ NoX1 (kCell kSorted) := by
  refine ⟨_, cr_sortedA.or cr_sortedI, simcr_cell fun ds st H C vs Q so rv xs0 st' h => ?_, fun ds st c z st' h => by unfold kCell at h; split at h <;> cases h⟩
  unfold kSorted at h
  split at h
  · cases rv with
    | cons r1 r2 =>
      cases r2
      split at h
      · rename_i xs e
        obtain ⟨a, ys, rfl, h1, h2, _⟩ := itemsR_rep e so r1
        split at h
        · rename_i ss e2
          cases h
          rw [strsOf_eq e2] at h2
          rw [Reps.strs h2] at h1
          refine ⟨rfl, fun k => .inl ⟨a, ss.map sv, rfl, h1, fun zs p hp hs hn => ?_⟩⟩
          have e3 : zs = (srt leS ss).map sv := by
            have q1 : zs.map (fun z => z.cps.toList) = srt leS ss := srt_of ordS (by
              have := hp.map (fun z : Str => z.cps.toList)
              rw [List.map_map] at this
              have e4 : (fun z : Str => z.cps.toList) ∘ sv = id := by funext z; simp
              rw [e4, List.map_id] at this
              exact this) (List.pairwise_map.mpr (sortedS_pw hs))
            rw [← q1, List.map_map]
            have e5 : sv ∘ (fun z : Str => z.cps.toList) = id := by funext z; simp [sv]
            rw [e5, List.map_id]
          rw [e3]
          exact k _ p (Reps.of_strs _) hn
        · split at h
          · rename_i is e2
            cases h
            rw [intsOf_eq e2] at h2
            rw [Reps.ints h2] at h1
            refine ⟨rfl, fun k => .inr ⟨a, is, rfl, h1, fun ns p hp hs hn => ?_⟩⟩
            have e3 : ns = srt leI is := srt_of ordI hp (hs.imp fun h => by unfold leI; simpa using h)
            rw [e3]
            exact k _ p (Reps.of_ints _) hn
          · cases h
      · cases h
  · cases h
theorem Room.u65 {k : Nat} {A : Around} (r : Room k A) : A.units + 65 < cLine := by have := r.un; omega
theorem Room.u1 {k : Nat} {A : Around} (r : Room k A) : A.units + 1 < cLine := by have := r.un; omega

section
variable {X : Cx} {W : WX}
theorem st_cmp {op : CmpOp} {a b : Expr} {fa fb : FE} {f : F2} {pos : Pos} (ho : ∃ r, OpR X (compareOp op) r ∧ SimR2 (gx X) r f ∧ NoX2 f) (ha : SE X W a fa) (hb : SE X W b fb) (hm : behindInMarks op b = false := by first | exact nomark _ | rfl) :
    ST X W (.Compare a [op] [b] pos) (fTest (fBin f fa fb)) := by
  obtain ⟨r, h1, h2, h3⟩ := ho
  obtain ⟨ta, pa, sa⟩ := ha
  obtain ⟨tb, pb, sb⟩ := hb
  exact ⟨_, pt_cmpR h1 pa pb hm, sim_test (sim_op h2 h3 sa sb)⟩
end
/-- a block's scope, checked -/
def blkB (N : List Str) (sc scope : Scope) (own : List (Str × Nat)) : Bool :=
  (match scope.kind with | .function => true | _ => false) && scope.names.all (fun y => decide (scope.names.lookup y.1 = some y.2)) && own.all (fun p => decide (N[p.2]? = some p.1)) &&
  scope.names.all (fun y => !decide (y.2 = .free) || decide (sc.names.lookup y.1 = some .cell) || decide (sc.names.lookup y.1 = some .free)) &&
  scope.names.all fun y => !(decide (y.2 = .local) || decide (y.2 = .cell)) || decide (y.1 ∈ own.map (·.1)) || decide (y.1 ∉ N)
theorem blkOk {N : List Str} {sc scope : Scope} {own : List (Str × Nat)} (h : blkB N sc scope own = true) : BlkOk N sc scope own := by
  unfold blkB at h
  simp only [Bool.and_eq_true, List.all_eq_true, Bool.or_eq_true, Bool.not_eq_true', decide_eq_true_eq, decide_eq_false_iff_not, Bool.or_eq_false_iff] at h
  obtain ⟨⟨⟨⟨h1, h2⟩, h3⟩, h4⟩, h5⟩ := h
  refine ⟨?_, h2, h3, fun y hy hf => ?_, fun y hy hl => ?_⟩
  · revert h1
    cases scope.kind <;> first | (intro _; rfl) | (intro h; cases h)
  · rcases h4 y hy with (h | h) | h
    · exact absurd hf h
    · exact .inl h
    · exact .inr h
  · rcases h5 y hy with (h | h) | h
    · rcases hl with q | q
      · exact absurd q h.1
      · exact absurd q h.2
    · exact .inl h
    · exact .inr h
/-- a body's function, as it is -/
def genF (N : List Str) (np : Nat) (fb : FS) : F1 := fun ds st => if ds.length = np then
    match fb (startE N ds) st with
    | .rt d st2 => .ok d st2
    | .nx _ st2 => .ok .non st2
    | .exc c x _ st2 => .exc c x st2
    | _ => .no
  else .no
/-- .. one that lets no error out -/
def genF0 (N : List Str) (np : Nat) (fb : FS) : F1 := fun ds st => (genF N np fb ds st).quiet
def CleanR (N : List Str) (np : Nat) (fb : FS) (ds : List D) (st : Sto) (r : R D) : Prop := match r with
  | .no => True
  | .ok d st2 => ds.length = np ∧ ((∃ d' st', fb (startE N ds) st = .rt d' st' ∧ Fz st st' d' st2 d) ∨ ∃ ρ' st', fb (startE N ds) st = .nx ρ' st' ∧ Fz st st' .non st2 d)
  | .exc c x st2 => ds.length = np ∧ ∃ x' ρ' st', fb (startE N ds) st = .exc c x' ρ' st' ∧ Fz st st' x' st2 x
theorem Clean.of {N : List Str} {np : Nat} {fb : FS} {F : F1} (h : ∀ ds st, CleanR N np fb ds st (F ds st)) : Clean N np fb F := fun ds st => by
  have h := h ds st
  show CleanR N np fb ds st (F ds st)
  exact h
theorem Clean.at_ {N : List Str} {np : Nat} {fb : FS} {F : F1} (h : Clean N np fb F) (ds : List D) (st : Sto) : CleanR N np fb ds st (F ds st) := h ds st
theorem clean_gen {N : List Str} {np : Nat} {fb : FS} : Clean N np fb (genF N np fb) := Clean.of fun ds st => by
  unfold genF
  split
  · rename_i h
    cases e : fb (startE N ds) st with
    | no => exact trivial
    | bk ρ s => exact trivial
    | ct ρ s => exact trivial
    | rt d s => exact ⟨h, .inl ⟨d, s, e, .same⟩⟩
    | nx ρ s => exact ⟨h, .inr ⟨ρ, s, e, .same⟩⟩
    | exc c x ρ s => exact ⟨h, x, ρ, s, e, .same⟩
  · exact trivial
theorem Clean.quiet {N : List Str} {np : Nat} {fb : FS} {F : F1} (c : Clean N np fb F) : Clean N np fb (fun ds st => (F ds st).quiet) := Clean.of fun ds st => by
  have h := c.at_ ds st
  revert h
  show CleanR N np fb ds st (F ds st) → CleanR N np fb ds st (F ds st).quiet
  cases F ds st with
  | no => exact fun _ => trivial
  | exc c x s => exact fun _ => trivial
  | ok d s => exact fun h => h
theorem nox_quiet {F : F1} : NoX1 (fun ds st => (F ds st).quiet) := fun ds st c z st' h => by
  revert h
  show (F ds st).quiet = _ → _
  cases F ds st with
  | no => exact fun h => nomatch h
  | exc c x s => exact fun h => nomatch h
  | ok d s => exact fun h => nomatch h
theorem clean_gen0 {N : List Str} {np : Nat} {fb : FS} : Clean N np fb (genF0 N np fb) := clean_gen.quiet
theorem nox_gen0 {N : List Str} {np : Nat} {fb : FS} : NoX1 (genF0 N np fb) := nox_quiet

/-- what the head tells of a def -/
structure HasD (K : PySem.W.Frag) (mg : Str → Option Value) (x : Str) (s : Stmt) : Prop where
  ex : ∃ f fd, mg x = some (.ref f) ∧ FunD K x x (defArgs s) (defBody s) (defScope s) [] [] f fd
abbrev BindsR (x : Str) (s : Stmt) (ps : List Str) : Prop := ∀ (kV doc pm : Value) (an : Option Addr) (cdv ct : Value) (us : List Value), us.length = ps.length → bindArgs (PySem.W.fnOf x x (defArgs s) (defBody s) (defScope s) .none kV doc pm an cdv ct) ⟨us, []⟩ = pure (ps.zip us)
def fNo : F1 := fun _ _ => .no
section
variable {P : Program} {w : World} {K : PySem.W.Frag} {mg : Str → Option Value} {base : Heap} {CX : CXT} {k : Nat} {s : Stmt} {x : Str} {ps N : List Str} {F : F1} {fb : FS}
theorem DefC.of0 (hd : HasD K mg x s) (S : FnScope N ps (defScope s)) (b : BindsR x s ps) (cl : Clean N ps.length fb F) (nx : NoX1 F)
    (hb : ∀ (cdv : Value) (A : Around) (outer : List Env) (sh : Shared) (H : Hp) (E : XK) (f : Addr), Room k (A.deeper (envOfC x (defScope s) sh.heap.objs.size f cdv)) →
      SSs (cxOf CX0 P w K mg base N x (defScope s) f cdv A outer sh H E).nox W0 (defBody s) fb) : DefC P w K mg base CX0 (k + 1) s x ps F := by
  obtain ⟨f, fd, hm, FD⟩ := hd.ex
  exact DefC.mk0 FD hm S (FD.bindsN b) cl nx fun cdv A outer sh H E hr => hb cdv A outer sh H E f hr
/-- .. nothing said -/
theorem DefC.nil (hd : HasD K mg x s) (b : BindsR x s ps) : DefC P w K mg base CX k s x ps fNo := by
  obtain ⟨f, fd, hm, FD⟩ := hd.ex
  have z : ∀ vs H Q E, ¬ spF ⟨K, mg⟩ ps.length fNo vs H Q E := fun vs H Q E ⟨ds, st, C, r, l, so, q⟩ => q
  exact ⟨f, fd, hm, FD, FD.bindsN b, ⟨fun vs H Q E h => absurd h (z _ _ _ _), fun A outer s H args us vs Q E hr e hb hv h => absurd h (z _ _ _ _)⟩⟩
end
end FL

/-! FLo: how the functions evaluate: rewriting rules, loops without and with a changing store -/
namespace FL
open PySem PySem.Spec PyProof.Rows L2

section
variable {α β : Type} {ρ : En} {st : Sto} {f h a b c : FE} {t u : FT} {fa ga : FA} {d : D}
@[simp] theorem R.quiet_ok' {a : α} {st : Sto} : R.quiet (.ok a st) = .ok a st := (rfl)
@[simp] theorem R.quiet_no : R.quiet (.no : R α) = .no := (rfl)
@[simp] theorem R.quiet_exc {c : Nat} {x : D} {st : Sto} : R.quiet (.exc c x st : R α) = .no := (rfl)
@[simp] theorem ev_C : fC d ρ st = .ok d st := (rfl)
@[simp] theorem ev_Var {i : Nat} : fVar i ρ st = (match ρ[i]? with | some (some d) => .ok d st | _ => .no) := (rfl)
@[simp] theorem ev_Nil : faNil ρ st = .ok [] st := (rfl)
@[simp] theorem ev_Cons : faCons f fa ρ st = (f ρ st).bind fun d st1 => (fa ρ st1).bind fun ds st2 => .ok (d :: ds) st2 := (rfl)
@[simp] theorem ev_Bin {g : F2} : fBin g a b ρ st = (a ρ st).bind fun x st1 => (b ρ st1).bind fun y st2 => g x y st2 := (rfl)
@[simp] theorem ev_Test : fTest f ρ st = (f ρ st).bind fun d st1 => (match d with | .bl b => .ok b st1 | _ => .no) := (rfl)
@[simp] theorem ev_NotT : fNotT t ρ st = (t ρ st).bind fun b st1 => .ok (!b) st1 := (rfl)
@[simp] theorem ev_AndT : fAndT t u ρ st = (t ρ st).bind fun b st1 => if b = true then u ρ st1 else .ok false st1 := (rfl)
@[simp] theorem ev_OrT : fOrT t u ρ st = (t ρ st).bind fun b st1 => if b = true then .ok true st1 else u ρ st1 := (rfl)
@[simp] theorem ev_AndE : fAndE f h ρ st = (f ρ st).bind fun d st1 => (match d with | .bl b => if b = true then h ρ st1 else .ok (.bl false) st1 | _ => .no) := (rfl)
@[simp] theorem ev_OrE : fOrE f h ρ st = (f ρ st).bind fun d st1 => (match d with | .bl b => if b = true then .ok (.bl true) st1 else h ρ st1 | _ => .no) := (rfl)
@[simp] theorem ev_NotE : fNotE f ρ st = (f ρ st).bind fun d st1 => (match d with | .bl b => .ok (.bl (!b)) st1 | _ => .no) := (rfl)
@[simp] theorem ev_IfE : fIfE t f h ρ st = (t ρ st).bind fun b st1 => if b = true then f ρ st1 else h ρ st1 := (rfl)
@[simp] theorem ev_Lst : fLst fa ρ st = (fa ρ st).bind fun ds st1 => if ds.length ≤ lim then .ok (.lst ds) st1 else .no := (rfl)
@[simp] theorem ev_LstC : fLstC fa ρ st = (fa ρ st).bind fun ds st1 => if ds.length ≤ lim then .ok (.cel st1.length) (st1 ++ [.lst ds]) else .no := (rfl)
@[simp] theorem ev_Tup : fTup fa ρ st = (fa ρ st).bind fun ds st1 => if ds.length ≤ lim then .ok (.tup ds) st1 else .no := (rfl)
@[simp] theorem ev_CB {g : F1} : fCB g fa ρ st = (fa ρ st).bind fun ds st1 => g ds st1 := (rfl)
@[simp] theorem ev_Call {n : Nat} {F : F1} : fCall n F fa ρ st = (fa ρ st).bind fun ds st1 => if ds.length = n then F ds st1 else .no := (rfl)
@[simp] theorem ev_CallK {ix : List Nat} {n : Nat} {F : F1} : fCallK ix n F fa ρ st = (fa ρ st).bind fun ds st1 => if ds.length = n then (F (pick ix ds) st1).quiet else .no := (rfl)
@[simp] theorem ev_Neg : fNeg f ρ st = (f ρ st).bind fun d st1 => (match d with | .int i => .ok (.int (-i)) st1 | _ => .no) := (rfl)
@[simp] theorem ev_Rev : fRev f ρ st = (f ρ st).bind fun x st1 => gRev x st1 := (rfl)
@[simp] theorem ev_oNone : foNone ρ st = .ok none st := (rfl)
@[simp] theorem ev_oSome : foSome f ρ st = (f ρ st).bind fun d st1 => (match d with | .int i => .ok (some i) st1 | _ => .no) := (rfl)
@[simp] theorem ev_Cut {l u : FO} : fCut f l u ρ st = (f ρ st).bind fun x st1 => (l ρ st1).bind fun lo st2 => (u ρ st2).bind fun hi st3 => gCut x lo hi st3 := (rfl)
@[simp] theorem ev_Chain {g k : F2} : fChain g k a b c ρ st = (a ρ st).bind fun x st1 => (b ρ st1).bind fun y st2 => (g x y st2).bind fun d st3 => (match d with
  | .bl true => (c ρ st3).bind fun z st4 => k y z st4
  | .bl false => .ok (.bl false) st3
  | _ => .no) := (rfl)
@[simp] theorem ev_Lc {cell : Bool} {src : FI} {g : FG} {vs : List Nat} : fLc cell src g t f vs ρ st = (src ρ st).bind fun s st1 => (runL s (turnL g t f vs ρ) st1).bind fun ys st2 => endL cell ys st2 := (rfl)
@[simp] theorem ev_Bits : fBits f ρ st = (f ρ st).bind fun d st1 => (match d with | .int i => .ok (.int (Builtin.Int.intBits i)) st1 | _ => .no) := (rfl)
@[simp] theorem ev_Bm {T : Ty} {m : FM} : fBm T m f fa ρ st = (f ρ st).bind fun x st1 => if tyIs T st1 x = true then (fa ρ st1).bind fun ds st2 => m x ds st2 else .no := (rfl)
@[simp] theorem ev_List : iList f ρ st = (f ρ st).bind fun d st1 => (match d with
  | .cel n => (match st1[n]? with
    | some (.lst _) => .ok (.cel n) st1
    | _ => .no)
  | .str s => .ok (.fix (s.map fun c => .str [c])) st1
  | .tup ds => .ok (.fix ds) st1
  | d => (match itemsR st1 d with
    | some ds => .ok (.fix ds) st1
    | none => .no)) := (rfl)
@[simp] theorem ev_Range1 : iRange1 f ρ st = (f ρ st).bind fun d st1 => (match d with
  | .int j => if okR j = true then .ok (.fix ((rng 0 j).map D.int)) st1 else .no
  | _ => .no) := (rfl)
@[simp] theorem ev_Range2 : iRange2 f h ρ st = (f ρ st).bind fun d st1 => (h ρ st1).bind fun d2 st2 => (match d, d2 with
  | .int i, .int j => if okR i = true ∧ okR j = true then .ok (.fix ((rng i j).map D.int)) st2 else .no
  | _, _ => .no) := (rfl)
@[simp] theorem ev_Zip : iZip fa ρ st = (fa ρ st).bind fun ds st1 => R.opt (zipS st1 ds) st1 := (rfl)
variable {s r : FS} {g : FG} {src : FI}
@[simp] theorem ev_Next : fNext ρ st = .nx ρ st := (rfl)
@[simp] theorem ev_Never : fNever ρ st = .no := (rfl)
@[simp] theorem ev_Brk : fBrk ρ st = .bk ρ st := (rfl)
@[simp] theorem ev_Cnt : fCnt ρ st = .ct ρ st := (rfl)
@[simp] theorem ev_Drop : fDrop f ρ st = (f ρ st).toO ρ fun _ st1 => .nx ρ st1 := (rfl)
@[simp] theorem ev_Ret : fRet f ρ st = (f ρ st).toO ρ fun d st1 => .rt d st1 := (rfl)
@[simp] theorem ev_RetN : fRetN ρ st = .rt .non st := (rfl)
@[simp] theorem ev_Seq : fSeq s r ρ st = (match s ρ st with | .nx ρ1 st1 => r ρ1 st1 | o => o) := (rfl)
@[simp] theorem ev_If : fIf t s r ρ st = (t ρ st).toO ρ fun b st1 => if b = true then s ρ st1 else r ρ st1 := (rfl)
@[simp] theorem ev_Name {i : Nat} : hName i d ρ st = .ok (ρ.set i (some d)) st := (rfl)
@[simp] theorem ev_hNil : hNil [] ρ st = .ok ρ st := (rfl)
@[simp] theorem ev_hCons {k : FGs} {ds : List D} : hCons g k (d :: ds) ρ st = (g d ρ st).quiet.bind fun ρ1 st1 => k ds ρ1 st1 := (rfl)
@[simp] theorem ev_hTup {n : Nat} {k : FGs} {ds : List D} : hTup n k (.tup ds) ρ st = if ds.length = n then (k ds ρ st).quiet else .no := (rfl)
@[simp] theorem ev_hSub {o i : FE} : hSub o i d ρ st = (o ρ st).bind fun x st1 => (i ρ st1).bind fun y st2 => (gSet x y d st2).bind fun _ st3 => .ok ρ st3 := (rfl)
@[simp] theorem ev_Asg : fAsg f g ρ st = (f ρ st).toO ρ fun d st1 => (g d ρ st1).toO ρ fun ρ1 st2 => .nx ρ1 st2 := (rfl)
@[simp] theorem ev_Par {i j : Nat} : fPar i j fa ρ st = (fa ρ st).toO ρ fun ds st1 => (match ds with
  | [a, b] => .nx ((ρ.set i (some a)).set j (some b)) st1
  | _ => .no) := (rfl)
@[simp] theorem ev_Par3 {i j l : Nat} : fPar3 i j l fa ρ st = (fa ρ st).toO ρ fun ds st1 => (match ds with
  | [a, b, c] => .nx (((ρ.set i (some a)).set j (some b)).set l (some c)) st1
  | _ => .no) := (rfl)
@[simp] theorem ev_For : fFor src g s ρ st = (src ρ st).toO ρ fun z st1 => (match z with
  | .fix ds => loopF g s ds ρ st1
  | z => loopN z g s (srcLen z st1 + 1) 0 ρ st1) := (rfl)
@[simp] theorem ev_step_nx {k : En → Sto → O} : stepO (.nx ρ st) k = k ρ st := (rfl)
@[simp] theorem ev_step_ct {k : En → Sto → O} : stepO (.ct ρ st) k = k ρ st := (rfl)
@[simp] theorem ev_step_bk {k : En → Sto → O} : stepO (.bk ρ st) k = .nx ρ st := (rfl)
@[simp] theorem ev_step_rt {k : En → Sto → O} : stepO (.rt d st) k = .rt d st := (rfl)
@[simp] theorem ev_gen0 {N : List Str} {np : Nat} {fb : FS} {ds : List D} : genF0 N np fb ds st = (genF N np fb ds st).quiet := (rfl)
@[simp] theorem ev_gen {N : List Str} {np : Nat} {fb : FS} {ds : List D} : genF N np fb ds st = if ds.length = np then
    (match fb (startE N ds) st with
    | .rt d st2 => .ok d st2
    | .nx _ st2 => .ok .non st2
    | .exc c x _ st2 => .exc c x st2
    | _ => .no)
  else .no := (rfl)
@[simp] theorem ev_start {N : List Str} {ds : List D} : startE N ds = ds.map some ++ List.replicate (N.length - ds.length) none := (rfl)
theorem ev_turn {g : FG} {vs : List Nat} : turnL g t f vs ρ d st = (g d (wipeE ρ vs) st).quiet.bind fun ρ2 st2 => (t ρ2 st2).quiet.bind fun b st3 => if b = true then (f ρ2 st3).quiet.bind fun y st4 => .ok (some y) st4 else .ok none st3 := (rfl)
@[simp] theorem ev_wipe0 : wipeE ρ [] = ρ := (rfl)
@[simp] theorem ev_wipe1 {i : Nat} {vs : List Nat} : wipeE ρ (i :: vs) = (wipeE ρ vs).set i none := (rfl)
@[simp] theorem ev_runL_fix {ds : List D} {T : D → Sto → R (Option D)} : runL (.fix ds) T st = lcL T ds st := (rfl)
@[simp] theorem ev_Yes : fYes ρ st = .ok true st := (rfl)
end
/-! ### loops that leave the store -/
theorem lcL_pure {T : D → Sto → R (Option D)} {g : D → Option D} {st : Sto} : ∀ {ds : List D}, (∀ d ∈ ds, T d st = .ok (g d) st) → lcL T ds st = .ok (ds.filterMap g) st
  | [], _ => rfl
  | d :: ds, h => by
    rw [lcL, h d List.mem_cons_self, R.bind_ok, lcL_pure (ds := ds) fun x hx => h x (List.mem_cons_of_mem _ hx), R.bind_ok]
    cases e : g d with
    | none => rw [List.filterMap_cons_none e]; rfl
    | some y => rw [List.filterMap_cons_some e]; rfl
theorem lcL_map {γ : Type} {T : D → Sto → R (Option D)} {p : γ → D} {g : γ → Option D} {st : Sto} {xs : List γ} (h : ∀ x ∈ xs, T (p x) st = .ok (g x) st) : lcL T (xs.map p) st = .ok (xs.filterMap g) st := by
  induction xs with
  | nil => rfl
  | cons x xs ih =>
    rw [List.map_cons, lcL, h x List.mem_cons_self, R.bind_ok, ih fun y hy => h y (List.mem_cons_of_mem _ hy), R.bind_ok]
    cases e : g x with
    | none => rw [List.filterMap_cons_none e]; rfl
    | some y => rw [List.filterMap_cons_some e]; rfl
/-- a turn in the words of the target's value -/
theorem filterMap_if {γ : Type} (c : γ → Bool) (p : γ → D) (xs : List γ) : xs.filterMap (fun x => if c x = true then some (p x) else none) = (xs.filter c).map p := by
  induction xs with
  | nil => rfl
  | cons x xs ih =>
    by_cases h : c x = true
    · rw [List.filterMap_cons_some (by rw [if_pos h]), List.filter_cons_of_pos h, List.map_cons, ih]
    · rw [List.filterMap_cons_none (by rw [if_neg h]), List.filter_cons_of_neg h, ih]
theorem filterMap_some' {γ : Type} (p : γ → D) (xs : List γ) : xs.filterMap (fun x => some (p x)) = xs.map p := by
  have h := filterMap_if (fun _ => true) p xs
  simpa using h
/-- .. that change the store, under a promise I i st of the turn i -/
theorem lcL_inv {γ : Type} {T : D → Sto → R (Option D)} {p : γ → D} (I : Nat → Sto → Prop) (Y : D → Prop) : ∀ (xs : List γ) (i : Nat) (st : Sto), I i st →
    (∀ x ∈ xs, ∀ j st, j < i + xs.length → I j st → ∃ y st', T (p x) st = .ok (some y) st' ∧ Y y ∧ I (j + 1) st') → ∃ ys st', lcL T (xs.map p) st = .ok ys st' ∧ (∀ y ∈ ys, Y y) ∧ ys.length = xs.length ∧ I (i + xs.length) st'
  | [], i, st, h, _ => ⟨[], st, rfl, by simp, rfl, h⟩
  | x :: xs, i, st, h, q => by
    obtain ⟨y, st1, h1, h2, h3⟩ := q x List.mem_cons_self i st (by simp) h
    obtain ⟨ys, st2, k1, k2, k3, k4⟩ := lcL_inv I Y xs (i + 1) st1 h3 fun x hx j st hj => q x (List.mem_cons_of_mem _ hx) j st (by simp; omega)
    refine ⟨y :: ys, st2, by rw [List.map_cons, lcL, h1, R.bind_ok, k1, R.bind_ok]; rfl, fun z hz => ?_, by simp [k3], by rw [List.length_cons, show i + (xs.length + 1) = i + 1 + xs.length from by omega]; exact k4⟩
    rcases List.mem_cons.mp hz with rfl | hz
    · exact h2
    · exact k2 z hz
/-- a for loop under a promise -/
theorem loopF_inv {γ : Type} {g : FG} {b : FS} {p : γ → D} (I : Nat → En → Sto → Prop) : ∀ (xs : List γ) (i : Nat) (ρ : En) (st : Sto), I i ρ st →
    (∀ k (hk : k < xs.length), ∀ ρ st, I (i + k) ρ st → ∃ ρ' st', ((g (p xs[k]) ρ st).toO ρ fun ρ1 st1 => b ρ1 st1) = .nx ρ' st' ∧ I (i + k + 1) ρ' st') → ∃ ρ' st', loopF g b (xs.map p) ρ st = .nx ρ' st' ∧ I (i + xs.length) ρ' st'
  | [], i, ρ, st, h, _ => ⟨ρ, st, rfl, h⟩
  | x :: xs, i, ρ, st, h, q => by
    obtain ⟨ρ1, st1, h1, h2⟩ := q 0 (by simp) ρ st h
    obtain ⟨ρ2, st2, k1, k2⟩ := loopF_inv I xs (i + 1) ρ1 st1 h2 fun k hk ρ st hI => by
      have := q (k + 1) (by simpa using hk) ρ st (by rw [show i + (k + 1) = i + 1 + k from by omega]; exact hI)
      obtain ⟨ρ', st', e1, e2⟩ := this
      exact ⟨ρ', st', by simpa using e1, by rw [show i + 1 + k + 1 = i + (k + 1) + 1 from by omega]; exact e2⟩
    refine ⟨ρ2, st2, ?_, by rw [List.length_cons, show i + (xs.length + 1) = i + 1 + xs.length from by omega]; exact k2⟩
    rw [List.map_cons, loopF]
    simp only [List.getElem_cons_zero] at h1
    cases e : g (p x) ρ st with
    | no => rw [e] at h1; cases h1
    | exc c y s => rw [e] at h1; cases h1
    | ok ρ3 st3 =>
      rw [e] at h1
      simp only [R.toO_ok] at h1 ⊢
      rw [h1]
      exact k1
end FL

/-! FLp: equality of plain data, places, pieces, evaluated -/
namespace FL
open PySem PySem.Spec PyProof.Rows L2

def okT (s : List Nat) : Prop := s.all okCp = true
section
variable {st : Sto} {n k : Nat} {s t : List Nat} {i j : Int}
@[simp] theorem toPy_non : toPy st n .non = some .none := by cases n <;> rfl
@[simp] theorem toPy_bl {b : Bool} : toPy st n (.bl b) = some (.bool b) := by cases n <;> rfl
@[simp] theorem toPy_int : toPy st n (.int i) = some (.int i) := by cases n <;> rfl
theorem toPy_str (h : okT s) : toPy st n (.str s) = some (.str (sv s)) := by
  have h : s.all okCp = true := h
  cases n with
  | zero => show (if s.all okCp = true then _ else _) = _; rw [if_pos h]
  | succ n => show (if s.all okCp = true then _ else _) = _; rw [if_pos h]
theorem toPy_lst {ds : List D} : toPy st (n + 1) (.lst ds) = (ds.mapM (toPy st n)).map .list := rfl
theorem toPy_tup {ds : List D} : toPy st (n + 1) (.tup ds) = (ds.mapM (toPy st n)).map .tuple := rfl
theorem toPy_ro {ds : List D} : toPy st (n + 1) (.ro ds) = (ds.mapM (toPy st n)).map .list := rfl
theorem toPy_cel {ds : List D} (h : st[k]? = some (.lst ds)) : toPy st (n + 1) (.cel k) = (ds.mapM (toPy st n)).map .list := by
  show (items st (.cel k)).bind _ = _
  have e : items st (.cel k) = some ds := by
    show (match st[k]? with
      | some (.lst ds) => some ds
      | _ => none) = _
    rw [h]
  rw [e]
  rfl
theorem mapM_of {f : D → Option PyData} {γ : Type} {p : γ → D} {g : γ → PyData} : ∀ {xs : List γ}, (∀ x ∈ xs, f (p x) = some (g x)) → (xs.map p).mapM f = some (xs.map g)
  | [], _ => by simp
  | x :: xs, h => by
    rw [List.map_cons, List.mapM_cons, h x List.mem_cons_self, mapM_of (xs := xs) fun y hy => h y (List.mem_cons_of_mem _ hy)]
    rfl
theorem toPy_strs {ss : List (List Nat)} (h : ∀ s ∈ ss, okT s) : (ss.map D.str).mapM (toPy st n) = some (ss.map fun s => .str (sv s)) := mapM_of fun s hs => toPy_str (h s hs)
theorem toPy_ints {is : List Int} : (is.map D.int).mapM (toPy st n) = some (is.map .int) := mapM_of fun _ _ => toPy_int
theorem toPy_bls {bs : List Bool} : (bs.map D.bl).mapM (toPy st n) = some (bs.map .bool) := mapM_of fun _ _ => toPy_bl
theorem sv_inj (h : sv s = sv t) : s = t := by
  have := congrArg (fun z : Str => z.cps.toList) h
  simpa using this
theorem eqv_str : PyData.eqv (.str (sv s)) (.str (sv t)) = decide (s = t) := by
  show (sv s == sv t) = _
  by_cases e : s = t
  · subst e; simp
  · rw [decide_eq_false e, beq_eq_false_iff_ne]
    exact fun h => e (sv_inj h)
theorem eqvAll_strs : ∀ (ss ts : List (List Nat)), PyData.eqvAll (ss.map fun s => .str (sv s)) (ts.map fun s => .str (sv s)) = decide (ss = ts)
  | [], [] => rfl
  | [], _ :: _ => rfl
  | _ :: _, [] => rfl
  | s :: ss, t :: ts => by
    show (PyData.eqv (.str (sv s)) (.str (sv t)) && PyData.eqvAll _ _) = _
    rw [eqv_str, eqvAll_strs ss ts]
    by_cases h1 : s = t <;> by_cases h2 : ss = ts <;> simp [h1, h2]
@[simp] theorem gEq_int : gEq (.int i) (.int j) st = .ok (.bl (decide (i = j))) st := by
  unfold gEq gEqN
  rw [toPy_int, toPy_int]
  show R.ok (D.bl (false != (i == j))) st = _
  by_cases h : i = j <;> simp [h]
@[simp] theorem gNe_int : gNe (.int i) (.int j) st = .ok (.bl (decide (i ≠ j))) st := by
  unfold gNe gEqN
  rw [toPy_int, toPy_int]
  show R.ok (D.bl (true != (i == j))) st = _
  by_cases h : i = j <;> simp [h]
@[simp] theorem gEq_bl {a b : Bool} : gEq (.bl a) (.bl b) st = .ok (.bl (a == b)) st := by
  unfold gEq gEqN
  rw [toPy_bl, toPy_bl]
  show R.ok (D.bl (false != (a == b))) st = _
  simp
@[simp] theorem gNe_bl {a b : Bool} : gNe (.bl a) (.bl b) st = .ok (.bl (a != b)) st := by
  unfold gNe gEqN
  rw [toPy_bl, toPy_bl]
  show R.ok (D.bl (true != (a == b))) st = _
  cases a <;> cases b <;> rfl
theorem gEq_str (h1 : okT s) (h2 : okT t) : gEq (.str s) (.str t) st = .ok (.bl (decide (s = t))) st := by
  unfold gEq gEqN
  rw [toPy_str h1, toPy_str h2]
  show R.ok (D.bl (false != PyData.eqv _ _)) st = _
  rw [eqv_str]
  simp
theorem gNe_str (h1 : okT s) (h2 : okT t) : gNe (.str s) (.str t) st = .ok (.bl (decide (s ≠ t))) st := by
  unfold gNe gEqN
  rw [toPy_str h1, toPy_str h2]
  show R.ok (D.bl (true != PyData.eqv _ _)) st = _
  rw [eqv_str]
  by_cases h : s = t <;> simp [h]
theorem okT_nil : okT [] := rfl
/-- a plain list and [] -/
theorem gNe_nil {d : D} {ds : List D} {ps : List PyData} (h : toPy st 40 d = some (.list ps)) (hl : ps.length = ds.length) : gNe d (.lst []) st = .ok (.bl (decide (ds ≠ []))) st := by
  unfold gNe gEqN
  rw [h, show toPy st 40 (.lst []) = some (.list []) from rfl]
  cases ds with
  | nil =>
    have : ps = [] := List.length_eq_zero_iff.mp hl
    subst this
    rfl
  | cons x xs =>
    cases ps with
    | nil => simp at hl
    | cons p ps => simp [PyData.eqv, PyData.eqvAll]
theorem gEq_nil {d : D} {ds : List D} {ps : List PyData} (h : toPy st 40 d = some (.list ps)) (hl : ps.length = ds.length) : gEq d (.lst []) st = .ok (.bl (decide (ds = []))) st := by
  unfold gEq gEqN
  rw [h, show toPy st 40 (.lst []) = some (.list []) from rfl]
  cases ds with
  | nil =>
    have : ps = [] := List.length_eq_zero_iff.mp hl
    subst this
    rfl
  | cons x xs =>
    cases ps with
    | nil => simp at hl
    | cons p ps => simp [PyData.eqv, PyData.eqvAll]
/-! ### arithmetic -/
@[simp] theorem gAdd_int : gAdd (.int i) (.int j) st = .ok (.int (i + j)) st := (rfl)
@[simp] theorem gSub_int : gSub (.int i) (.int j) st = .ok (.int (i - j)) st := (rfl)
theorem gMul_int (h : cMul i j = true) : gMul (.int i) (.int j) st = .ok (.int (i * j)) st := by
  show (if cMul i j = true then _ else _) = _
  rw [if_pos h]
theorem cMul_l (h : i.natAbs < 18446744073709551616) : cMul i j = true := by unfold cMul; simp [h]
theorem cMul_r (h : j.natAbs < 18446744073709551616) : cMul i j = true := by unfold cMul; simp [h]
theorem gMod_int (h : 0 < j) : gMod (.int i) (.int j) st = .ok (.int (i % j)) st := by
  show (if cMod i j = true then _ else _) = _
  rw [if_pos (by unfold cMod; simpa using h)]
theorem gDiv_int (h : 0 < j) (h2 : j < 18446744073709551616) : gDiv (.int i) (.int j) st = .ok (.int (i / j)) st := by
  show (if cDiv i j = true then _ else _) = _
  rw [if_pos (by unfold cDiv; have h3 : j.natAbs < 18446744073709551616 := by omega
                 simp only [h, h3, decide_true, Bool.and_self])]
theorem gPow_int (h : cPow i j = true) : gPow (.int i) (.int j) st = .ok (.int (i ^ j.toNat)) st := by
  show (if cPow i j = true then _ else _) = _
  rw [if_pos h]
theorem gAdd_str (h : s.length + t.length ≤ lim) : gAdd (.str s) (.str t) st = .ok (.str (s ++ t)) st := by
  show (if s.length + t.length ≤ lim then _ else _) = _
  rw [if_pos h]
theorem gAdd_lst {a b : List D} (h : a.length + b.length ≤ lim) : gAdd (.lst a) (.lst b) st = .ok (.lst (a ++ b)) st := by
  show (if a.length + b.length ≤ lim then _ else _) = _
  rw [if_pos h]
theorem gMul_str (h1 : j.natAbs < 1000000) (h : s.length * j.toNat ≤ lim) : gMul (.str s) (.int j) st = .ok (.str (repL j s)) st := by
  show (if j.natAbs < 1000000 ∧ s.length * j.toNat ≤ lim then _ else _) = _
  rw [if_pos ⟨h1, h⟩]
@[simp] theorem gLt_int : gLt (.int i) (.int j) st = .ok (.bl (decide (i < j))) st := (rfl)
@[simp] theorem gLe_int : gLe (.int i) (.int j) st = .ok (.bl (decide (i ≤ j))) st := (rfl)
@[simp] theorem gGt_int : gGt (.int i) (.int j) st = .ok (.bl (decide (j < i))) st := (rfl)
@[simp] theorem gGe_int : gGe (.int i) (.int j) st = .ok (.bl (decide (j ≤ i))) st := (rfl)
/-! ### places, pieces -/
theorem atI_nat {α : Type} {xs : List α} {m : Nat} : atI xs (m : Int) = xs[m]? := by
  unfold atI ixN
  rw [if_pos (by omega)]
  by_cases h : (m : Int) < xs.length
  · rw [if_pos h]; simp
  · rw [if_neg h, List.getElem?_eq_none (by omega)]; rfl
theorem atI_zero {α : Type} {xs : List α} : atI xs 0 = xs[0]? := atI_nat (m := 0)
theorem atI_last {α : Type} {xs : List α} : atI xs (-1) = xs.getLast? := by
  unfold atI ixN
  rw [if_neg (by omega)]
  cases xs with
  | nil => rfl
  | cons x xs =>
    rw [if_pos (by simp; omega), List.getLast?_eq_getElem?]
    have : ((-1 : Int) + ((x :: xs).length : Int)).toNat = (x :: xs).length - 1 := by simp only [List.length_cons]; omega
    rw [Option.bind_some, this]
theorem gIx_lst {ds : List D} {d : D} (h : atI ds i = some d) : gIx (.lst ds) (.int i) st = .ok d st := by
  show (match atI ds i with
    | some d => R.ok d st
    | none => .no) = _
  rw [h]
theorem gIx_tup {ds : List D} {d : D} (h : atI ds i = some d) : gIx (.tup ds) (.int i) st = .ok d st := by
  show (match atI ds i with
    | some d => R.ok d st
    | none => .no) = _
  rw [h]
theorem gIx_ro {ds : List D} {d : D} (h : atI ds i = some d) : gIx (.ro ds) (.int i) st = .ok d st := by
  show (match atI ds i with
    | some d => R.ok d st
    | none => .no) = _
  rw [h]
theorem itemsS_cel {ds : List D} (h : st[k]? = some (.lst ds)) : itemsS st (.cel k) = some ds := by
  show (match st[k]? with
    | some (.lst ds) => some ds
    | _ => none) = _
  rw [h]
theorem itemsR_cel {ds : List D} (h : st[k]? = some (.lst ds)) : itemsR st (.cel k) = some ds := itemsS_cel h
theorem items_cel {ds : List D} (h : st[k]? = some (.lst ds)) : items st (.cel k) = some ds := itemsS_cel h
theorem gIx_cel {ds : List D} {d : D} (hc : st[k]? = some (.lst ds)) (h : atI ds i = some d) : gIx (.cel k) (.int i) st = .ok d st := by
  show (match itemsS st (.cel k) with
    | some xs => (match atI xs i with
      | some d => R.ok d st
      | none => .no)
    | none => _) = _
  rw [itemsS_cel hc]
  show (match atI ds i with
    | some d => R.ok d st
    | none => .no) = _
  rw [h]
theorem gIx_str {c : Nat} (hl : s.length ≤ lim) (h : atI s i = some c) : gIx (.str s) (.int i) st = .ok (.str [c]) st := by
  show (if s.length ≤ lim then _ else _) = _
  rw [if_pos hl, h]
theorem gCut_str {lo hi : Option Int} (h : s.length ≤ lim) : gCut (.str s) lo hi st = .ok (.str (cut s lo hi)) st := by
  show (if s.length ≤ lim then _ else _) = _
  rw [if_pos h]
@[simp] theorem gCut_lst {lo hi : Option Int} {ds : List D} : gCut (.lst ds) lo hi st = .ok (.lst (cut ds lo hi)) st := (rfl)
@[simp] theorem gCut_ro {lo hi : Option Int} {ds : List D} : gCut (.ro ds) lo hi st = .ok (.lst (cut ds lo hi)) st := (rfl)
theorem cut_drop {α : Type} {xs : List α} {m : Nat} : cut xs (some (m : Int)) none = xs.drop m := by
  unfold cut
  rw [HT.sIx_none, HT.sIx_nat, List.take_of_length_le (by rw [List.length_drop]; omega)]
  by_cases h : m ≤ xs.length
  · rw [Nat.min_eq_left h]
  · rw [Nat.min_eq_right (by omega), List.drop_length, List.drop_eq_nil_of_le (by omega)]
theorem cut_take {α : Type} {xs : List α} {m : Nat} : cut xs none (some (m : Int)) = xs.take m := by
  unfold cut
  rw [HT.sIx_none, HT.sIx_nat, List.drop_zero, Nat.sub_zero]
  by_cases h : m ≤ xs.length
  · rw [Nat.min_eq_left h]
  · rw [Nat.min_eq_right (by omega), List.take_length, List.take_of_length_le (by omega)]
theorem cut_mid {α : Type} {xs : List α} {m k : Nat} : cut xs (some (m : Int)) (some (k : Int)) = (xs.drop m).take (k - m) := by
  unfold cut
  rw [HT.sIx_nat, HT.sIx_nat]
  by_cases h : m ≤ xs.length
  · rw [Nat.min_eq_left h]
    by_cases h2 : k ≤ xs.length
    · rw [Nat.min_eq_left h2]
    · rw [Nat.min_eq_right (by omega), List.take_of_length_le (by rw [List.length_drop]; omega), List.take_of_length_le (by rw [List.length_drop]; omega)]
  · rw [Nat.min_eq_right (by omega : xs.length ≤ m), List.drop_length, List.drop_eq_nil_of_le (by omega : xs.length ≤ m)]
    simp
/-! ### calls -/
theorem kLen_str (h : s.length ≤ lim) : kLen [.str s] st = .ok (.int s.length) st := by
  show (if s.length ≤ lim then _ else _) = _
  rw [if_pos h]
@[simp] theorem kLen_lst {ds : List D} : kLen [.lst ds] st = .ok (.int ds.length) st := (rfl)
@[simp] theorem kLen_tup {ds : List D} : kLen [.tup ds] st = .ok (.int ds.length) st := (rfl)
@[simp] theorem kLen_ro {ds : List D} : kLen [.ro ds] st = .ok (.int ds.length) st := (rfl)
theorem kLen_cel {ds : List D} (h : st[k]? = some (.lst ds)) : kLen [.cel k] st = .ok (.int ds.length) st := by
  show (match itemsS st (.cel k) with
    | some xs => R.ok (D.int xs.length) st
    | none => _) = _
  rw [itemsS_cel h]
@[simp] theorem kInt_int : kInt [.int i] st = .ok (.int i) st := (rfl)
theorem kMax_int : kMax [.int i, .int j] st = .ok (.int (max i j)) st := rfl
theorem kMin_int : kMin [.int i, .int j] st = .ok (.int (min i j)) st := rfl
end
end FL

/-! FSa: printed by tool/flp.py: what the bodies of the rings' defs and of the laws' common helpers do -/
namespace FL
open PySem PySem.Spec PyProof.Rows L2
abbrev N_is_whole : List Str := ["value"]
def fb_is_whole : FS := (fRet (fAndE (fCB kIsi (faCons (fVar 0) (faCons (fC (.ty .int)) faNil))) (fNotE (fCB kIsi (faCons (fVar 0) (faCons (fC (.ty .bool)) faNil))))))
def F_is_whole : F1 := genF0 N_is_whole 1 fb_is_whole

abbrev N_is_count : List Str := ["value"]
def fb_is_count : FS := (fRet (fAndE (fCall 1 F_is_whole (faCons (fVar 0) faNil)) (fBin gGe (fVar 0) (fC (.int 0)))))
def F_is_count : F1 := genF0 N_is_count 1 fb_is_count

abbrev N_is_signs : List Str := ["value", "signs", "sign"]
def fb_is_signs : FS := (fRet (fAndE (fCB kIsi (faCons (fVar 0) (faCons (fC (.ty .str)) faNil))) (fBin gEq (fLc false (iList (fVar 0)) (hName 2) (fTest (fBin gNotIn (fVar 2) (fVar 1))) (fVar 2) [2]) (fLst faNil))))
def F_is_signs : F1 := genF0 N_is_signs 2 fb_is_signs

abbrev N_check_number : List Str := ["value"]
def fb_check_number : FS := (fIf (fNotT (fTest (fCall 1 F_is_count (faCons (fVar 0) faNil)))) fNever fNext)
def F_check_number : F1 := genF0 N_check_number 1 fb_check_number

abbrev N_is_story : List Str := ["value"]
def fb_is_story : FS := (fRet (fCall 2 F_is_signs (faCons (fVar 0) (faCons (fC (.str [97, 98, 99, 100, 101, 102, 103, 104, 105, 106, 107, 108, 109, 110, 111, 112, 113, 114, 115, 116, 117, 118, 119, 120, 121, 122])) faNil))))
def F_is_story : F1 := genF0 N_is_story 1 fb_is_story

abbrev N_is_scrap : List Str := ["value"]
def fb_is_scrap : FS := (fRet (fAndE (fCall 1 F_is_story (faCons (fVar 0) faNil)) (fBin gNe (fVar 0) (fC (.str [])))))
def F_is_scrap : F1 := genF0 N_is_scrap 1 fb_is_scrap

abbrev N_check_scrap : List Str := ["scrap"]
def fb_check_scrap : FS := (fIf (fNotT (fTest (fCall 1 F_is_scrap (faCons (fVar 0) faNil)))) fNever fNext)
def F_check_scrap : F1 := genF0 N_check_scrap 1 fb_check_scrap

abbrev N_turned_by : List Str := ["scrap", "many", "at"]
def fb_turned_by : FS := (fSeq (fAsg (fBin gMod (fVar 1) (fCB kLen (faCons (fVar 0) faNil))) (hName 2))
  (fRet (fBin gAdd (fCut (fVar 0) (foSome (fVar 2)) foNone) (fCut (fVar 0) foNone (foSome (fVar 2))))))
def F_turned_by : F1 := genF0 N_turned_by 2 fb_turned_by

abbrev N_ring_turned : List Str := ["scrap", "many"]
def fb_ring_turned : FS := (fSeq (fDrop (fCall 1 F_check_scrap (faCons (fVar 0) faNil)))
  (fSeq (fDrop (fCall 1 F_check_number (faCons (fVar 1) faNil)))
  (fRet (fCall 2 F_turned_by (faCons (fVar 0) (faCons (fVar 1) faNil))))))
def F_ring_turned : F1 := genF0 N_ring_turned 2 fb_ring_turned

abbrev N_root_size : List Str := ["scrap", "size"]
def fb_root_size : FS := (fRet (fBin gIx (fLc false (iRange2 (fC (.int 1)) (fBin gAdd (fCB kLen (faCons (fVar 0) faNil)) (fC (.int 1)))) (hName 1) (fTest (fBin gEq (fCall 2 F_turned_by (faCons (fVar 0) (faCons (fVar 1) faNil))) (fVar 0))) (fVar 1) [1]) (fC (.int 0))))
def F_root_size : F1 := genF0 N_root_size 1 fb_root_size

abbrev N_all_turnings : List Str := ["scrap", "many"]
def fb_all_turnings : FS := (fRet (fCB (kCell kSorted) (faCons (fLc false (iRange1 (fCall 1 F_root_size (faCons (fVar 0) faNil))) (hName 1) fYes (fCall 2 F_turned_by (faCons (fVar 0) (faCons (fVar 1) faNil))) [1]) faNil)))
def F_all_turnings : F1 := genF0 N_all_turnings 1 fb_all_turnings

abbrev N_ring_turnings : List Str := ["scrap"]
def fb_ring_turnings : FS := (fSeq (fDrop (fCall 1 F_check_scrap (faCons (fVar 0) faNil)))
  (fRet (fCall 1 F_all_turnings (faCons (fVar 0) faNil))))
def F_ring_turnings : F1 := genF0 N_ring_turnings 1 fb_ring_turnings

abbrev N_least_turning : List Str := ["scrap"]
def fb_least_turning : FS := (fSeq (fDrop (fCall 1 F_check_scrap (faCons (fVar 0) faNil)))
  (fRet (fBin gIx (fCall 1 F_all_turnings (faCons (fVar 0) faNil)) (fC (.int 0)))))
def F_least_turning : F1 := genF0 N_least_turning 1 fb_least_turning

abbrev N_turns_to : List Str := ["one", "other", "found", "many"]
def fb_turns_to : FS := (fSeq (fDrop (fCall 1 F_check_scrap (faCons (fVar 0) faNil)))
  (fSeq (fDrop (fCall 1 F_check_scrap (faCons (fVar 1) faNil)))
  (fSeq (fAsg (fLc false (iRange1 (fCB kLen (faCons (fVar 0) faNil))) (hName 3) (fTest (fBin gEq (fCall 2 F_turned_by (faCons (fVar 0) (faCons (fVar 3) faNil))) (fVar 1))) (fVar 3) [3]) (hName 2))
  (fRet (fIfE (fTest (fBin gNe (fVar 2) (fLst faNil))) (fBin gIx (fVar 2) (fC (.int 0))) (fC .non))))))
def F_turns_to : F1 := genF0 N_turns_to 2 fb_turns_to

abbrev N_root_of : List Str := ["scrap"]
def fb_root_of : FS := (fSeq (fDrop (fCall 1 F_check_scrap (faCons (fVar 0) faNil)))
  (fRet (fCut (fVar 0) foNone (foSome (fCall 1 F_root_size (faCons (fVar 0) faNil))))))
def F_root_of : F1 := genF0 N_root_of 1 fb_root_of

abbrev N__law_hash : List Str := ["seed", "index", "mixed"]
def fb__law_hash : FS := (fSeq (fAsg (fBin gMod (fCB kInt (faCons (fBin gAdd (fBin gAdd (fBin gAdd (fBin gMul (fVar 0) (fC (.int 1140671))) (fBin gMul (fBin gMul (fC (.int 27644437)) (fVar 1)) (fVar 1))) (fBin gMul (fC (.int 131)) (fVar 1))) (fC (.int 19))) faNil)) (fC (.int 2147483629))) (hName 2))
  (fSeq (fAsg (fBin gMod (fCB kInt (faCons (fBin gAdd (fBin gAdd (fBin gMul (fVar 2) (fVar 2)) (fBin gMul (fC (.int 62089)) (fVar 1))) (fC (.int 32416187))) faNil)) (fC (.int 2147483587))) (hName 2))
  (fRet (fBin gMod (fCB kInt (faCons (fBin gMul (fVar 2) (fC (.int 48271))) faNil)) (fC (.int 2147483647))))))
def F__law_hash : F1 := genF0 N__law_hash 2 fb__law_hash

abbrev N__law_cell : List Str := ["script", "index"]
def fb__law_cell : FS := (fSeq (fIf (fTest (fBin gLt (fVar 1) (fCB kLen (faCons (fVar 0) faNil)))) (fRet (fBin gIx (fVar 0) (fVar 1))) fNext)
  (fRet (fBin gMod (fCB kSum (faCons (fCut (fVar 0) foNone (foSome (fC (.int 1)))) faNil)) (fC (.int 1000003)))))
def F__law_cell : F1 := genF0 N__law_cell 2 fb__law_cell

abbrev N__law_generator : List Str := ["script", "index", "seed"]
def fb__law_generator : FS := (fSeq (fAsg (fCall 2 F__law_cell (faCons (fVar 0) (faCons (fVar 1) faNil))) (hName 2))
  (fRet (fLstC (faCons (fBin gMod (fCB kInt (faCons (fCB kMax (faCons (fBin gSub (fVar 2) (fBin gPow (fC (.int 10)) (fC (.int 18)))) (faCons (fC (.int 0)) faNil))) faNil)) (fBin gPow (fBin gPow (fC (.int 10)) (fC (.int 60))) (fC (.int 10)))) (faCons (fBin gMod (fCB kInt (faCons (fVar 2) faNil)) (fC (.int 2147483647))) (faCons (fBin gMul (fC (.int 1000)) (fVar 1)) faNil))))))
def F__law_generator : F1 := genF0 N__law_generator 2 fb__law_generator

abbrev N__law_random : List Str := ["generator", "bound", "drawn", "turn"]
def fb__law_random : FS := (fSeq (fIf (fTest (fBin gGt (fBin gIx (fVar 0) (fC (.int 0))) (fC (.int 0)))) (fSeq (fAsg (fBin gMod (fCB kInt (faCons (fBin gIx (fVar 0) (fC (.int 0))) faNil)) (fVar 1)) (hName 2))
  (fSeq (fAsg (fBin gDiv (fBin gIx (fVar 0) (fC (.int 0))) (fVar 1)) (hSub (fVar 0) (fC (.int 0))))
  (fRet (fVar 2)))) fNext)
  (fSeq (fAsg (fC (.int 0)) (hName 2))
  (fSeq (fFor (iRange1 (fBin gAdd (fC (.int 1)) (fBin gDiv (fBits (fVar 1)) (fC (.int 30))))) (hName 3) (fSeq (fAsg (fBin gAdd (fBin gIx (fVar 0) (fC (.int 2))) (fC (.int 1))) (hSub (fVar 0) (fC (.int 2))))
  (fAsg (fBin gAdd (fBin gMul (fVar 2) (fC (.int 2147483587))) (fCall 2 F__law_hash (faCons (fBin gIx (fVar 0) (fC (.int 1))) (faCons (fBin gIx (fVar 0) (fC (.int 2))) faNil)))) (hName 2))))
  (fRet (fBin gMod (fCB kInt (faCons (fVar 2) faNil)) (fVar 1))))))
def F__law_random : F1 := genF0 N__law_random 2 fb__law_random

abbrev N__law_pick : List Str := ["generator", "things"]
def fb__law_pick : FS := (fRet (fBin gIx (fVar 1) (fCall 2 F__law_random (faCons (fVar 0) (faCons (fCB kLen (faCons (fVar 1) faNil)) faNil)))))
def F__law_pick : F1 := genF0 N__law_pick 2 fb__law_pick

abbrev N__law_marked : List Str := ["told", "kept", "item"]
def fb__law_marked (F : F1) : FS := (fSeq (fIf (fTest (fCB kIsi (faCons (fVar 0) (faCons (fC (.ty .list)) faNil)))) (fSeq (fIf (fAndT (fTest (fBin gNe (fVar 0) (fLst faNil))) (fTest (fBin gEq (fBin gIx (fVar 0) (fNeg (fC (.int 1)))) (fC (.str [109, 97, 114, 107, 101, 100]))))) (fRet (fC (.bl false))) fNext)
  (fSeq (fAsg (fLc false (iList (fVar 0)) (hName 2) fYes (fCall 1 F (faCons (fVar 2) faNil)) [2]) (hName 1))
  (fSeq (fDrop (fBm .list mAppend (fVar 0) (faCons (fC (.str [109, 97, 114, 107, 101, 100])) faNil)))
  (fRet (fBin gNotIn (fC (.bl false)) (fVar 1)))))) fNext)
  (fSeq (fIf (fTest (fCB kIsi (faCons (fVar 0) (faCons (fC (.ty .tuple)) faNil)))) (fRet (fBin gNotIn (fC (.bl false)) (fLc false (iList (fVar 0)) (hName 2) fYes (fCall 1 F (faCons (fVar 2) faNil)) [2]))) fNext)
  (fRet (fOrE (fBin gIs (fVar 0) (fC .non)) (fCB kIsi (faCons (fVar 0) (faCons (fTup (faCons (fC (.ty .int)) (faCons (fC (.ty .str)) faNil))) faNil)))))))
def F__law_marked : Nat → F1
  | 0 => fNo
  | n + 1 => genF0 N__law_marked 1 (fb__law_marked (F__law_marked n))

abbrev N__law_exact : List Str := ["told", "due", "one", "other"]
def fb__law_exact (F : F1) : FS := (fSeq (fIf (fTest (fCB kIsi (faCons (fVar 1) (faCons (fC (.ty .list)) faNil)))) (fRet (fAndE (fCB kIsi (faCons (fVar 0) (faCons (fC (.ty .list)) faNil))) (fAndE (fBin gEq (fCB kLen (faCons (fVar 0) faNil)) (fCB kLen (faCons (fVar 1) faNil))) (fBin gNotIn (fC (.bl false)) (fLc false (iZip (faCons (fVar 0) (faCons (fVar 1) faNil))) (hTup 2 (hCons (hName 2) (hCons (hName 3) hNil))) fYes (fCall 2 F (faCons (fVar 2) (faCons (fVar 3) faNil))) [2, 3]))))) fNext)
  (fSeq (fIf (fTest (fCB kIsi (faCons (fVar 1) (faCons (fC (.ty .tuple)) faNil)))) (fRet (fAndE (fCB kIsi (faCons (fVar 0) (faCons (fC (.ty .tuple)) faNil))) (fAndE (fBin gEq (fCB kLen (faCons (fVar 0) faNil)) (fCB kLen (faCons (fVar 1) faNil))) (fBin gNotIn (fC (.bl false)) (fLc false (iZip (faCons (fVar 0) (faCons (fVar 1) faNil))) (hTup 2 (hCons (hName 2) (hCons (hName 3) hNil))) fYes (fCall 2 F (faCons (fVar 2) (faCons (fVar 3) faNil))) [2, 3]))))) fNext)
  (fSeq (fIf (fTest (fBin gIs (fVar 1) (fC .non))) (fRet (fBin gIs (fVar 0) (fC .non))) fNext)
  (fSeq (fIf (fTest (fBin gIs (fVar 1) (fC (.bl true)))) (fRet (fBin gIs (fVar 0) (fC (.bl true)))) fNext)
  (fSeq (fIf (fTest (fBin gIs (fVar 1) (fC (.bl false)))) (fRet (fBin gIs (fVar 0) (fC (.bl false)))) fNext)
  (fSeq (fIf (fTest (fCB kIsi (faCons (fVar 1) (faCons (fC (.ty .int)) faNil)))) (fRet (fAndE (fCB kIsi (faCons (fVar 0) (faCons (fC (.ty .int)) faNil))) (fAndE (fNotE (fCB kIsi (faCons (fVar 0) (faCons (fC (.ty .bool)) faNil)))) (fBin gEq (fVar 0) (fVar 1))))) fNext)
  (fRet (fAndE (fCB kIsi (faCons (fVar 0) (faCons (fC (.ty .str)) faNil))) (fBin gEq (fVar 0) (fVar 1))))))))))
def F__law_exact : Nat → F1
  | 0 => fNo
  | n + 1 => genF0 N__law_exact 2 (fb__law_exact (F__law_exact n))

abbrev N__law_unlike : List Str := ["items", "found", "item"]
def fb__law_unlike : FS := (fSeq (fAsg (fLstC faNil) (hName 1))
  (fSeq (fFor (iList (fCB kSorted (faCons (fVar 0) faNil))) (hName 2) (fIf (fTest (fBin gNotIn (fVar 2) (fVar 1))) (fDrop (fBm .list mAppend (fVar 1) (faCons (fVar 2) faNil))) fNext))
  (fRet (fVar 1))))
def F__law_unlike : F1 := genF0 N__law_unlike 1 fb__law_unlike

abbrev N__law_scrap : List Str := ["generator", "signs", "most", "at"]
def fb__law_scrap : FS := (fRet (fBm .str mJoin (fC (.str [])) (faCons (fLc false (iRange1 (fBin gAdd (fC (.int 1)) (fCall 2 F__law_random (faCons (fVar 0) (faCons (fVar 2) faNil))))) (hName 3) fYes (fCall 2 F__law_pick (faCons (fVar 0) (faCons (fCB kList (faCons (fVar 1) faNil)) faNil))) [3]) faNil)))
def F__law_scrap : F1 := genF0 N__law_scrap 3 fb__law_scrap

abbrev N__law_turning : List Str := ["scrap", "many", "found", "turn"]
def fb__law_turning : FS := (fSeq (fAsg (fCB kList (faCons (fVar 0) faNil)) (hName 2))
  (fSeq (fFor (iRange1 (fVar 1)) (hName 3) (fAsg (fBin gAdd (fCut (fVar 2) (foSome (fC (.int 1))) foNone) (fCut (fVar 2) foNone (foSome (fC (.int 1))))) (hName 2)))
  (fRet (fBm .str mJoin (fC (.str [])) (faCons (fVar 2) faNil)))))
def F__law_turning : F1 := genF0 N__law_turning 2 fb__law_turning

abbrev N__law_turnings : List Str := ["scrap", "many"]
def fb__law_turnings : FS := (fRet (fCall 1 F__law_unlike (faCons (fLc false (iRange1 (fCB kLen (faCons (fVar 0) faNil))) (hName 1) fYes (fCall 2 F__law_turning (faCons (fVar 0) (faCons (fVar 1) faNil))) [1]) faNil)))
def F__law_turnings : F1 := genF0 N__law_turnings 1 fb__law_turnings

end FL

/-! FMa: the laws' common helpers: numbers drawn -/
namespace FL
open PySem PySem.Spec PyProof.Rows L2

/-- a generator in cell n, its count at most k -/
def Gen (st : Sto) (n : Nat) (k : Int) : Prop := ∃ a b c : Int, st[n]? = some (.lst [.int a, .int b, .int c]) ∧ 0 ≤ c ∧ c ≤ k
/-- from st to st': cell n may be changed, new cells come behind -/
structure Fr (n : Nat) (st st' : Sto) : Prop where
  len : st.length ≤ st'.length
  keep : ∀ i, i < st.length → i ≠ n → st'[i]? = st[i]?
theorem Fr.refl {n : Nat} {st : Sto} : Fr n st st := ⟨Nat.le_refl _, fun _ _ _ => rfl⟩
theorem Fr.trans {n : Nat} {a b c : Sto} (h : Fr n a b) (k : Fr n b c) : Fr n a c := ⟨Nat.le_trans h.len k.len, fun i hi hn => (k.keep i (Nat.lt_of_lt_of_le hi h.len) hn).trans (h.keep i hi hn)⟩
theorem Fr.set {n : Nat} {st : Sto} {o : Co} : Fr n st (st.set n o) := ⟨by simp, fun i _ hn => by rw [List.getElem?_set_ne (Ne.symm hn)]⟩
theorem Fr.app {n : Nat} {st t : Sto} : Fr n st (st ++ t) := ⟨by simp, fun i hi _ => List.getElem?_append_left hi⟩
theorem Gen.mono {st : Sto} {n : Nat} {k j : Int} (h : Gen st n k) (hj : k ≤ j) : Gen st n j := by
  obtain ⟨a, b, c, h1, h2, h3⟩ := h
  exact ⟨a, b, c, h1, h2, by omega⟩
theorem Gen.lt {st : Sto} {n : Nat} {k : Int} (h : Gen st n k) : n < st.length := by
  obtain ⟨a, b, c, h1, _⟩ := h
  exact (List.getElem?_eq_some_iff.mp h1).1

theorem sp_hash {s i : Int} {st : Sto} (hi : i.natAbs < 18446744073709551616) : ∃ r, F__law_hash [.int s, .int i] st = .ok (.int r) st ∧ 0 ≤ r ∧ r < 2147483647 := by
  have m0 : ∀ x : Int, gMul (.int x) (.int 1140671) st = .ok (.int (x * 1140671)) st := fun x => gMul_int (cMul_r (by decide))
  have m1 : gMul (.int 27644437) (.int i) st = .ok (.int (27644437 * i)) st := gMul_int (cMul_l (by decide))
  have m2 : ∀ x : Int, gMul (.int x) (.int i) st = .ok (.int (x * i)) st := fun x => gMul_int (cMul_r hi)
  have m5 : ∀ x : Int, gMul (.int x) (.int 48271) st = .ok (.int (x * 48271)) st := fun x => gMul_int (cMul_r (by decide))
  have d1 : ∀ x : Int, gMod (.int x) (.int 2147483629) st = .ok (.int (x % 2147483629)) st := fun x => gMod_int (by decide)
  have d2 : ∀ x : Int, gMod (.int x) (.int 2147483587) st = .ok (.int (x % 2147483587)) st := fun x => gMod_int (by decide)
  have d3 : ∀ x : Int, gMod (.int x) (.int 2147483647) st = .ok (.int (x % 2147483647)) st := fun x => gMod_int (by decide)
  have sq : ∀ x : Int, gMul (.int (x % 2147483629)) (.int (x % 2147483629)) st = .ok (.int (x % 2147483629 * (x % 2147483629))) st := fun x => gMul_int (cMul_l (by have := Int.emod_nonneg x (b := 2147483629) (by decide); have := Int.emod_lt_of_pos x (b := 2147483629) (by decide); omega))
  unfold F__law_hash fb__law_hash
  simp [m0, m1, m2, m5, d1, d2, d3, sq]
  exact ⟨Int.emod_nonneg _ (by decide), Int.emod_lt_of_pos _ (by decide)⟩

theorem gSet_cel {st : Sto} {n : Nat} {xs : List D} {m : Nat} {v : D} (h : st[n]? = some (.lst xs)) (hm : m < xs.length) : gSet (.cel n) (.int (m : Int)) v st = .ok () (st.set n (.lst (xs.set m v))) := by
  unfold gSet
  simp only [h]
  have e : ixN xs.length (m : Int) = some m := by
    unfold ixN
    rw [if_pos (by omega), if_pos (by omega)]
    simp
  rw [e]
theorem set_get {st : Sto} {n : Nat} {o : Co} (h : n < st.length) : (st.set n o)[n]? = some o := by
  rw [List.getElem?_set_self h]
theorem bits_small {b : Int} (h0 : 0 < b) (h : b < 18446744073709551616) : (Builtin.Int.intBits b : Int) / 30 ≤ 2 := by
  have : Builtin.Int.intBits b ≤ 64 := PySem.intBits_le_iff.mpr (by omega)
  omega
theorem sp_random {st : Sto} {n : Nat} {k b : Int} (g : Gen st n k) (hk : k ≤ 1000000000000) (h0 : 0 < b) (hb : b < 18446744073709551616) :
    ∃ r st', F__law_random [.cel n, .int b] st = .ok (.int r) st' ∧ 0 ≤ r ∧ r < b ∧ Gen st' n (k + 3) ∧ Fr n st st' ∧ st'.length = st.length := by
  obtain ⟨x, y, c, hg, hc0, hck⟩ := g
  have hn : n < st.length := (List.getElem?_eq_some_iff.mp hg).1
  have i0 : gIx (.cel n) (.int 0) st = .ok (.int x) st := gIx_cel hg rfl
  have md : ∀ z : Int, ∀ st, gMod (.int z) (.int b) st = .ok (.int (z % b)) st := fun z st => gMod_int h0
  have dv : gDiv (.int x) (.int b) st = .ok (.int (x / b)) st := gDiv_int h0 hb
  have s0 : gSet (.cel n) (.int 0) (.int (x / b)) st = .ok () (st.set n (.lst [.int (x / b), .int y, .int c])) := gSet_cel (m := 0) hg (by simp)
  by_cases hx : 0 < x
  · refine ⟨x % b, st.set n (.lst [.int (x / b), .int y, .int c]), ?_, Int.emod_nonneg _ (by omega), Int.emod_lt_of_pos _ h0, ⟨_, _, _, set_get hn, hc0, by omega⟩, .set, by simp⟩
    unfold F__law_random fb__law_random
    simp [i0, md, dv, s0, hx]
  · have hd : ∀ z : Int, gDiv (.int z) (.int 30) st = .ok (.int (z / 30)) st := fun z => gDiv_int (by decide) (by decide)
    let m : Int := 1 + (Builtin.Int.intBits b : Int) / 30
    have hm : m ≤ 3 := by have := bits_small h0 hb; omega
    have hm0 : 0 ≤ m := by omega
    have hr : rng 0 m = (List.range m.toNat).map fun i : Nat => (i : Int) := by unfold rng; simp
    let I : Nat → En → Sto → Prop := fun i ρ s => ∃ (dr : Int) (t : Option D), ρ = [some (.cel n), some (.int b), some (.int dr), t] ∧ s = st.set n (.lst [.int x, .int y, .int (c + i)])
    have step : ∀ (i : Nat), i < 3 → ∀ (v : D) (ρ : En) (s : Sto), I i ρ s → ∃ ρ' s', ((hName 3 v ρ s).toO ρ fun ρ1 st1 => (fSeq (fAsg (fBin gAdd (fBin gIx (fVar 0) (fC (.int 2))) (fC (.int 1))) (hSub (fVar 0) (fC (.int 2))))
        (fAsg (fBin gAdd (fBin gMul (fVar 2) (fC (.int 2147483587))) (fCall 2 F__law_hash (faCons (fBin gIx (fVar 0) (fC (.int 1))) (faCons (fBin gIx (fVar 0) (fC (.int 2))) faNil)))) (hName 2))) ρ1 st1) = .nx ρ' s' ∧ I (i + 1) ρ' s' := by
      rintro i hi v ρ s ⟨dr, t, rfl, rfl⟩
      let s1 := st.set n (.lst [.int x, .int y, .int (c + i)])
      let s2 := st.set n (.lst [.int x, .int y, .int (c + i + 1)])
      have g1 : s1[n]? = some (.lst [.int x, .int y, .int (c + i)]) := set_get hn
      have g2 : s2[n]? = some (.lst [.int x, .int y, .int (c + i + 1)]) := set_get hn
      have a1 : gIx (.cel n) (.int 2) s1 = .ok (.int (c + i)) s1 := gIx_cel g1 rfl
      have a2 : gSet (.cel n) (.int 2) (.int (c + i + 1)) s1 = .ok () s2 := by
        have := gSet_cel (m := 2) (v := .int (c + i + 1)) g1 (by simp)
        rw [show ((2 : Nat) : Int) = 2 from rfl] at this
        rw [this]
        simp [s1, s2]
      have a3 : gIx (.cel n) (.int 1) s2 = .ok (.int y) s2 := gIx_cel g2 rfl
      have a4 : gIx (.cel n) (.int 2) s2 = .ok (.int (c + i + 1)) s2 := gIx_cel g2 rfl
      obtain ⟨h, a5, _, _⟩ := sp_hash (s := y) (i := c + i + 1) (st := s2) (by omega)
      have a6 : gMul (.int dr) (.int 2147483587) s2 = .ok (.int (dr * 2147483587)) s2 := gMul_int (cMul_r (by decide))
      refine ⟨[some (.cel n), some (.int b), some (.int (dr * 2147483587 + h)), some v], s2, ?_, dr * 2147483587 + h, some v, rfl, ?_⟩
      · show R.toO (hName 3 v _ s1) _ _ = _
        simp [a1, a2, a3, a4, a5, a6]
      · show s2 = _
        simp only [s2]
        rw [show c + ((i + 1 : Nat) : Int) = c + i + 1 from by omega]
    have st0 : st.set n (.lst [.int x, .int y, .int (c + ((0 : Nat) : Int))]) = st := by
      rw [show c + ((0 : Nat) : Int) = c from by omega]
      refine List.ext_getElem? fun j => ?_
      by_cases e : n = j
      · subst e; rw [List.getElem?_set_self hn, hg]
      · rw [List.getElem?_set_ne e]
    have lp := loopF_inv (g := hName 3) (b := fSeq (fAsg (fBin gAdd (fBin gIx (fVar 0) (fC (.int 2))) (fC (.int 1))) (hSub (fVar 0) (fC (.int 2))))
        (fAsg (fBin gAdd (fBin gMul (fVar 2) (fC (.int 2147483587))) (fCall 2 F__law_hash (faCons (fBin gIx (fVar 0) (fC (.int 1))) (faCons (fBin gIx (fVar 0) (fC (.int 2))) faNil)))) (hName 2)))
      (p := D.int) I (rng 0 m) 0 [some (.cel n), some (.int b), some (.int 0), none] st ⟨0, none, rfl, st0.symm⟩ (fun k hk ρ s hI => by
        have hk3 : 0 + k < 3 := by rw [hr] at hk; simp at hk; omega
        exact step (0 + k) hk3 _ ρ s hI)
    obtain ⟨ρ', st', e1, dr, t, rfl, rfl⟩ := lp
    have hlen : (rng 0 m).length = m.toNat := by rw [hr]; simp
    rw [hlen] at e1
    have okm : okR m = true := by unfold okR; simp; omega
    refine ⟨dr % b, st.set n (.lst [.int x, .int y, .int (c + ((0 + m.toNat : Nat) : Int))]), ?_, Int.emod_nonneg _ (by omega), Int.emod_lt_of_pos _ h0, ⟨_, _, _, set_get hn, by omega, by omega⟩, .set, by simp⟩
    · unfold F__law_random fb__law_random
      simp [i0, hx, hd, show (1 + (Builtin.Int.intBits b : Int) / 30) = m from rfl, okm, e1, md]
end FL

/-! FMb: the laws' common helpers: a cell of the script, a generator, things drawn, scraps drawn -/
namespace FL
open PySem PySem.Spec PyProof.Rows L2

theorem kSum_lst {st : Sto} {is : List Int} : kSum [.lst (is.map D.int)] st = .ok (.int is.sum) st := by
  unfold kSum
  simp only [itemsS, itemsR, items, Option.bind_some, intsOf_map]
theorem sp_cell {ns : List Int} {i : Nat} {st : Sto} : ∃ r, F__law_cell [.ro (ns.map D.int), .int (i : Int)] st = .ok (.int r) st := by
  by_cases h : i < ns.length
  · have e : gIx (.ro (ns.map D.int)) (.int (i : Int)) st = .ok (.int ns[i]) st := gIx_ro (by rw [atI_nat, List.getElem?_map, List.getElem?_eq_getElem h]; rfl)
    refine ⟨ns[i], ?_⟩
    unfold F__law_cell fb__law_cell
    simp [e, h]
  · have e2 : cut (ns.map D.int) none (some 1) = (ns.take 1).map D.int := by
      have := cut_take (xs := ns.map D.int) (m := 1)
      rw [show ((1 : Nat) : Int) = 1 from rfl] at this
      rw [this, List.map_take]
    have e3 : ∀ x : Int, gMod (.int x) (.int 1000003) st = .ok (.int (x % 1000003)) st := fun x => gMod_int (by decide)
    have e4 : kSum [.lst (List.take 1 (List.map D.int ns))] st = .ok (.int (ns.take 1).sum) st := by rw [← List.map_take]; exact kSum_lst
    refine ⟨(ns.take 1).sum % 1000003, ?_⟩
    unfold F__law_cell fb__law_cell
    simp [h, e2, e4, e3]
theorem sp_generator {ns : List Int} {i : Nat} {st : Sto} : ∃ a b : Int, F__law_generator [.ro (ns.map D.int), .int (i : Int)] st = .ok (.cel st.length) (st ++ [.lst [.int a, .int b, .int (1000 * i)]]) := by
  obtain ⟨r, hr⟩ := sp_cell (ns := ns) (i := i) (st := st)
  have p1 : gPow (.int 10) (.int 18) st = .ok (.int 1000000000000000000) st := gPow_int (by decide +kernel)
  have p2 : gPow (.int 10) (.int 60) st = .ok (.int (10 ^ 60)) st := gPow_int (by decide +kernel)
  have p3 : gPow (.int (10 ^ 60)) (.int 10) st = .ok (.int (10 ^ 600)) st := by
    rw [gPow_int (by decide +kernel)]
    rw [← Int.pow_mul]
    rfl
  have e1 : ∀ x : Int, gMod (.int x) (.int (10 ^ 600)) st = .ok (.int (x % 10 ^ 600)) st := fun x => gMod_int (by decide +kernel)
  have e2 : ∀ x : Int, gMod (.int x) (.int 2147483647) st = .ok (.int (x % 2147483647)) st := fun x => gMod_int (by decide)
  have e3 : gMul (.int 1000) (.int (i : Int)) st = .ok (.int (1000 * i)) st := gMul_int (cMul_l (by decide))
  refine ⟨max (r - 1000000000000000000) 0 % 10 ^ 600, r % 2147483647, ?_⟩
  unfold F__law_generator fb__law_generator
  generalize hT : (10 : Int) ^ 60 = T at *
  generalize hU : (10 : Int) ^ 600 = U at *
  simp [hr, p1, p2, p3, e1, e2, e3, kMax_int, lim]
theorem gen_new {st : Sto} {a b : Int} {i : Nat} : Gen (st ++ [.lst [.int a, .int b, .int (1000 * i)]]) st.length (1000 * i) := ⟨a, b, 1000 * i, by simp, by omega, by omega⟩

/-- one of a list -/
theorem sp_pick {st : Sto} {n : Nat} {k : Int} {ds : List D} (g : Gen st n k) (hk : k ≤ 1000000000000) (h0 : ds ≠ []) (hl : ds.length ≤ lim) :
    ∃ d st', F__law_pick [.cel n, .lst ds] st = .ok d st' ∧ d ∈ ds ∧ Gen st' n (k + 3) ∧ Fr n st st' ∧ st'.length = st.length := by
  have hp : 0 < ds.length := List.length_pos_iff.mpr h0
  unfold lim at hl
  obtain ⟨r, st', h1, h2, h3, h4, h5, h6⟩ := sp_random g hk (b := (ds.length : Int)) (by omega) (by omega)
  obtain ⟨m, rfl⟩ := Int.eq_ofNat_of_zero_le h2
  have hm : m < ds.length := by omega
  have e : gIx (.lst ds) (.int (m : Int)) st' = .ok ds[m] st' := gIx_lst (by rw [atI_nat, List.getElem?_eq_getElem hm])
  refine ⟨ds[m], st', ?_, List.getElem_mem hm, h4, h5, h6⟩
  unfold F__law_pick fb__law_pick
  simp [h1, e]
theorem joinS_nil : ∀ ss : List (List Nat), joinS [] ss = ss.flatten
  | [] => rfl
  | [a] => by simp [joinS]
  | a :: b :: r => by
    have := joinS_nil (b :: r)
    rw [joinS, this]
    simp
theorem mJoin_nil {st : Sto} {ss : List (List Nat)} (h : ss.flatten.length ≤ lim) : mJoin (.str []) [.lst (ss.map D.str)] st = .ok (.str ss.flatten) st := by
  unfold mJoin
  simp only [itemsS, itemsR, items, Option.bind_some, strsOf_map]
  rw [if_pos (by rw [List.length_flatten] at h; simpa using h), joinS_nil]
theorem mem_singles {signs : List Nat} {d : D} (h : d ∈ signs.map fun c => D.str [c]) : ∃ c ∈ signs, d = .str [c] := by
  obtain ⟨c, hc, rfl⟩ := List.mem_map.mp h
  exact ⟨c, hc, rfl⟩
theorem singles_of : ∀ {signs : List Nat} {ys : List D}, (∀ y ∈ ys, ∃ c ∈ signs, y = .str [c]) → ∃ s : List Nat, ys = (s.map fun c => [c]).map D.str ∧ s.length = ys.length ∧ ∀ c ∈ s, c ∈ signs
  | _, [], _ => ⟨[], rfl, rfl, by simp⟩
  | signs, y :: ys, h => by
    obtain ⟨c, hc, rfl⟩ := h y List.mem_cons_self
    obtain ⟨s, rfl, h2, h3⟩ := singles_of (ys := ys) fun y hy => h y (List.mem_cons_of_mem _ hy)
    refine ⟨c :: s, rfl, by simp, fun x hx => ?_⟩
    rcases List.mem_cons.mp hx with rfl | hx
    · exact hc
    · exact h3 x hx
theorem singles_flat (s : List Nat) : (s.map fun c => [c]).flatten = s := by
  induction s with
  | nil => rfl
  | cons c s ih => rw [List.map_cons, List.flatten_cons, ih]; rfl
theorem kList_str {st : Sto} {s : List Nat} (h : s.length ≤ lim) : kList [.str s] st = .ok (.lst (s.map fun c => .str [c])) st := by
  show (if s.length ≤ lim then _ else _) = _
  rw [if_pos h]
theorem rng_len {a b : Int} : (rng a b).length = (b - a).toNat := by unfold rng; simp
theorem sp_scrap {st : Sto} {n : Nat} {k most : Int} {signs : List Nat} (g : Gen st n k) (hk : k ≤ 900000000000) (hs : signs ≠ []) (hsl : signs.length ≤ 1000) (h0 : 0 < most) (hm : most ≤ 1000) :
    ∃ s st', F__law_scrap [.cel n, .str signs, .int most] st = .ok (.str s) st' ∧ s ≠ [] ∧ (s.length : Int) ≤ most ∧ (∀ c ∈ s, c ∈ signs) ∧ Gen st' n (k + 3 + 3 * most) ∧ Fr n st st' ∧ st'.length = st.length := by
  obtain ⟨r, st1, h1, h2, h3, h4, h5, h6⟩ := sp_random g (by omega) (b := most) h0 (by omega)
  have hl : (rng 0 (1 + r)).length = (1 + r).toNat := by rw [rng_len]; simp
  have hs0 : (signs.map fun c => D.str [c]) ≠ [] := by simpa using hs
  obtain ⟨ys, st2, k1, k2, k3, k4, k5, k6⟩ := lcL_inv (T := turnL (hName 3) fYes (fCall 2 F__law_pick (faCons (fVar 0) (faCons (fCB kList (faCons (fVar 1) faNil)) faNil))) [3] [some (.cel n), some (.str signs), some (.int most), none]) (p := D.int)
    (fun j s => Gen s n (k + 3 + 3 * j) ∧ Fr n st s ∧ s.length = st.length) (fun y => ∃ c ∈ signs, y = .str [c]) (rng 0 (1 + r)) 0 st1 ⟨h4.mono (by omega), h5, h6⟩ (fun x hx j s hj ⟨g1, g2, g3⟩ => by
      rw [hl] at hj
      obtain ⟨d, s', p1, p2, p3, p4, p5⟩ := sp_pick g1 (by omega) hs0 (by unfold lim; simpa using (by omega : signs.length ≤ 1000000))
      refine ⟨d, s', ?_, mem_singles p2, p3.mono (by omega), g2.trans p4, p5.trans g3⟩
      have kl : kList [.str signs] s = .ok (.lst (signs.map fun c => .str [c])) s := kList_str (by unfold lim; omega)
      simp [ev_turn, kl, p1])
  obtain ⟨s, hL, l1, l2⟩ := singles_of k2
  have hlen : s.length = (1 + r).toNat := by rw [l1, k3, hl]
  have okm : okR (1 + r) = true := by unfold okR; simp; omega
  have lm : s.length ≤ lim := by unfold lim; omega
  refine ⟨s, st2, ?_, fun e => ?_, by omega, l2, k4.mono (by rw [hl]; omega), k5, k6⟩
  · have mj : mJoin (.str []) [.lst ys] st2 = .ok (.str s) st2 := by
      have := mJoin_nil (st := st2) (ss := s.map fun c => [c]) (by rw [singles_flat]; exact lm)
      rw [singles_flat, ← hL] at this
      exact this
    have en : endL false ys st2 = .ok (.lst ys) st2 := by
      unfold endL
      rw [if_pos (by rw [← l1]; exact lm)]
      rfl
    unfold F__law_scrap fb__law_scrap
    simp [h1, okm, k1, en, mj, tyIs]
  · rw [e] at hlen
    simp at hlen
    omega
end FL

/-! FMc: turnings of a list -/
namespace FL
section
variable {α : Type}
def rot (l : List α) (i : Nat) : List α := l.drop (i % l.length) ++ l.take (i % l.length)
theorem rot_length (l : List α) (i : Nat) : (rot l i).length = l.length := by
  unfold rot
  rw [List.length_append, List.length_drop, List.length_take]
  by_cases h : l.length = 0
  · rw [h]; simp
  · have := Nat.mod_lt i (Nat.pos_of_ne_zero h)
    omega
theorem rot_get (l : List α) (i j : Nat) (hj : j < l.length) : (rot l i)[j]? = l[(i + j) % l.length]? := by
  have hp : 0 < l.length := by omega
  have hm := Nat.mod_lt i hp
  have e : (i + j) % l.length = (i % l.length + j) % l.length := by rw [Nat.mod_add_mod]
  rw [e]
  unfold rot
  generalize i % l.length = m at *
  by_cases h : j < l.length - m
  · rw [List.getElem?_append_left (by rw [List.length_drop]; exact h), List.getElem?_drop, Nat.mod_eq_of_lt (by omega)]
  · rw [List.getElem?_append_right (by rw [List.length_drop]; omega), List.length_drop, List.getElem?_take_of_lt (by omega)]
    have : (m + j) % l.length = m + j - l.length := by
      rw [Nat.mod_eq_sub_mod (by omega), Nat.mod_eq_of_lt (by omega)]
    rw [this]
    congr 1
    omega
theorem rot_ext {l m : List α} (hl : l.length = m.length) (h : ∀ j, j < l.length → l[j]? = m[j]?) : l = m := by
  refine List.ext_getElem? fun j => ?_
  by_cases hj : j < l.length
  · exact h j hj
  · rw [List.getElem?_eq_none (by omega), List.getElem?_eq_none (by omega)]
theorem rot_rot (l : List α) (i j : Nat) : rot (rot l i) j = rot l (i + j) := by
  refine rot_ext (by rw [rot_length, rot_length, rot_length]) fun k hk => ?_
  rw [rot_length, rot_length] at hk
  rw [rot_get _ _ _ (by rw [rot_length]; exact hk), rot_length, rot_get _ _ _ (Nat.mod_lt _ (by omega)), rot_get _ _ _ hk]
  congr 1
  rw [Nat.add_mod_mod, Nat.add_assoc]
theorem rot_zero (l : List α) : rot l 0 = l := by unfold rot; simp
theorem rot_mod (l : List α) (i : Nat) : rot l (i % l.length) = rot l i := by unfold rot; rw [Nat.mod_mod]
theorem rot_len (l : List α) : rot l l.length = l := by rw [← rot_mod, Nat.mod_self, rot_zero]
theorem rot_nil (i : Nat) : rot ([] : List α) i = [] := by unfold rot; simp
theorem rot_one {l : List α} : rot l 1 = l.drop 1 ++ l.take 1 := by
  match l with
  | [] => simp [rot]
  | [a] => simp [rot]
  | a :: b :: r =>
    unfold rot
    rw [Nat.mod_eq_of_lt (by simp)]
theorem rot_ne {l : List α} (h : l ≠ []) (i : Nat) : rot l i ≠ [] := fun e => by
  have := rot_length l i
  rw [e] at this
  exact h (List.length_eq_zero_iff.mp this.symm)
theorem rot_perm (l : List α) (i : Nat) : (rot l i).Perm l := by
  unfold rot
  exact List.perm_append_comm.trans (by rw [List.take_append_drop])
theorem rot_mem {l : List α} {i : Nat} {x : α} : x ∈ rot l i ↔ x ∈ l := (rot_perm l i).mem_iff
theorem rot_back (l : List α) (i : Nat) : ∃ j, rot (rot l i) j = l := by
  by_cases h : l.length = 0
  · have := List.length_eq_zero_iff.mp h
    subst this
    exact ⟨0, by rw [rot_nil, rot_nil]⟩
  · refine ⟨l.length - i % l.length, ?_⟩
    have hm := Nat.mod_lt i (Nat.pos_of_ne_zero h)
    rw [← rot_mod l i, rot_rot]
    rw [show i % l.length + (l.length - i % l.length) = l.length from by omega, rot_len]

/-! ### the least period -/
variable [DecidableEq α]
/-- the least i from 1 on by which l turns to itself -/
def per (l : List α) : Nat := ((List.range l.length).map (· + 1)).find? (fun i => decide (rot l i = l)) |>.getD 0
theorem per_spec {l : List α} (h : l ≠ []) : 0 < per l ∧ per l ≤ l.length ∧ rot l (per l) = l ∧ ∀ i, 0 < i → rot l i = l → per l ≤ i := by
  have hp : 0 < l.length := List.length_pos_iff.mpr h
  unfold per
  cases e : ((List.range l.length).map (· + 1)).find? (fun i => decide (rot l i = l)) with
  | none =>
    exfalso
    rw [List.find?_eq_none] at e
    refine e l.length (List.mem_map.mpr ⟨l.length - 1, List.mem_range.mpr (by omega), by omega⟩) ?_
    simpa using rot_len l
  | some r =>
    rw [List.find?_eq_some_iff_append] at e
    obtain ⟨h1, as, bs, h2, h3⟩ := e
    have hr : r ∈ (List.range l.length).map (· + 1) := by rw [h2]; simp
    obtain ⟨k, hk, rfl⟩ := List.mem_map.mp hr
    rw [List.mem_range] at hk
    refine ⟨by simp, (show k + 1 ≤ l.length from hk), by simpa using h1, fun i hi hi2 => ?_⟩
    show k + 1 ≤ i
    refine Nat.le_of_not_lt fun hlt => ?_
    have hsp : ((List.range l.length).map (· + 1)).take (k + 1) = (List.range (k + 1)).map (· + 1) := by
      rw [← List.map_take, List.take_range, Nat.min_eq_left (by omega)]
    have hi3 : ((List.range l.length).map (· + 1))[i - 1]? = some i := by
      rw [List.getElem?_map, List.getElem?_range (by omega)]
      simp; omega
    have hk3 : ((List.range l.length).map (· + 1))[k]? = some (k + 1) := by
      rw [List.getElem?_map, List.getElem?_range (by omega)]
      simp
    -- the place of k + 1 is as.length
    have nd : ((List.range l.length).map (· + 1)).Nodup := by
      rw [List.Nodup, List.pairwise_map]
      exact List.nodup_range.imp fun h => by omega
    have ha : as.length = k := by
      have h4 : ((List.range l.length).map (· + 1))[as.length]? = some (k + 1) := by rw [h2]; simp
      rw [List.getElem?_map] at h4
      by_cases hb : as.length < l.length
      · rw [List.getElem?_range hb] at h4
        simp at h4
        exact h4
      · rw [List.getElem?_eq_none (by simpa using hb)] at h4
        cases h4
    have hm : i ∈ as := by
      rw [h2, List.getElem?_append_left (by omega)] at hi3
      exact List.mem_of_getElem? hi3
    have := h3 i hm
    simp [hi2] at this
theorem rot_mul {l : List α} {r : Nat} (h : rot l r = l) : ∀ k, rot l (r * k) = l
  | 0 => rot_zero l
  | k + 1 => by rw [Nat.mul_succ, ← rot_rot, rot_mul h k, h]
theorem per_dvd {l : List α} (h : l ≠ []) {i : Nat} : rot l i = l ↔ per l ∣ i := by
  obtain ⟨h1, h2, h3, h4⟩ := per_spec h
  constructor
  · intro e
    have e2 : rot l (i % per l) = l := by
      have hs : i = per l * (i / per l) + i % per l := (Nat.div_add_mod _ _).symm
      rw [hs, ← rot_rot, rot_mul h3] at e
      exact e
    have hm := Nat.mod_lt i h1
    by_cases z : i % per l = 0
    · exact Nat.dvd_of_mod_eq_zero z
    · exact absurd (h4 _ (Nat.pos_of_ne_zero z) e2) (by omega)
  · rintro ⟨k, rfl⟩
    exact rot_mul h3 k
theorem per_len {l : List α} (h : l ≠ []) : per l ∣ l.length := (per_dvd h).mp (rot_len l)
theorem rot_per_mod {l : List α} (h : l ≠ []) (i : Nat) : rot l i = rot l (i % per l) := by
  obtain ⟨h1, h2, h3, h4⟩ := per_spec h
  have hs : i = per l * (i / per l) + i % per l := (Nat.div_add_mod _ _).symm
  conv => lhs; rw [hs, ← rot_rot, rot_mul h3]
theorem rot_eq_iff {l : List α} (h : l ≠ []) {i j : Nat} (hi : i < per l) (hj : j < per l) (e : rot l i = rot l j) : i = j := by
  obtain ⟨h1, h2, h3, h4⟩ := per_spec h
  have key : ∀ {i j : Nat}, i ≤ j → j < per l → rot l i = rot l j → i = j := fun {i j} hij hj e => by
    have e2 : rot l (i + (per l - i)) = rot l (j + (per l - i)) := by rw [← rot_rot, ← rot_rot, e]
    rw [show i + (per l - i) = per l from by omega, h3] at e2
    have := (per_dvd h).mp e2.symm
    rw [show j + (per l - i) = (j - i) + per l from by omega] at this
    have := (Nat.dvd_add_left (Nat.dvd_refl _)).mp this
    have := Nat.eq_zero_of_dvd_of_lt this (by omega)
    omega
  rcases Nat.le_total i j with q | q
  · exact key q hj e
  · exact (key q hi e.symm).symm
/-- all turnings, each once -/
def turns (l : List α) : List (List α) := (List.range (per l)).map (rot l)
theorem turns_nodup {l : List α} (h : l ≠ []) : (turns l).Nodup := by
  unfold turns
  rw [List.Nodup, List.pairwise_map]
  refine (List.nodup_range (n := per l)).imp_of_mem fun {i j} hi hj hne e => hne (rot_eq_iff h (List.mem_range.mp hi) (List.mem_range.mp hj) e)
theorem mem_turns {l m : List α} (h : l ≠ []) : m ∈ turns l ↔ ∃ i, m = rot l i := by
  obtain ⟨h1, h2, h3, h4⟩ := per_spec h
  unfold turns
  rw [List.mem_map]
  constructor
  · rintro ⟨i, _, rfl⟩
    exact ⟨i, rfl⟩
  · rintro ⟨i, rfl⟩
    exact ⟨i % per l, List.mem_range.mpr (Nat.mod_lt _ h1), (rot_per_mod h i).symm⟩
/-- a list out of equal pieces turns by a piece -/
theorem rep_get {l : List α} {k : Nat} (hk : 0 < k) : ∀ (m : Nat) {j : Nat}, l.length = k → j < k * m → ((List.replicate m l).flatten)[j]? = l[j % k]?
  | 0, j, _, h => by simp at h
  | m + 1, j, hl, h => by
    rw [List.replicate_succ, List.flatten_cons]
    by_cases hj : j < k
    · rw [List.getElem?_append_left (by omega), Nat.mod_eq_of_lt hj]
    · rw [List.getElem?_append_right (by omega), hl, rep_get hk m hl (by rw [Nat.mul_succ] at h; generalize k * m = z at *; omega)]
      congr 1
      exact (Nat.mod_eq_sub_mod (by omega)).symm
theorem rep_iff {l : List α} {k : Nat} (h : l ≠ []) (hk : 0 < k) (hd : k ∣ l.length) : (List.replicate (l.length / k) (l.take k)).flatten = l ↔ rot l k = l := by
  have hp : 0 < l.length := List.length_pos_iff.mpr h
  have hle : k ≤ l.length := Nat.le_of_dvd hp hd
  obtain ⟨q, hq⟩ := hd
  have hdiv : l.length / k = q := by rw [hq]; exact Nat.mul_div_cancel_left q hk
  have htl : (l.take k).length = k := by rw [List.length_take]; omega
  have hlen : ((List.replicate (l.length / k) (l.take k)).flatten).length = l.length := by
    rw [List.length_flatten, List.map_replicate, List.sum_replicate_nat, htl, hdiv, hq, Nat.mul_comm]
  constructor
  · intro e
    refine rot_ext (rot_length _ _) fun j hj => ?_
    rw [rot_length] at hj
    rw [rot_get _ _ _ hj]
    have g : ∀ j, j < l.length → l[j]? = (l.take k)[j % k]? := fun j hj => by
      conv => lhs; rw [← e]
      exact rep_get hk _ htl (by rw [hdiv]; omega)
    have hm : (k + j) % l.length < l.length := Nat.mod_lt _ hp
    rw [g _ hm, g j hj]
    congr 1
    rw [Nat.mod_mod_of_dvd _ ⟨q, hq⟩, Nat.add_mod_left]
  · intro e
    have g : ∀ i j, j < l.length → l[j]? = l[(k * i + j) % l.length]? := fun i j hj => by
      have := rot_get l (k * i) j hj
      rw [rot_mul e] at this
      exact this
    refine rot_ext hlen fun j hj => ?_
    rw [hlen] at hj
    rw [rep_get hk _ htl (by rw [hdiv]; omega), List.getElem?_take_of_lt (Nat.mod_lt _ hk)]
    have hj2 : j % k < l.length := Nat.lt_of_lt_of_le (Nat.mod_lt _ hk) hle
    rw [g (j / k) _ hj2, Nat.div_add_mod, Nat.mod_eq_of_lt hj]
end
end FL

/-! FMd: the laws' common helpers: exact, marked, unlike -/
namespace FL
open PySem PySem.Spec PyProof.Rows L2

/-- a list, and what it holds -/
def isL (st : Sto) (d : D) (ds : List D) : Prop := d = .lst ds ∨ ∃ k, d = .cel k ∧ st[k]? = some (.lst ds)
section
variable {st : Sto} {d e : D} {ds es : List D}
theorem isL.ty (h : isL st d ds) : tyOf st d = some .list := by
  rcases h with rfl | ⟨k, rfl, h⟩
  · rfl
  · show (match st[k]? with
      | some (.lst _) => some Ty.list
      | some (.dct _) => some Ty.dict
      | some (.lck _) => some Ty.dict
      | none => none) = _
    rw [h]
theorem isL.len (h : isL st d ds) : kLen [d] st = .ok (.int ds.length) st := by
  rcases h with rfl | ⟨k, rfl, h⟩
  · rfl
  · exact kLen_cel h
theorem isL.ix {i : Int} {x : D} (h : isL st d ds) (hx : atI ds i = some x) : gIx d (.int i) st = .ok x st := by
  rcases h with rfl | ⟨k, rfl, h⟩
  · exact gIx_lst hx
  · exact gIx_cel h hx
theorem isL.py {n : Nat} (h : isL st d ds) : toPy st (n + 1) d = (ds.mapM (toPy st n)).map .list := by
  rcases h with rfl | ⟨k, rfl, h⟩
  · rfl
  · exact toPy_cel h
theorem isL.sd (h : isL st d ds) : ∃ s, sdOf st d = some s ∧ ∀ i, sdAt s st i = some ds[i]? := by
  rcases h with rfl | ⟨k, rfl, h⟩
  · exact ⟨.fix ds, rfl, fun i => rfl⟩
  · refine ⟨.cel k, ?_, fun i => ?_⟩
    · show (match st[k]? with
        | some (.lst _) => some (Sd.cel k)
        | _ => none) = _
      rw [h]
    · show (match st[k]? with
        | some (.lst ds) => some ds[i]?
        | _ => none) = _
      rw [h]
theorem isL.ntup (h : isL st d ds) : ∀ xs, d ≠ .tup xs := by
  rcases h with rfl | ⟨k, rfl, h⟩
  · intro xs e; cases e
  · intro xs e; cases e
theorem zipS_L (h : isL st d ds) (k : isL st e es) : ∃ a b, zipS st [d, e] = some (.zip a b) ∧ (∀ i, sdAt a st i = some ds[i]?) ∧ ∀ i, sdAt b st i = some es[i]? := by
  obtain ⟨a, a1, a2⟩ := h.sd
  obtain ⟨b, b1, b2⟩ := k.sd
  refine ⟨a, b, ?_, a2, b2⟩
  unfold zipS
  split
  · rename_i xs ys q
    injection q with q1 q2
    exact absurd q1 (h.ntup _)
  · rename_i x y hn q
    injection q with q1 q2
    injection q2 with q2 q3
    subst q1 q2
    rw [a1, b1]
  · rename_i hn1 hn2
    exact absurd rfl (hn2 d e)
theorem lcN_zip {a b : Sd} {ds es : List D} {T : D → Sto → R (Option D)} {v : D} (ha : ∀ i, sdAt a st i = some ds[i]?) (hb : ∀ i, sdAt b st i = some es[i]?) (hl : ds.length = es.length)
    (hT : ∀ (i : Nat) x y, ds[i]? = some x → es[i]? = some y → T (.tup [x, y]) st = .ok (some v) st) : ∀ (m i : Nat), i + m = ds.length → lcN (.zip a b) T (m + 1) i st = .ok (List.replicate m v) st
  | 0, i, h => by
    have e1 : ds[i]? = none := List.getElem?_eq_none (by omega)
    rw [lcN]
    unfold nextS
    simp only [ha, hb, e1]
    cases es[i]? <;> rfl
  | m + 1, i, h => by
    have e1 : ds[i]? = some ds[i] := List.getElem?_eq_getElem (by omega)
    have e2 : es[i]? = some es[i] := List.getElem?_eq_getElem (by omega)
    rw [lcN]
    unfold nextS
    simp only [ha, hb, e1, e2, hT i _ _ e1 e2, R.bind_ok]
    rw [lcN_zip ha hb hl hT m (i + 1) (by omega)]
    rfl
theorem runL_zip {a b : Sd} {T : D → Sto → R (Option D)} {v : D} (ha : ∀ i, sdAt a st i = some ds[i]?) (hb : ∀ i, sdAt b st i = some es[i]?) (hl : ds.length = es.length)
    (hT : ∀ (i : Nat) x y, ds[i]? = some x → es[i]? = some y → T (.tup [x, y]) st = .ok (some v) st) : runL (.zip a b) T st = .ok (List.replicate ds.length v) st := by
  have h := lcN_zip ha hb hl hT ds.length 0 (by omega)
  have hf : sdLen a st = ds.length := by
    cases a with
    | fix xs =>
      have : ∀ i : Nat, xs[i]? = ds[i]? := fun i => Option.some.inj (ha i)
      rw [List.ext_getElem? this]
      rfl
    | cel k =>
      have h0 := ha 0
      unfold sdAt at h0
      show celLen st k = _
      unfold celLen
      cases q : st[k]? with
      | none => simp [q] at h0
      | some o =>
        cases o with
        | dct es => simp [q] at h0
        | lck es => simp [q] at h0
        | lst xs =>
          have : ∀ i : Nat, xs[i]? = ds[i]? := fun i => by
            have := ha i
            unfold sdAt at this
            simp only [q] at this
            exact Option.some.inj this
          rw [List.ext_getElem? this]
  show lcN _ T (sdLen a st + 1) 0 st = _
  rw [hf]
  exact h
end
theorem gNotIn_trues {st : Sto} {n : Nat} : gNotIn (.bl false) (.lst (List.replicate n (.bl true))) st = .ok (.bl true) st := by
  have e : toPy st 40 (.lst (List.replicate n (.bl true))) = some (.list (List.replicate n (.bool true))) := by
    rw [toPy_lst]
    have := toPy_bls (st := st) (n := 39) (bs := List.replicate n true)
    rw [List.map_replicate, List.map_replicate] at this
    rw [this]
    rfl
  unfold gNotIn inD
  simp only [toPy_bl, e]
  have : ((List.replicate n (PyData.bool true)).any fun z => PyData.eqv z (.bool false)) = false := by
    rw [List.any_eq_false]
    intro x hx
    rw [(List.mem_replicate.mp hx).2]
    decide
  rw [this]
  rfl
/-! ### exact -/
theorem kIsi_of {st : Sto} {d : D} {t u : Ty} (h : tyOf st d = some t) : kIsi [d, .ty u] st = .ok (.bl (isTy t u)) st := by
  show (match tyOf st d with
    | some a => R.ok (D.bl (isTy a u)) st
    | none => .no) = _
  rw [h]
theorem kIsi_of2 {st : Sto} {d : D} {t u v : Ty} (h : tyOf st d = some t) : kIsi [d, .tup [.ty u, .ty v]] st = .ok (.bl (isTy t u || isTy t v)) st := by
  show (match tyOf st d with
    | some a => R.ok (D.bl (isTy a u || isTy a v)) st
    | none => .no) = _
  rw [h]
section
variable {st : Sto} {n : Nat}
theorem ex_int {i : Int} : F__law_exact (n + 1) [.int i, .int i] st = .ok (.bl true) st := by
  have h : tyOf st (.int i) = some .int := rfl
  unfold F__law_exact fb__law_exact
  simp [kIsi_of h, isTy, gIs, isD, isNone]
theorem ex_bl {b : Bool} : F__law_exact (n + 1) [.bl b, .bl b] st = .ok (.bl true) st := by
  have h : tyOf st (.bl b) = some .bool := rfl
  unfold F__law_exact fb__law_exact
  cases b <;> simp [kIsi_of h, isTy, gIs, isD, isNone]
theorem ex_non : F__law_exact (n + 1) [.non, .non] st = .ok (.bl true) st := by
  have h : tyOf st .non = some .non := rfl
  unfold F__law_exact fb__law_exact
  simp [kIsi_of h, isTy, gIs, isD, isNone]
theorem ex_str {s : List Nat} (hs : okT s) : F__law_exact (n + 1) [.str s, .str s] st = .ok (.bl true) st := by
  have h : tyOf st (.str s) = some .str := rfl
  unfold F__law_exact fb__law_exact
  simp [kIsi_of h, isTy, gIs, isD, isNone, gEq_str hs hs]
theorem ex_lst {t d : D} {ts ds : List D} (ht : isL st t ts) (hd : isL st d ds) (hl : ts.length = ds.length) (hm : ts.length ≤ lim) (hT : ∀ (i : Nat) x y, ts[i]? = some x → ds[i]? = some y → F__law_exact n [x, y] st = .ok (.bl true) st) :
    F__law_exact (n + 1) [t, d] st = .ok (.bl true) st := by
  obtain ⟨a, b, z1, z2, z3⟩ := zipS_L ht hd
  have r := runL_zip (T := turnL (hTup 2 (hCons (hName 2) (hCons (hName 3) hNil))) fYes (fCall 2 (F__law_exact n) (faCons (fVar 2) (faCons (fVar 3) faNil))) [2, 3] [some t, some d, none, none]) (v := .bl true) z2 z3 hl (fun i x y hx hy => by
    simp [ev_turn, hT i x y hx hy])
  have en : endL false (List.replicate ts.length (.bl true)) st = .ok (.lst (List.replicate ts.length (.bl true))) st := by
    unfold endL
    rw [if_pos (by simpa using hm)]
    rfl
  unfold F__law_exact fb__law_exact
  simp [kIsi_of ht.ty, kIsi_of hd.ty, isTy, ht.len, hd.len, hl, z1]
  rw [hl] at r en
  simp [r, en, gNotIn_trues]
end
/-! ### marked -/
theorem marked_str {st : Sto} {n : Nat} {s : List Nat} : F__law_marked (n + 1) [.str s] st = .ok (.bl true) st := by
  have h : tyOf st (.str s) = some .str := rfl
  unfold F__law_marked fb__law_marked
  simp [kIsi_of h, kIsi_of2 h, isTy, gIs, isD, isNone, lim]
end FL

/-! FMe: the laws' common helpers: marked lists, unlike, turnings -/
namespace FL
open PySem PySem.Spec PyProof.Rows L2

theorem runL_cel {st : Sto} {k : Nat} {ds : List D} {T : D → Sto → R (Option D)} {v : D} (h : st[k]? = some (.lst ds)) (hT : ∀ x ∈ ds, T x st = .ok (some v) st) : runL (.cel k) T st = .ok (List.replicate ds.length v) st := by
  have key : ∀ (m i : Nat), i + m = ds.length → lcN (.cel k) T (m + 1) i st = .ok (List.replicate m v) st := by
    intro m
    induction m with
    | zero =>
      intro i hi
      have e1 : ds[i]? = none := List.getElem?_eq_none (by omega)
      rw [lcN]
      unfold nextS
      simp only [h, e1]
      rfl
    | succ m ih =>
      intro i hi
      have e1 : ds[i]? = some ds[i] := List.getElem?_eq_getElem (by omega)
      rw [lcN]
      unfold nextS
      simp only [h, e1, hT _ (List.getElem_mem _), R.bind_ok]
      rw [ih (i + 1) (by omega)]
      rfl
  show lcN _ T (celLen st k + 1) 0 st = _
  have e : celLen st k = ds.length := by unfold celLen; rw [h]
  rw [e]
  exact key ds.length 0 (by omega)
def mk' : List Nat := [109, 97, 114, 107, 101, 100]
theorem marked_cel {st : Sto} {n k : Nat} {ss : List (List Nat)} (h : st[k]? = some (.lst (ss.map D.str))) (ok : ∀ s ∈ ss, okT s) (hn : ∀ s ∈ ss, s ≠ mk') (hl : ss.length < lim) :
    F__law_marked (n + 2) [.cel k] st = .ok (.bl true) (st.set k (.lst (ss.map D.str ++ [.str mk']))) := by
  have L : isL st (.cel k) (ss.map D.str) := .inr ⟨k, rfl, h⟩
  have ne : gNe (.cel k) (.lst []) st = .ok (.bl (decide (ss.map D.str ≠ []))) st := gNe_nil (ps := ss.map fun s => .str (sv s)) (by rw [L.py, toPy_strs ok]; rfl) (by simp)
  have r := runL_cel (T := turnL (hName 2) fYes (fCall 1 (F__law_marked (n + 1)) (faCons (fVar 2) faNil)) [2] [some (.cel k), none, none]) (v := .bl true) h (fun x hx => by
    obtain ⟨s, _, rfl⟩ := List.mem_map.mp hx
    simp [ev_turn, marked_str])
  rw [List.length_map] at r
  have en : endL false (List.replicate ss.length (.bl true)) st = .ok (.lst (List.replicate ss.length (.bl true))) st := by
    unfold endL
    rw [if_pos (by simp; omega)]
    rfl
  have ap : ∀ st, st[k]? = some (.lst (ss.map D.str)) → mAppend (.cel k) [.str [109, 97, 114, 107, 101, 100]] st = .ok .non (st.set k (.lst (ss.map D.str ++ [.str mk']))) := fun st h => by
    unfold mAppend
    simp only [h, List.length_map]
    rw [if_pos hl]
    rfl
  have ty : tyIs .list st (.cel k) = true := by
    unfold tyIs
    simp only [itemsR_cel h]
    rfl
  have last : ss ≠ [] → ∃ s, gIx (.cel k) (.int (-1)) st = .ok (.str s) st ∧ gEq (.str s) (.str [109, 97, 114, 107, 101, 100]) st = .ok (.bl false) st := fun hs => by
    have hm := List.getLast_mem hs
    refine ⟨ss.getLast hs, L.ix (by rw [atI_last, List.getLast?_map, List.getLast?_eq_some_getLast hs]; rfl), ?_⟩
    rw [gEq_str (ok _ hm) (show okT [109, 97, 114, 107, 101, 100] from rfl), decide_eq_false (show ¬ ss.getLast hs = [109, 97, 114, 107, 101, 100] from hn _ hm)]
  have tr : ∀ st, gNotIn (.bl false) (.lst (List.replicate ss.length (.bl true))) st = .ok (.bl true) st := fun st => gNotIn_trues
  unfold F__law_marked fb__law_marked
  generalize hQ : ss.map D.str = Q at *
  generalize hA : Co.lst (Q ++ [D.str mk']) = A at *
  by_cases hs : ss = []
  · have hq : Q = [] := by rw [← hQ, hs]; rfl
    simp only [hq, ne_eq, not_true, decide_false] at ne
    simp [kIsi_of L.ty, isTy, ne, h, r, en, ty, ap st h, tr]
  · obtain ⟨s, l1, l2⟩ := last hs
    have hq : Q ≠ [] := by rw [← hQ]; simpa using hs
    rw [decide_eq_true hq] at ne
    simp [kIsi_of L.ty, isTy, ne, h, r, en, ty, ap st h, tr, l1, l2]

/-! ### unlike -/
def uq : List (List Nat) → List (List Nat) → List (List Nat)
  | acc, [] => acc
  | acc, x :: xs => if x ∈ acc then uq acc xs else uq (acc ++ [x]) xs
theorem any_strs {s : List Nat} : ∀ {ss : List (List Nat)}, ((ss.map fun s => PyData.str (sv s)).any fun z => PyData.eqv z (.str (sv s))) = decide (s ∈ ss)
  | [] => rfl
  | t :: ts => by
    rw [List.map_cons, List.any_cons, eqv_str, any_strs (ss := ts)]
    by_cases a : t = s
    · subst a; simp
    · by_cases b : s ∈ ts <;> simp [a, b, Ne.symm a]
theorem inD_strs {st : Sto} {k : Nat} {s : List Nat} {ss : List (List Nat)} (h : st[k]? = some (.lst (ss.map D.str))) (hs : okT s) (ok : ∀ s ∈ ss, okT s) : gNotIn (.str s) (.cel k) st = .ok (.bl (!decide (s ∈ ss))) st := by
  have e : toPy st 40 (.cel k) = some (.list (ss.map fun s => .str (sv s))) := by rw [toPy_cel h, toPy_strs ok]; rfl
  unfold gNotIn inD
  simp only [toPy_str hs, e]
  have : ((ss.map fun s => PyData.str (sv s)).any fun z => PyData.eqv z (.str (sv s))) = decide (s ∈ ss) := by
    exact any_strs
  rw [this]

theorem uq_len : ∀ (xs acc : List (List Nat)), (uq acc xs).length ≤ acc.length + xs.length
  | [], acc => by simp [uq]
  | x :: xs, acc => by
    unfold uq
    split
    · have := uq_len xs acc; simp; omega
    · have := uq_len xs (acc ++ [x]); simp at this ⊢; omega
theorem set_last {st : Sto} {a b : Co} : (st ++ [a]).set st.length b = st ++ [b] := by
  rw [List.set_append_right _ _ (Nat.le_refl _)]
  simp
theorem unlike_loop {st : Sto} {d : D} : ∀ (xs acc : List (List Nat)) (t : Option D), (∀ s ∈ xs, okT s) → (∀ s ∈ acc, okT s) → acc.length + xs.length ≤ lim →
    ∃ t', loopF (hName 2) (fIf (fTest (fBin gNotIn (fVar 2) (fVar 1))) (fDrop (fBm .list mAppend (fVar 1) (faCons (fVar 2) faNil))) fNext) (xs.map D.str) [some d, some (.cel st.length), t] (st ++ [.lst (acc.map D.str)]) =
      .nx [some d, some (.cel st.length), t'] (st ++ [.lst ((uq acc xs).map D.str)])
  | [], acc, t, _, _, _ => ⟨t, rfl⟩
  | x :: xs, acc, t, h1, h2, hl => by
    have hx := h1 x List.mem_cons_self
    have hxs : ∀ s ∈ xs, okT s := fun s hs => h1 s (List.mem_cons_of_mem _ hs)
    have hg : (st ++ [Co.lst (acc.map D.str)])[st.length]? = some (.lst (acc.map D.str)) := by simp
    have ni : gNotIn (.str x) (.cel st.length) (st ++ [.lst (acc.map D.str)]) = .ok (.bl (!decide (x ∈ acc))) (st ++ [.lst (acc.map D.str)]) := inD_strs hg hx h2
    have ty : tyIs .list (st ++ [.lst (acc.map D.str)]) (.cel st.length) = true := by
      unfold tyIs
      simp only [itemsR_cel hg]
      rfl
    rw [List.length_cons] at hl
    have ap : mAppend (.cel st.length) [.str x] (st ++ [.lst (acc.map D.str)]) = .ok .non (st ++ [.lst ((acc ++ [x]).map D.str)]) := by
      unfold mAppend
      simp only [hg, List.length_map]
      rw [if_pos (by omega), set_last, List.map_append]
      rfl
    rw [List.map_cons, loopF]
    unfold uq
    by_cases hm : x ∈ acc
    · obtain ⟨t', e⟩ := unlike_loop xs acc (some (.str x)) hxs h2 (by omega)
      refine ⟨t', ?_⟩
      rw [if_pos hm, ← e]
      simp [ni, hm]
    · obtain ⟨t', e⟩ := unlike_loop xs (acc ++ [x]) (some (.str x)) hxs (fun s hs => by
        rcases List.mem_append.mp hs with q | q
        · exact h2 s q
        · rw [List.mem_singleton.mp q]; exact hx) (by simp; omega)
      refine ⟨t', ?_⟩
      rw [if_neg hm, ← e]
      generalize hA : (acc ++ [x]).map D.str = A at *
      generalize hB : acc.map D.str = B at *
      simp [ni, hm, ty, ap]
theorem srt_mem {ss : List (List Nat)} {s : List Nat} : s ∈ srt leS ss ↔ s ∈ ss := (srt_perm ss).mem_iff
theorem kSorted_strs {st : Sto} {ss : List (List Nat)} : kSorted [.lst (ss.map D.str)] st = .ok (.lst ((srt leS ss).map D.str)) st := by
  unfold kSorted
  simp only [itemsR, items, strsOf_map]
theorem sp_unlike {st : Sto} {ss : List (List Nat)} (ok : ∀ s ∈ ss, okT s) (hl : ss.length ≤ lim) : F__law_unlike [.lst (ss.map D.str)] st = .ok (.cel st.length) (st ++ [.lst ((uq [] (srt leS ss)).map D.str)]) := by
  obtain ⟨t', e⟩ := unlike_loop (st := st) (d := .lst (ss.map D.str)) (srt leS ss) [] none (fun s hs => ok s (srt_mem.mp hs)) (by simp) (by rw [(srt_perm ss).length_eq]; simpa using hl)
  have ks := kSorted_strs (st := st ++ [.lst []]) (ss := ss)
  unfold F__law_unlike fb__law_unlike
  generalize hQ : ss.map D.str = Q at *
  generalize hS : (srt leS ss).map D.str = S at *
  rw [List.map_nil] at e
  simp [ks, itemsR, items, e, lim]
/-- what is left of a sorted list of texts: each once, in order -/
theorem uq_mem : ∀ (xs acc : List (List Nat)) {s : List Nat}, s ∈ uq acc xs ↔ s ∈ acc ∨ s ∈ xs
  | [], acc, s => by simp [uq]
  | x :: xs, acc, s => by
    unfold uq
    split
    · rename_i h
      rw [uq_mem xs acc]
      constructor
      · rintro (q | q)
        · exact .inl q
        · exact .inr (List.mem_cons_of_mem _ q)
      · rintro (q | q)
        · exact .inl q
        · rcases List.mem_cons.mp q with rfl | q
          · exact .inl h
          · exact .inr q
    · rw [uq_mem xs (acc ++ [x]), List.mem_append, List.mem_singleton, List.mem_cons, or_assoc]
theorem uq_nodup : ∀ (xs acc : List (List Nat)), acc.Nodup → (uq acc xs).Nodup
  | [], acc, h => h
  | x :: xs, acc, h => by
    unfold uq
    split
    · exact uq_nodup xs acc h
    · rename_i hn
      refine uq_nodup xs _ ?_
      rw [List.nodup_append]
      refine ⟨h, by simp, fun a ha b hb e => ?_⟩
      rw [List.mem_singleton.mp hb] at e
      subst e
      exact hn ha
theorem uq_pw {r : List Nat → List Nat → Prop} : ∀ (xs acc : List (List Nat)), (acc ++ xs).Pairwise r → (uq acc xs).Pairwise r
  | [], acc, h => by simpa [uq] using h
  | x :: xs, acc, h => by
    unfold uq
    split
    · refine uq_pw xs acc ?_
      exact h.sublist (List.Sublist.append_left (List.sublist_cons_self x xs) acc)
    · refine uq_pw xs _ ?_
      rw [List.append_assoc]
      exact h
/-- sorted once each: one list -/
theorem uq_srt {ss ts : List (List Nat)} (nd : ts.Nodup) (h : ∀ s, s ∈ ss ↔ s ∈ ts) : uq [] (srt leS ss) = srt leS ts := by
  refine srt_of ordS ?_ (uq_pw _ _ (by simpa using srt_sorted ordS ss))
  refine (List.perm_ext_iff_of_nodup (uq_nodup _ _ List.nodup_nil) nd).mpr fun s => ?_
  rw [uq_mem, srt_mem, h]
  simp
end FL

/-! FMf: what the rings' defs answer at scraps -/
namespace FL
open PySem PySem.Spec PyProof.Rows L2

def AZ : List Nat := [97, 98, 99, 100, 101, 102, 103, 104, 105, 106, 107, 108, 109, 110, 111, 112, 113, 114, 115, 116, 117, 118, 119, 120, 121, 122]
/-- a scrap, not too long -/
structure Sc (s : List Nat) : Prop where
  ne : s ≠ []
  len : s.length ≤ 1000
  az : ∀ c ∈ s, c ∈ AZ
theorem az_ok : ∀ c ∈ AZ, okCp c = true := by decide
theorem ok_az {s : List Nat} (h : ∀ c ∈ s, c ∈ AZ) : okT s := List.all_eq_true.mpr fun c hc => az_ok c (h c hc)
theorem Sc.ok {s : List Nat} (h : Sc s) : okT s := ok_az h.az
theorem Sc.pos {s : List Nat} (h : Sc s) : 0 < s.length := List.length_pos_iff.mpr h.ne
theorem Sc.lim {s : List Nat} (h : Sc s) : s.length ≤ lim := by have := h.len; unfold FL.lim; omega
theorem Sc.rot {s : List Nat} (h : Sc s) (i : Nat) : Sc (rot s i) := ⟨rot_ne h.ne i, by rw [rot_length]; exact h.len, fun c hc => h.az c (rot_mem.mp hc)⟩
section
variable {st : Sto} {s t : List Nat}
theorem sp_is_signs {g : List Nat} (hs : ∀ c ∈ s, c ∈ g) (hl : s.length ≤ lim) : F_is_signs [.str s, .str g] st = .ok (.bl true) st := by
  have ty : tyOf st (.str s) = some .str := rfl
  have r : lcL (turnL (hName 2) (fTest (fBin gNotIn (fVar 2) (fVar 1))) (fVar 2) [2] [some (.str s), some (.str g), none]) (s.map fun c => .str [c]) st = .ok [] st := by
    rw [lcL_map (g := fun _ => none) (fun c hc => ?_)]
    · rw [List.filterMap_eq_nil_iff.mpr fun _ _ => rfl]
    · have e : gNotIn (.str [c]) (.str g) st = .ok (.bl false) st := by
        unfold gNotIn inD
        simp [hs c hc]
      simp [ev_turn, e]
  have en : endL false [] st = .ok (.lst []) st := by unfold endL; simp
  have eq0 : gEq (.lst []) (.lst []) st = .ok (.bl true) st := gEq_nil (ds := []) (ps := []) rfl rfl
  unfold F_is_signs fb_is_signs
  simp [kIsi_of ty, isTy, r, en, eq0, FL.lim]
theorem sp_is_story (h : ∀ c ∈ s, c ∈ AZ) (hl : s.length ≤ lim) : F_is_story [.str s] st = .ok (.bl true) st := by
  have e := sp_is_signs (st := st) (g := AZ) h hl
  unfold AZ at e
  unfold F_is_story fb_is_story
  simp [e]
theorem sp_check_scrap (h : Sc s) : F_check_scrap [.str s] st = .ok .non st := by
  have e := sp_is_story (st := st) h.az h.lim
  have ne : gNe (.str s) (.str []) st = .ok (.bl true) st := by rw [gNe_str h.ok okT_nil, decide_eq_true h.ne]
  have e2 : F_is_scrap [.str s] st = .ok (.bl true) st := by
    unfold F_is_scrap fb_is_scrap
    simp [e, ne]
  unfold F_check_scrap fb_check_scrap
  simp [e2]
theorem sp_check_number {i : Int} (h : 0 ≤ i) : F_check_number [.int i] st = .ok .non st := by
  have ty : tyOf st (.int i) = some .int := rfl
  have e : F_is_whole [.int i] st = .ok (.bl true) st := by
    unfold F_is_whole fb_is_whole
    simp [kIsi_of ty, isTy]
  have e2 : F_is_count [.int i] st = .ok (.bl true) st := by
    unfold F_is_count fb_is_count
    simp [e, h]
  unfold F_check_number fb_check_number
  simp [e2]
theorem sp_turned_by (h : Sc s) {i : Nat} : F_turned_by [.str s, .int (i : Int)] st = .ok (.str (rot s i)) st := by
  have hp := h.pos
  have e1 : gMod (.int (i : Int)) (.int (s.length : Int)) st = .ok (.int ((i % s.length : Nat) : Int)) st := by
    rw [gMod_int (by omega)]
    simp
  have c1 : cut s (some ((i % s.length : Nat) : Int)) none = s.drop (i % s.length) := cut_drop
  have c2 : cut s none (some ((i % s.length : Nat) : Int)) = s.take (i % s.length) := cut_take
  have ad : gAdd (.str (s.drop (i % s.length))) (.str (s.take (i % s.length))) st = .ok (.str (rot s i)) st := gAdd_str (by
    have := rot_length s i
    unfold rot at this
    rw [List.length_append] at this
    rw [this]
    exact h.lim)
  unfold F_turned_by fb_turned_by
  generalize hz : i % s.length = z at *
  simp [kLen_str h.lim, e1, gCut_str h.lim, c1, c2, ad]
theorem rng_nat {n : Nat} : rng 0 (n : Int) = (List.range n).map fun i : Nat => (i : Int) := by unfold rng; simp
theorem rng_1 {n : Nat} : rng 1 ((n : Int) + 1) = ((List.range n).map (· + 1)).map fun i : Nat => (i : Int) := by
  unfold rng
  rw [List.map_map, show ((n : Int) + 1 - 1).toNat = n from by omega]
  refine List.map_congr_left fun i _ => ?_
  show 1 + (i : Int) = ((i + 1 : Nat) : Int)
  omega
theorem okR_nat {n : Nat} (h : n ≤ 1000000) : okR (n : Int) = true := by unfold okR; simp; omega
/-- a range's turns with a test -/
theorem lcL_rng {T : D → Sto → R (Option D)} {c : Nat → Bool} {f : Nat → D} {xs : List Nat} (h : ∀ i ∈ xs, T (.int (i : Int)) st = .ok (if c i = true then some (f i) else none) st) :
    lcL T ((xs.map fun i : Nat => (i : Int)).map D.int) st = .ok ((xs.filter c).map f) st := by
  rw [List.map_map]
  exact (lcL_map (p := D.int ∘ fun i : Nat => (i : Int)) (g := fun i => if c i = true then some (f i) else none) h).trans (by rw [filterMap_if])
theorem lcL_rng1 {T : D → Sto → R (Option D)} {f : Nat → D} {xs : List Nat} (h : ∀ i ∈ xs, T (.int (i : Int)) st = .ok (some (f i)) st) :
    lcL T ((xs.map fun i : Nat => (i : Int)).map D.int) st = .ok (xs.map f) st := by
  rw [List.map_map]
  exact (lcL_map (p := D.int ∘ fun i : Nat => (i : Int)) (g := fun i => some (f i)) h).trans (by rw [filterMap_some'])
theorem endL_ok {ys : List D} (h : ys.length ≤ lim) : endL false ys st = .ok (.lst ys) st := by unfold endL; rw [if_pos h]; rfl
theorem per_head (h : s ≠ []) : (((List.range s.length).map (· + 1)).filter fun i => decide (rot s i = s))[0]? = some (per s) := by
  obtain ⟨h1, h2, h3, h4⟩ := per_spec h
  rw [← List.head?_eq_getElem?, List.head?_filter]
  have e : per s = ((((List.range s.length).map (· + 1)).find? fun i => decide (rot s i = s)).getD 0) := rfl
  cases q : ((List.range s.length).map (· + 1)).find? fun i => decide (rot s i = s) with
  | none => rw [q] at e; simp at e; omega
  | some r => rw [q] at e; rw [e]; rfl
theorem range2_ev {f g : FE} {ρ : En} {i j : Int} (hf : f ρ st = .ok (.int i) st) (hg : g ρ st = .ok (.int j) st) (hi : okR i = true) (hj : okR j = true) : iRange2 f g ρ st = .ok (.fix ((rng i j).map D.int)) st := by
  rw [ev_Range2, hf, R.bind_ok, hg, R.bind_ok]
  show (if okR i = true ∧ okR j = true then _ else _) = _
  rw [if_pos ⟨hi, hj⟩]
theorem sp_root_size (h : Sc s) : F_root_size [.str s] st = .ok (.int (per s : Nat)) st := by
  have hl := h.len
  have r := lcL_rng (st := st) (T := turnL (hName 1) (fTest (fBin gEq (fCall 2 F_turned_by (faCons (fVar 0) (faCons (fVar 1) faNil))) (fVar 0))) (fVar 1) [1] [some (.str s), none]) (c := fun i => decide (rot s i = s)) (f := fun i : Nat => D.int (i : Int)) (xs := (List.range s.length).map (· + 1)) (fun i hi => by
    simp [ev_turn, sp_turned_by h, gEq_str (h.rot i).ok h.ok]
    split <;> rfl)
  have k1 : okR ((s.length : Int) + 1) = true := by
    have := okR_nat (n := s.length + 1) (by omega)
    simpa using this
  have k0 : okR 1 = true := by unfold okR; simp
  have ph := per_head h.ne
  rw [← rng_1] at r
  generalize hP : ((List.range s.length).map (· + 1)).filter (fun i => decide (rot s i = s)) = P at *
  have pl : P.length ≤ lim := by
    rw [← hP]
    have := List.length_filter_le (fun i => decide (rot s i = s)) ((List.range s.length).map (· + 1))
    simp at this
    unfold FL.lim
    omega
  have en := endL_ok (st := st) (ys := P.map fun i : Nat => D.int (i : Int)) (by simpa using pl)
  have ix : gIx (.lst (P.map fun i : Nat => D.int (i : Int))) (.int 0) st = .ok (.int (per s : Nat)) st := gIx_lst (by rw [atI_zero, List.getElem?_map, ph]; rfl)
  have rg : iRange2 (fC (.int 1)) (fBin gAdd (fCB kLen (faCons (fVar 0) faNil)) (fC (.int 1))) [some (.str s), none] st = .ok (.fix ((rng 1 ((s.length : Int) + 1)).map D.int)) st :=
    range2_ev rfl (by simp [kLen_str h.lim]) k0 k1
  unfold F_root_size fb_root_size
  simp [rg, -ev_Range2, r, en, ix]
theorem per_le (h : Sc s) : per s ≤ 1000 := Nat.le_trans (per_spec h.ne).2.1 h.len
/-- the turnings, each once, in order -/
def Ts (s : List Nat) : List (List Nat) := srt leS (turns s)
theorem Ts_mem (h : s ≠ []) {t : List Nat} : t ∈ Ts s ↔ ∃ i, t = rot s i := by unfold Ts; rw [srt_mem, mem_turns h]
theorem Ts_len : (Ts s).length = per s := by unfold Ts turns; rw [(srt_perm _).length_eq]; simp
theorem sp_all_turnings (h : Sc s) : F_all_turnings [.str s] st = .ok (.cel st.length) (st ++ [.lst ((Ts s).map D.str)]) := by
  have r := lcL_rng1 (st := st) (T := turnL (hName 1) fYes (fCall 2 F_turned_by (faCons (fVar 0) (faCons (fVar 1) faNil))) [1] [some (.str s), none]) (f := fun i => .str (rot s i)) (xs := List.range (per s)) (fun i hi => by
    simp [ev_turn, sp_turned_by h])
  rw [← rng_nat] at r
  have e0 : ((List.range (per s)).map fun i => D.str (rot s i)) = (turns s).map D.str := by unfold turns; rw [List.map_map]; rfl
  rw [e0] at r
  have ks : kCell kSorted [.lst ((turns s).map D.str)] st = .ok (.cel st.length) (st ++ [.lst ((Ts s).map D.str)]) := by
    unfold kCell
    rw [kSorted_strs]
    rfl
  have en := endL_ok (st := st) (ys := (turns s).map D.str) (by
    unfold turns FL.lim
    have := per_le h
    simp; omega)
  have ok := okR_nat (n := per s) (by have := per_le h; omega)
  unfold F_all_turnings fb_all_turnings
  generalize (turns s).map D.str = A at *
  generalize (Ts s).map D.str = B at *
  simp [sp_root_size h, ok, r, en, ks]
theorem sp_ring_turnings (h : Sc s) : F_ring_turnings [.str s] st = .ok (.cel st.length) (st ++ [.lst ((Ts s).map D.str)]) := by
  unfold F_ring_turnings fb_ring_turnings
  simp [sp_check_scrap h, sp_all_turnings h]
/-- the least turning -/
def lt' (s : List Nat) : List Nat := (Ts s).headD []
theorem Ts_head (h : s ≠ []) : (Ts s)[0]? = some (lt' s) := by
  have := (per_spec h).1
  have hl := Ts_len (s := s)
  unfold lt'
  cases e : Ts s with
  | nil => rw [e] at hl; simp at hl; omega
  | cons x xs => rfl
theorem sp_least_turning (h : Sc s) : F_least_turning [.str s] st = .ok (.str (lt' s)) (st ++ [.lst ((Ts s).map D.str)]) := by
  have ix : gIx (.cel st.length) (.int 0) (st ++ [.lst ((Ts s).map D.str)]) = .ok (.str (lt' s)) (st ++ [.lst ((Ts s).map D.str)]) :=
    gIx_cel (ds := (Ts s).map D.str) (by simp) (by rw [atI_zero, List.getElem?_map, Ts_head h.ne]; rfl)
  unfold F_least_turning fb_least_turning
  simp only [ev_gen0, ev_gen, ev_start, List.length_cons, List.length_nil, List.map_cons, List.map_nil, ev_Seq, ev_Drop, ev_Call, ev_Cons, ev_Nil, ev_Var, ev_Ret, ev_Bin, ev_C]
  have a := sp_all_turnings (st := st) h
  have b := sp_check_scrap (st := st) h
  generalize (Ts s).map D.str = B at *
  simp [a, b, ix]
theorem sp_root_of (h : Sc s) : F_root_of [.str s] st = .ok (.str (s.take (per s))) st := by
  have c : cut s none (some ((per s : Nat) : Int)) = s.take (per s) := cut_take
  unfold F_root_of fb_root_of
  simp [sp_check_scrap h, sp_root_size h, gCut_str h.lim, c]
theorem sp_ring_turned (h : Sc s) {i : Nat} : F_ring_turned [.str s, .int (i : Int)] st = .ok (.str (rot s i)) st := by
  unfold F_ring_turned fb_ring_turned
  simp [sp_check_scrap h, sp_check_number, sp_turned_by h]
end
end FL

/-! FMg: the law's own turning; turns_to -/
namespace FL
open PySem PySem.Spec PyProof.Rows L2

def chr1 (c : Nat) : D := .str [c]
theorem chr_strs (s : List Nat) : s.map chr1 = (s.map fun c => [c]).map D.str := by rw [List.map_map]; rfl
theorem mJoin_chr {st : Sto} {s : List Nat} (h : s.length ≤ lim) : mJoin (.str []) [.lst (s.map chr1)] st = .ok (.str s) st := by
  have := mJoin_nil (st := st) (ss := s.map fun c => [c]) (by rw [singles_flat]; exact h)
  rw [singles_flat, ← chr_strs] at this
  exact this
theorem range1_ev {f : FE} {ρ : En} {j : Int} {st : Sto} (hf : f ρ st = .ok (.int j) st) (hj : okR j = true) : iRange1 f ρ st = .ok (.fix ((rng 0 j).map D.int)) st := by
  rw [ev_Range1, hf, R.bind_ok]
  show (if okR j = true then _ else _) = _
  rw [if_pos hj]
theorem sp_turning {st : Sto} {s : List Nat} (h : Sc s) {m : Nat} (hm : m ≤ 1000000) : F__law_turning [.str s, .int (m : Int)] st = .ok (.str (rot s m)) st := by
  have hl := h.len
  let I : Nat → En → Sto → Prop := fun i ρ s' => ∃ t : Option D, ρ = [some (.str s), some (.int (m : Int)), some (.lst ((rot s i).map chr1)), t] ∧ s' = st
  have lp := loopF_inv (g := hName 3) (b := fAsg (fBin gAdd (fCut (fVar 2) (foSome (fC (.int 1))) foNone) (fCut (fVar 2) foNone (foSome (fC (.int 1))))) (hName 2)) (p := D.int) I (rng 0 (m : Int)) 0
    [some (.str s), some (.int (m : Int)), some (.lst (s.map chr1)), none] st ⟨none, by rw [rot_zero], rfl⟩ (fun k hk ρ st' hI => by
      obtain ⟨t, rfl, rfl⟩ := hI
      have c1 : cut ((rot s (0 + k)).map chr1) (some 1) none = ((rot s (0 + k)).map chr1).drop 1 := cut_drop (m := 1)
      have c2 : cut ((rot s (0 + k)).map chr1) none (some 1) = ((rot s (0 + k)).map chr1).take 1 := cut_take (m := 1)
      have ad : gAdd (.lst (((rot s (0 + k)).map chr1).drop 1)) (.lst (((rot s (0 + k)).map chr1).take 1)) st' = .ok (.lst ((rot s (0 + k + 1)).map chr1)) st' := by
        rw [gAdd_lst]
        · have e : rot s (0 + k + 1) = (rot s (0 + k)).drop 1 ++ (rot s (0 + k)).take 1 := by rw [← rot_one, rot_rot]
          rw [e, List.map_append, List.map_drop, List.map_take]
        · unfold lim
          rw [List.length_drop, List.length_take, List.length_map, rot_length]
          omega
      refine ⟨[some (.str s), some (.int (m : Int)), some (.lst ((rot s (0 + k + 1)).map chr1)), some (.int ((rng 0 (m : Int))[k]))], st', ?_, _, rfl, rfl⟩
      generalize (rot s (0 + k)).map chr1 = A at *
      generalize (rot s (0 + k + 1)).map chr1 = B at *
      simp [c1, c2, ad, -List.drop_one])
  obtain ⟨ρ', st', e1, t, rfl, rfl⟩ := lp
  have hlen : (rng 0 (m : Int)).length = m := by rw [rng_len]; simp
  rw [hlen] at e1
  have kl : kList [.str s] st' = .ok (.lst (s.map chr1)) st' := kList_str h.lim
  have rg : ∀ x y, iRange1 (fVar 1) [some (.str s), some (.int (m : Int)), x, y] st' = .ok (.fix ((rng 0 (m : Int)).map D.int)) st' := fun x y => range1_ev rfl (okR_nat hm)
  have mj : mJoin (.str []) [.lst ((rot s (0 + m)).map chr1)] st' = .ok (.str (rot s (0 + m))) st' := mJoin_chr (h.rot _).lim
  rw [Nat.zero_add] at mj e1
  have ts : ∀ st x, tyIs .str st (.str x) = true := fun _ _ => rfl
  unfold F__law_turning fb__law_turning
  generalize (rot s m).map chr1 = B at *
  generalize s.map chr1 = A at *
  simp [kl, rg, -ev_Range1, e1, mj, ts]
theorem Ts_of {s : List Nat} (h : Sc s) {ss : List (List Nat)} (hs : ss = (List.range s.length).map (rot s)) : uq [] (srt leS ss) = Ts s := by
  refine uq_srt (turns_nodup h.ne) fun t => ?_
  rw [mem_turns h.ne, hs, List.mem_map]
  constructor
  · rintro ⟨i, _, rfl⟩; exact ⟨i, rfl⟩
  · rintro ⟨i, rfl⟩
    exact ⟨i % s.length, List.mem_range.mpr (Nat.mod_lt _ h.pos), rot_mod s i⟩
theorem sp_turnings {st : Sto} {s : List Nat} (h : Sc s) : F__law_turnings [.str s] st = .ok (.cel st.length) (st ++ [.lst ((Ts s).map D.str)]) := by
  have hl := h.len
  have r := lcL_rng1 (st := st) (T := turnL (hName 1) fYes (fCall 2 F__law_turning (faCons (fVar 0) (faCons (fVar 1) faNil))) [1] [some (.str s), none]) (f := fun i => .str (rot s i)) (xs := List.range s.length) (fun i hi => by
    have := List.mem_range.mp hi
    simp [ev_turn, sp_turning h (m := i) (by omega)])
  rw [← rng_nat] at r
  have e0 : ((List.range s.length).map fun i => D.str (rot s i)) = ((List.range s.length).map (rot s)).map D.str := by rw [List.map_map]; rfl
  rw [e0] at r
  have rg : iRange1 (fCB kLen (faCons (fVar 0) faNil)) [some (.str s), none] st = .ok (.fix ((rng 0 (s.length : Int)).map D.int)) st := range1_ev (by simp [kLen_str h.lim]) (okR_nat (by omega))
  have en := endL_ok (st := st) (ys := ((List.range s.length).map (rot s)).map D.str) (by unfold lim; simp; omega)
  have un := sp_unlike (st := st) (ss := (List.range s.length).map (rot s)) (fun t ht => by
    obtain ⟨i, _, rfl⟩ := List.mem_map.mp ht
    exact (h.rot i).ok) (by unfold lim; simp; omega)
  rw [Ts_of h rfl] at un
  unfold F__law_turnings fb__law_turnings
  generalize ((List.range s.length).map (rot s)).map D.str = A at *
  generalize (Ts s).map D.str = B at *
  simp [rg, -ev_Range1, r, en, un]
/-- by how much one turns to the other -/
def wy (a b : List Nat) : List Nat := (List.range a.length).filter fun i => decide (rot a i = b)
def wyD (a b : List Nat) : D := match ((wy a b)[0]? : Option Nat) with
  | some i => .int (i : Int)
  | none => .non
theorem wy_len {a b : List Nat} : (wy a b).length ≤ a.length := by
  have := List.length_filter_le (fun i => decide (rot a i = b)) (List.range a.length)
  rw [List.length_range] at this
  exact this
theorem gNe_ints {st : Sto} {is : List Nat} : gNe (.lst (is.map fun i : Nat => D.int (i : Int))) (.lst []) st = .ok (.bl (decide (is ≠ []))) st := by
  have e : (is.map fun i : Nat => D.int (i : Int)) = (is.map fun i : Nat => (i : Int)).map D.int := by rw [List.map_map]; rfl
  have := gNe_nil (st := st) (d := .lst (is.map fun i : Nat => D.int (i : Int))) (ds := is.map fun i : Nat => D.int (i : Int)) (ps := (is.map fun i : Nat => (i : Int)).map .int) (by rw [toPy_lst, e, toPy_ints]; rfl) (by simp)
  rw [this]
  congr 3
  simp
theorem sp_turns_to {st : Sto} {a b : List Nat} (h : Sc a) (k : Sc b) : F_turns_to [.str a, .str b] st = .ok (wyD a b) st := by
  have hl := h.len
  have r := lcL_rng (st := st) (T := turnL (hName 3) (fTest (fBin gEq (fCall 2 F_turned_by (faCons (fVar 0) (faCons (fVar 3) faNil))) (fVar 1))) (fVar 3) [3] [some (.str a), some (.str b), none, none]) (c := fun i => decide (rot a i = b)) (f := fun i : Nat => D.int (i : Int)) (xs := List.range a.length) (fun i hi => by
    simp [ev_turn, sp_turned_by h, gEq_str (h.rot i).ok k.ok]
    split <;> rfl)
  rw [← rng_nat] at r
  have rg : iRange1 (fCB kLen (faCons (fVar 0) faNil)) [some (.str a), some (.str b), none, none] st = .ok (.fix ((rng 0 (a.length : Int)).map D.int)) st := range1_ev (by simp [kLen_str h.lim]) (okR_nat (by omega))
  have r : lcL _ _ st = .ok ((wy a b).map fun i : Nat => D.int (i : Int)) st := r
  have en := endL_ok (st := st) (ys := (wy a b).map fun i : Nat => D.int (i : Int)) (by have := wy_len (a := a) (b := b); unfold lim; simp; omega)
  have ne := gNe_ints (st := st) (is := wy a b)
  have nl : (if ([] : List D).length ≤ lim then R.ok (D.lst []) st else R.no) = R.ok (D.lst []) st := by rw [if_pos (by unfold lim; simp)]
  have el : fLst faNil = fun ρ st => .ok (D.lst []) st := by
    funext ρ st
    rw [ev_Lst, ev_Nil, R.bind_ok, if_pos (by unfold lim; simp)]
  unfold F_turns_to fb_turns_to
  by_cases hw : wy a b = []
  · have w : wyD a b = .non := by unfold wyD; rw [hw]; rfl
    rw [decide_eq_false (by simpa using hw)] at ne
    rw [w]
    generalize ((wy a b).map fun i : Nat => D.int (i : Int)) = A at *
    simp [sp_check_scrap h, sp_check_scrap k, rg, -ev_Range1, -ev_Lst, r, en, el, ne]
  · obtain ⟨i, is, hq⟩ : ∃ i is, wy a b = i :: is := List.exists_cons_of_ne_nil hw
    have w : wyD a b = .int (i : Int) := by unfold wyD; rw [hq]; rfl
    have ix : gIx (.lst ((wy a b).map fun i : Nat => D.int (i : Int))) (.int 0) st = .ok (.int (i : Int)) st := gIx_lst (by rw [atI_zero, hq]; rfl)
    rw [decide_eq_true hw] at ne
    rw [w]
    generalize ((wy a b).map fun i : Nat => D.int (i : Int)) = A at *
    simp [sp_check_scrap h, sp_check_scrap k, rg, -ev_Range1, -ev_Lst, r, en, el, ne, ix]
end FL

namespace Lk87
open PySem PySem.Spec PyProof.Rows L2 FL
def top (i : Nat) : Stmt := PySem.Challenge.pw_scrapstory_k87_whole_rings_and_turnings.main.body.getD i (.Pass ⟨0, 0, 0, 0⟩)
abbrev s_is_whole : Stmt := top 6
abbrev s_is_count : Stmt := top 7
abbrev s_is_signs : Stmt := top 8
abbrev s_check_number : Stmt := top 9
abbrev s_is_story : Stmt := top 10
abbrev s_is_scrap : Stmt := top 11
abbrev s_check_scrap : Stmt := top 13
abbrev s_turned_by : Stmt := top 14
abbrev s_ring_turned : Stmt := top 15
abbrev s_root_size : Stmt := top 16
abbrev s_all_turnings : Stmt := top 17
abbrev s_ring_turnings : Stmt := top 18
abbrev s_least_turning : Stmt := top 19
abbrev s_turns_to : Stmt := top 20
abbrev s_root_of : Stmt := top 21
abbrev s__law_hash : Stmt := top 23
abbrev s__law_cell : Stmt := top 24
abbrev s__law_generator : Stmt := top 25
abbrev s__law_random : Stmt := top 26
abbrev s__law_pick : Stmt := top 27
abbrev s__law_marked : Stmt := top 28
abbrev s__law_exact : Stmt := top 29
abbrev s__law_unlike : Stmt := top 30
abbrev s__law_scrap : Stmt := top 31
abbrev s__law_turning : Stmt := top 32
abbrev s__law_turnings : Stmt := top 33
abbrev s__law_scrap_right : Stmt := top 34
abbrev N__law_scrap_right : List Str := ["generator", "scrap", "roots", "told", "many", "found", "size", "due"]
def fb__law_scrap_right : FS := (fSeq (fAsg (fTup (faCons (fCall 1 F__law_turnings (faCons (fVar 1) faNil)) (faCons (fCB kLen (faCons (fVar 1) faNil)) faNil))) (hTup 2 (hCons (hName 5) (hCons (hName 6) hNil))))
  (fSeq (fAsg (fLc false (iRange2 (fC (.int 1)) (fBin gAdd (fVar 6) (fC (.int 1)))) (hName 4) (fAndT (fTest (fBin gEq (fBin gMod (fVar 6) (fVar 4)) (fC (.int 0)))) (fTest (fBin gEq (fBin gMul (fCut (fVar 1) foNone (foSome (fVar 4))) (fBin gDiv (fVar 6) (fVar 4))) (fVar 1)))) (fCut (fVar 1) foNone (foSome (fVar 4))) [4]) (hName 2))
  (fSeq (fAsg (fLst (faCons (fCall 1 F_ring_turnings (faCons (fVar 1) faNil)) (faCons (fCall 1 F_least_turning (faCons (fVar 1) faNil)) (faCons (fCall 1 F_root_of (faCons (fVar 1) faNil)) faNil)))) (hName 3))
  (fSeq (fIf (fOrT (fNotT (fTest (fCall 2 (F__law_exact 8) (faCons (fVar 3) (faCons (fLst (faCons (fVar 5) (faCons (fBin gIx (fVar 5) (fC (.int 0))) (faCons (fBin gIx (fVar 2) (fC (.int 0))) faNil)))) faNil))))) (fOrT (fNotT (fTest (fCall 1 (F__law_marked 4) (faCons (fBin gIx (fVar 3) (fC (.int 0))) faNil)))) (fTest (fBin gNe (fCB kLen (faCons (fVar 5) faNil)) (fCB kLen (faCons (fBin gIx (fVar 2) (fC (.int 0))) faNil)))))) (fRet (fC (.bl false))) fNext)
  (fSeq (fIf (fNotT (fTest (fCall 2 (F__law_exact 8) (faCons (fLst (faCons (fCallK [0] 1 F_ring_turnings (faCons (fVar 1) faNil)) (faCons (fCallK [0] 1 F_least_turning (faCons (fVar 1) faNil)) (faCons (fCallK [0] 1 F_root_of (faCons (fVar 1) faNil)) faNil)))) (faCons (fLst (faCons (fVar 5) (faCons (fBin gIx (fVar 5) (fC (.int 0))) (faCons (fBin gIx (fVar 2) (fC (.int 0))) faNil)))) faNil))))) (fRet (fC (.bl false))) fNext)
  (fSeq (fFor (iList (fLst (faCons (fC (.int 0)) (faCons (fC (.int 1)) (faCons (fVar 6) (faCons (fBin gAdd (fVar 6) (fC (.int 1))) (faCons (fCall 2 F__law_random (faCons (fVar 0) (faCons (fBin gPow (fC (.int 10)) (fC (.int 11))) faNil))) faNil))))))) (hName 4) (fSeq (fAsg (fCall 2 F__law_turning (faCons (fVar 1) (faCons (fBin gMod (fVar 4) (fVar 6)) faNil))) (hName 7))
  (fIf (fNotT (fTest (fCall 2 (F__law_exact 8) (faCons (fLst (faCons (fCall 2 F_ring_turned (faCons (fVar 1) (faCons (fVar 4) faNil))) (faCons (fCallK [1, 0] 2 F_ring_turned (faCons (fVar 4) (faCons (fVar 1) faNil))) faNil))) (faCons (fLst (faCons (fVar 7) (faCons (fVar 7) faNil))) faNil))))) (fRet (fC (.bl false))) fNext)))
  (fRet (fC (.bl true)))))))))
def F__law_scrap_right : F1 := genF0 N__law_scrap_right 2 fb__law_scrap_right

abbrev s__law_pair_right : Stmt := top 35
abbrev N__law_pair_right : List Str := ["generator", "signs", "one", "other", "ways", "due", "many"]
def fb__law_pair_right : FS := (fSeq (fAsg (fCall 2 F__law_pick (faCons (fVar 0) (faCons (fLst (faCons (fC (.str [97])) (faCons (fC (.str [97, 98])) (faCons (fC (.str [97, 98, 99])) (faCons (fC (.str [120, 121, 122])) faNil))))) faNil))) (hName 1))
  (fSeq (fAsg (fBin gMul (fCall 3 F__law_scrap (faCons (fVar 0) (faCons (fVar 1) (faCons (fC (.int 7)) faNil)))) (fBin gAdd (fC (.int 1)) (fCall 2 F__law_random (faCons (fVar 0) (faCons (fC (.int 3)) faNil))))) (hName 2))
  (fSeq (fAsg (fCall 2 F__law_pick (faCons (fVar 0) (faCons (fLst (faCons (fCall 2 F__law_turning (faCons (fVar 2) (faCons (fCall 2 F__law_random (faCons (fVar 0) (faCons (fCB kLen (faCons (fVar 2) faNil)) faNil))) faNil))) (faCons (fCall 3 F__law_scrap (faCons (fVar 0) (faCons (fVar 1) (faCons (fC (.int 7)) faNil)))) (faCons (fRev (fVar 2)) faNil)))) faNil))) (hName 3))
  (fSeq (fAsg (fLc false (iRange1 (fCB kLen (faCons (fVar 2) faNil))) (hName 6) (fTest (fBin gEq (fCall 2 F__law_turning (faCons (fVar 2) (faCons (fVar 6) faNil))) (fVar 3))) (fVar 6) [6]) (hName 4))
  (fSeq (fAsg (fIfE (fTest (fBin gNe (fVar 4) (fLst faNil))) (fBin gIx (fVar 4) (fC (.int 0))) (fC .non)) (hName 5))
  (fSeq (fIf (fNotT (fTest (fCall 2 (F__law_exact 8) (faCons (fLst (faCons (fCall 2 F_turns_to (faCons (fVar 2) (faCons (fVar 3) faNil))) (faCons (fCallK [1, 0] 2 F_turns_to (faCons (fVar 3) (faCons (fVar 2) faNil))) faNil))) (faCons (fLst (faCons (fVar 5) (faCons (fVar 5) faNil))) faNil))))) (fRet (fC (.bl false))) fNext)
  (fSeq (fIf (fTest (fBin gNe (fBin gEq (fCall 1 F_least_turning (faCons (fVar 2) faNil)) (fCall 1 F_least_turning (faCons (fVar 3) faNil))) (fBin gIsNot (fVar 5) (fC .non)))) (fRet (fC (.bl false))) fNext)
  (fRet (fAndE (fCall 2 F__law_scrap_right (faCons (fVar 0) (faCons (fVar 2) faNil))) (fCall 2 F__law_scrap_right (faCons (fVar 0) (faCons (fVar 3) faNil))))))))))))
def F__law_pair_right : F1 := genF0 N__law_pair_right 1 fb__law_pair_right

abbrev s_law : Stmt := top 36
abbrev N_law : List Str := ["script", "index", "generator"]
def fb_law : FS := (fSeq (fFor (iRange1 (fC (.int 4))) (hName 1) (fSeq (fAsg (fCall 2 F__law_generator (faCons (fVar 0) (faCons (fVar 1) faNil))) (hName 2))
  (fIf (fOrT (fNotT (fTest (fCall 1 F__law_pair_right (faCons (fVar 2) faNil)))) (fOrT (fNotT (fTest (fCall 1 F__law_pair_right (faCons (fVar 2) faNil)))) (fNotT (fTest (fCall 2 F__law_scrap_right (faCons (fVar 2) (faCons (fCall 3 F__law_scrap (faCons (fVar 2) (faCons (fC (.str [97, 98])) (faCons (fC (.int 40)) faNil)))) faNil))))))) (fRet (fC (.bl false))) fNext)))
  (fRet (fC (.bl true))))
def F_law : F1 := genF0 N_law 1 fb_law

end Lk87

/-! k87M: the law's answer -/
namespace FL
open PySem PySem.Spec PyProof.Rows L2
theorem le_lim {n : Nat} (h : n ≤ 1000000) : n ≤ lim := h
theorem seq_ev {s r : FS} {ρ ρ1 : En} {st st1 : Sto} {o : O} (h : s ρ st = .nx ρ1 st1) (k : r ρ1 st1 = o) : fSeq s r ρ st = o := by rw [ev_Seq, h]; exact k
theorem if_ff {t : FT} {s r : FS} {ρ : En} {st st1 : Sto} {o : O} (h : t ρ st = .ok false st1) (k : r ρ st1 = o) : fIf t s r ρ st = o := by rw [ev_If, h]; exact k
theorem if_tt {t : FT} {s r : FS} {ρ : En} {st st1 : Sto} {o : O} (h : t ρ st = .ok true st1) (k : s ρ st1 = o) : fIf t s r ρ st = o := by rw [ev_If, h]; exact k
theorem gen0_rt {N : List Str} {np : Nat} {fb : FS} {ds : List D} {st st' : Sto} {d : D} (hl : ds.length = np) (h : fb (startE N ds) st = .rt d st') : genF0 N np fb ds st = .ok d st' := by
  rw [ev_gen0, ev_gen, if_pos hl, h]
  rfl
theorem asg_name {f : FE} {i : Nat} {ρ : En} {st st1 : Sto} {d : D} (h : f ρ st = .ok d st1) : fAsg f (hName i) ρ st = .nx (ρ.set i (some d)) st1 := by
  rw [ev_Asg, h]
  rfl
/-- the scraps of few signs -/
structure Sx (s : List Nat) : Prop where
  sc : Sc s
  ab : ∀ c ∈ s, c ∈ [97, 98, 99, 120, 121, 122]
theorem Sx.rot {s : List Nat} (h : Sx s) (i : Nat) : Sx (rot s i) := ⟨h.sc.rot i, fun c hc => h.ab c (rot_mem.mp hc)⟩
theorem Sx.mk' {s : List Nat} (h : Sx s) : s ≠ FL.mk' := fun e => by
  have := h.ab 109 (by rw [e]; decide)
  revert this
  decide
/-- the roots as the law finds them -/
def rts (s : List Nat) : List Nat := ((List.range s.length).map (· + 1)).filter fun i => decide (s.length % i = 0) && decide ((List.replicate (s.length / i) (s.take i)).flatten = s)
theorem rts_head {s : List Nat} (h : s ≠ []) : (rts s)[0]? = some (per s) := by
  obtain ⟨h1, h2, h3, h4⟩ := per_spec h
  have e : rts s = (((List.range s.length).map (· + 1)).filter fun i => decide (rot s i = s)).filter fun i => decide (s.length % i = 0) := by
    unfold rts
    rw [List.filter_filter]
    refine List.filter_congr fun i hi => ?_
    obtain ⟨k, hk, rfl⟩ := List.mem_map.mp hi
    by_cases hd : s.length % (k + 1) = 0
    · have := rep_iff h (k := k + 1) (by omega) (Nat.dvd_of_mod_eq_zero hd)
      simp only [hd, decide_true, Bool.true_and]
      by_cases q : rot s (k + 1) = s
      · rw [decide_eq_true q, decide_eq_true (this.mpr q)]
      · rw [decide_eq_false q, decide_eq_false fun z => q (this.mp z)]
    · simp [hd]
  rw [e]
  have ph := per_head h
  cases q : ((List.range s.length).map (· + 1)).filter fun i => decide (rot s i = s) with
  | nil => rw [q] at ph; cases ph
  | cons x xs =>
    rw [q] at ph
    have hx : x = per s := by simpa using ph
    subst hx
    rw [List.filter_cons_of_pos (by simpa using Nat.mod_eq_zero_of_dvd (per_len h))]
    rfl
theorem rts_len {s : List Nat} : (rts s).length ≤ s.length := by
  unfold rts
  exact Nat.le_trans (List.length_filter_le _ _) (by simp)
end FL
namespace Lk87
open PySem PySem.Spec PyProof.Rows L2 FL
theorem gDiv_nat {st : Sto} {a b : Nat} (h : 0 < b) (h2 : b < 1000000) : gDiv (.int (a : Int)) (.int (b : Int)) st = .ok (.int ((a / b : Nat) : Int)) st := by
  have hb : (b : Int) < 18446744073709551616 := by omega
  have hp : (0 : Int) < b := by omega
  exact gDiv_int hp hb
theorem gMod_nat {st : Sto} {a b : Nat} (h : 0 < b) : gMod (.int (a : Int)) (.int (b : Int)) st = .ok (.int ((a % b : Nat) : Int)) st := by
  have hp : (0 : Int) < b := by omega
  exact gMod_int hp
abbrev rT : FT := fAndT (fTest (fBin gEq (fBin gMod (fVar 6) (fVar 4)) (fC (.int 0)))) (fTest (fBin gEq (fBin gMul (fCut (fVar 1) foNone (foSome (fVar 4))) (fBin gDiv (fVar 6) (fVar 4))) (fVar 1)))
abbrev rE : FE := fCut (fVar 1) foNone (foSome (fVar 4))
theorem roots_mul {st : Sto} {s : List Nat} (h : Sc s) {k Q : Nat} (hq : Q ≤ 1000) : gMul (.str (s.take k)) (.int (Q : Int)) st = .ok (.str (List.replicate Q (s.take k)).flatten) st := by
  have hl := h.len
  have h1 : (s.take k).length ≤ 1000 := by rw [List.length_take]; omega
  have h3 : (s.take k).length * (Q : Int).toNat ≤ 1000 * 1000 := Nat.mul_le_mul h1 (by omega)
  exact gMul_str (by omega) (le_lim (Nat.le_trans h3 (by decide)))
theorem roots_ok {s : List Nat} (h : Sc s) {k Q : Nat} : okT (List.replicate Q (s.take k)).flatten := ok_az fun c hc => by
  obtain ⟨l, hl1, hl2⟩ := List.mem_flatten.mp hc
  rw [(List.mem_replicate.mp hl1).2] at hl2
  exact h.az c (List.mem_of_mem_take hl2)
theorem roots_turn {st : Sto} {s : List Nat} (h : Sc s) {a b c d e f : Option D} {k : Nat} (hk : k < s.length) : turnL (hName 4) rT rE [4] [a, some (.str s), b, c, d, e, some (.int s.length), f] (.int ((k + 1 : Nat) : Int)) st =
    .ok (if (decide (s.length % (k + 1) = 0) && decide ((List.replicate (s.length / (k + 1)) (s.take (k + 1))).flatten = s)) = true then some (.str (s.take (k + 1))) else none) st := by
  have hl := h.len
  have m1 : gMod (.int (s.length : Int)) (.int ((k + 1 : Nat) : Int)) st = .ok (.int ((s.length % (k + 1) : Nat) : Int)) st := gMod_nat (b := k + 1) (by omega)
  have m2 : gDiv (.int (s.length : Int)) (.int ((k + 1 : Nat) : Int)) st = .ok (.int ((s.length / (k + 1) : Nat) : Int)) st := gDiv_nat (b := k + 1) (by omega) (by omega)
  have c1 : cut s none (some ((k + 1 : Nat) : Int)) = s.take (k + 1) := cut_take
  have m3 := roots_mul (st := st) h (k := k + 1) (Q := s.length / (k + 1)) (Nat.le_trans (Nat.div_le_self _ _) hl)
  have e1 := gEq_str (st := st) (roots_ok h (k := k + 1) (Q := s.length / (k + 1))) h.ok
  have dz : (((s.length % (k + 1) : Nat) : Int) = 0) ↔ s.length % (k + 1) = 0 := by omega
  generalize (List.replicate (s.length / (k + 1)) (s.take (k + 1))).flatten = Z at *
  generalize ((s.length / (k + 1) : Nat) : Int) = Q at *
  generalize ((k + 1 : Nat) : Int) = K at *
  generalize ((s.length % (k + 1) : Nat) : Int) = M at *
  by_cases z : s.length % (k + 1) = 0
  · have z2 := dz.mpr z
    simp only [z2] at m1
    by_cases y : Z = s
    · rw [decide_eq_true y] at e1
      simp only [ev_turn, rT, rE, ev_Name, List.set_cons_zero, List.set_cons_succ, ev_wipe1, ev_wipe0, R.quiet_ok', R.bind_ok, ev_AndT, ev_Test, ev_Bin, ev_Var, ev_C, List.getElem?_cons_succ, List.getElem?_cons_zero, ev_Cut, ev_oNone, ev_oSome, gCut_str h.lim, gEq_int, m1, m2, m3, c1, e1, decide_true, decide_false, Bool.false_and, Bool.true_and, Bool.false_eq_true, if_true, if_false, ite_true, ite_false, z, decide_eq_true y]
    · rw [decide_eq_false y] at e1
      simp only [ev_turn, rT, rE, ev_Name, List.set_cons_zero, List.set_cons_succ, ev_wipe1, ev_wipe0, R.quiet_ok', R.bind_ok, ev_AndT, ev_Test, ev_Bin, ev_Var, ev_C, List.getElem?_cons_succ, List.getElem?_cons_zero, ev_Cut, ev_oNone, ev_oSome, gCut_str h.lim, gEq_int, m1, m2, m3, c1, e1, decide_true, decide_false, Bool.false_and, Bool.true_and, Bool.false_eq_true, if_true, if_false, ite_true, ite_false, z, decide_eq_false y]
  · have z2 : ¬ M = 0 := fun q => z (dz.mp q)
    simp only [ev_turn, rT, rE, ev_Name, List.set_cons_zero, List.set_cons_succ, ev_wipe1, ev_wipe0, R.quiet_ok', R.bind_ok, ev_AndT, ev_Test, ev_Bin, ev_Var, ev_C, List.getElem?_cons_succ, List.getElem?_cons_zero, ev_Cut, ev_oNone, ev_oSome, gCut_str h.lim, gEq_int, m1, m2, m3, c1, e1, decide_true, decide_false, Bool.false_and, Bool.true_and, Bool.false_eq_true, if_true, if_false, ite_true, ite_false, z2, decide_eq_false z, decide_eq_false z2]
theorem roots_ev {st : Sto} {s : List Nat} (h : Sc s) {a b c d e f : Option D} : (fLc false (iRange2 (fC (.int 1)) (fBin gAdd (fVar 6) (fC (.int 1)))) (hName 4) rT rE [4])
    [a, some (.str s), b, c, d, e, some (.int s.length), f] st = .ok (.lst ((rts s).map fun i => .str (s.take i))) st := by
  have hl := h.len
  have r := lcL_rng (st := st) (T := turnL (hName 4) rT rE [4] [a, some (.str s), b, c, d, e, some (.int s.length), f])
    (c := fun i => decide (s.length % i = 0) && decide ((List.replicate (s.length / i) (s.take i)).flatten = s)) (f := fun i : Nat => D.str (s.take i)) (xs := (List.range s.length).map (· + 1)) (fun i hi => by
      obtain ⟨k, hk, rfl⟩ := List.mem_map.mp hi
      exact roots_turn h (List.mem_range.mp hk))
  rw [← rng_1] at r
  have k1 : okR ((s.length : Int) + 1) = true := okR_nat (n := s.length + 1) (by omega)
  have k0 : okR 1 = true := okR_nat (n := 1) (by decide)
  have rg : iRange2 (fC (.int 1)) (fBin gAdd (fVar 6) (fC (.int 1))) [a, some (.str s), b, c, d, e, some (.int s.length), f] st = .ok (.fix ((rng 1 ((s.length : Int) + 1)).map D.int)) st :=
    range2_ev rfl rfl k0 k1
  have en := endL_ok (st := st) (ys := (rts s).map fun i => D.str (s.take i)) (le_lim (by have := rts_len (s := s); rw [List.length_map]; omega))
  have r : lcL _ _ st = .ok ((rts s).map fun i => D.str (s.take i)) st := r
  rw [ev_Lc, rg, R.bind_ok, ev_runL_fix, r, R.bind_ok, en]

theorem lim_len {n : Nat} (h : n ≤ 1000) : n ≤ lim := le_lim (by omega)
/-- equal answers, put together -/
theorem ex_strs {st : Sto} {n : Nat} {t d : D} {ss : List (List Nat)} (ht : isL st t (ss.map D.str)) (hd : isL st d (ss.map D.str)) (ok : ∀ s ∈ ss, okT s) (hl : ss.length ≤ lim) : F__law_exact (n + 2) [t, d] st = .ok (.bl true) st :=
  ex_lst ht hd rfl (by simpa using hl) fun i x y hx hy => by
    rw [hx] at hy
    cases hy
    rw [List.getElem?_map] at hx
    cases e : ss[i]? with
    | none => rw [e] at hx; cases hx
    | some s =>
      rw [e] at hx
      cases hx
      exact ex_str (ok s (List.mem_of_getElem? e))
theorem ex_three {st : Sto} {n : Nat} {a b : D} {ss : List (List Nat)} {u v : List Nat} (ha : isL st a (ss.map D.str)) (hb : isL st b (ss.map D.str)) (ok : ∀ s ∈ ss, okT s) (hl : ss.length ≤ lim) (hu : okT u) (hv : okT v) :
    F__law_exact (n + 3) [.lst [a, .str u, .str v], .lst [b, .str u, .str v]] st = .ok (.bl true) st :=
  ex_lst (.inl rfl) (.inl rfl) rfl (le_lim (by simp)) fun i x y hx hy => by
    match i with
    | 0 => cases hx; cases hy; exact ex_strs ha hb ok hl
    | 1 => cases hx; cases hy; exact ex_str hu
    | 2 => cases hx; cases hy; exact ex_str hv
    | i + 3 => simp at hx
theorem ex_two {st : Sto} {n : Nat} {u : List Nat} (hu : okT u) : F__law_exact (n + 2) [.lst [.str u, .str u], .lst [.str u, .str u]] st = .ok (.bl true) st :=
  ex_lst (.inl rfl) (.inl rfl) rfl (le_lim (by simp)) fun i x y hx hy => by
    match i with
    | 0 => cases hx; cases hy; exact ex_str hu
    | 1 => cases hx; cases hy; exact ex_str hu
    | i + 2 => simp at hx
theorem Ts_ok {s : List Nat} (h : Sc s) : ∀ t ∈ Ts s, okT t := fun t ht => by
  obtain ⟨i, rfl⟩ := (Ts_mem h.ne).mp ht
  exact (h.rot i).ok
theorem Ts_mk {s : List Nat} (h : Sx s) : ∀ t ∈ Ts s, t ≠ FL.mk' := fun t ht => by
  obtain ⟨i, rfl⟩ := (Ts_mem h.sc.ne).mp ht
  exact (h.rot i).mk'
theorem lt_ok {s : List Nat} (h : Sc s) : okT (lt' s) := Ts_ok h _ (List.mem_of_getElem? (Ts_head h.ne))
theorem take_ok {s : List Nat} (h : Sc s) {k : Nat} : okT (s.take k) := ok_az fun c hc => h.az c (List.mem_of_mem_take hc)
theorem Ts_lim {s : List Nat} (h : Sc s) : (Ts s).length ≤ 1000 := by rw [Ts_len]; exact per_le h

/-- one turn of the loop over numbers of turns -/
abbrev tB : FS := fSeq (fAsg (fCall 2 F__law_turning (faCons (fVar 1) (faCons (fBin gMod (fVar 4) (fVar 6)) faNil))) (hName 7))
      (fIf (fNotT (fTest (fCall 2 (F__law_exact 8) (faCons (fLst (faCons (fCall 2 F_ring_turned (faCons (fVar 1) (faCons (fVar 4) faNil))) (faCons (fCallK [1, 0] 2 F_ring_turned (faCons (fVar 4) (faCons (fVar 1) faNil))) faNil))) (faCons (fLst (faCons (fVar 7) (faCons (fVar 7) faNil))) faNil))))) (fRet (fC (.bl false))) fNext)
theorem turns_step {st : Sto} {s : List Nat} (h : Sc s) (m : Nat) (ρ0 ρ2 ρ3 ρ5 : D) (b : Option D) :
    tB [some ρ0, some (.str s), some ρ2, some ρ3, some (.int (m : Int)), some ρ5, some (.int s.length), b] st = .nx [some ρ0, some (.str s), some ρ2, some ρ3, some (.int (m : Int)), some ρ5, some (.int s.length), some (.str (rot s m))] st := by
  have m1 : gMod (.int (m : Int)) (.int (s.length : Int)) st = .ok (.int ((m % s.length : Nat) : Int)) st := gMod_nat h.pos
  have hlt : m % s.length ≤ 1000000 := by have := Nat.mod_lt m h.pos; have := h.len; omega
  have t1 : F__law_turning [.str s, .int ((m % s.length : Nat) : Int)] st = .ok (.str (rot s m)) st := by rw [sp_turning h hlt, rot_mod]
  have t2 := sp_ring_turned (st := st) h (i := m)
  have t3 := ex_two (st := st) (n := 6) (h.rot m).ok
  have l2 : ∀ x y : D, (if [x, y].length ≤ lim then R.ok (D.lst [x, y]) st else R.no) = R.ok (D.lst [x, y]) st := fun x y => if_pos (le_lim (by simp))
  have pk : pick [1, 0] [D.int (m : Int), D.str s] = [.str s, .int (m : Int)] := rfl
  generalize ((m % s.length : Nat) : Int) = M at *
  generalize (m : Int) = m' at *
  generalize (s.length : Int) = sl at *
  generalize rot s m = u at *
  refine seq_ev (asg_name (d := .str u) (st1 := st) (by simp [m1, t1])) ?_
  refine if_ff (st1 := st) ?_ rfl
  simp only [List.length_cons, List.length_nil, Nat.zero_add, Nat.reduceAdd] at l2 t3
  simp [l2, t2, t3, pk, FL.lim]
theorem turns_loop {st : Sto} {s : List Nat} (h : Sc s) (ms : List Nat) (ρ0 ρ2 ρ3 ρ5 : D) (a b : Option D) :
    ∃ a' b', loopF (hName 4) tB (ms.map fun m : Nat => D.int (m : Int)) [some ρ0, some (.str s), some ρ2, some ρ3, a, some ρ5, some (.int s.length), b] st = .nx [some ρ0, some (.str s), some ρ2, some ρ3, a', some ρ5, some (.int s.length), b'] st := by
  obtain ⟨ρ', st', e, a', b', rfl, rfl⟩ := loopF_inv (g := hName 4) (b := tB) (p := fun m : Nat => D.int (m : Int)) (fun _ ρ s' => ∃ a b, ρ = [some ρ0, some (.str s), some ρ2, some ρ3, a, some ρ5, some (.int s.length), b] ∧ s' = st) ms 0
    [some ρ0, some (.str s), some ρ2, some ρ3, a, some ρ5, some (.int s.length), b] st ⟨a, b, rfl, rfl⟩ (fun k hk ρ s' hI => by
      obtain ⟨a, b, rfl, rfl⟩ := hI
      exact ⟨_, s', turns_step h ms[k] ρ0 ρ2 ρ3 ρ5 b, _, _, rfl, rfl⟩)
  exact ⟨a', b', e⟩
end Lk87

namespace Lk87
open PySem PySem.Spec PyProof.Rows L2 FL
theorem Gen.keep {st st' : Sto} {n : Nat} {k : Int} (g : Gen st n k) (h : st'[n]? = st[n]?) : Gen st' n k := by
  obtain ⟨a, b, c, h1, h2, h3⟩ := g
  exact ⟨a, b, c, h.trans h1, h2, h3⟩
theorem lst_if {st : Sto} {ds : List D} (h : ds.length ≤ lim) : (if ds.length ≤ lim then R.ok (D.lst ds) st else R.no) = R.ok (D.lst ds) st := if_pos h
theorem sp_scrap_right {st : Sto} {n : Nat} {k : Int} {s : List Nat} (g : Gen st n k) (hk : k ≤ 100000000000) (h : Sx s) :
    ∃ st', F__law_scrap_right [.cel n, .str s] st = .ok (.bl true) st' ∧ Gen st' n (k + 3) ∧ Fr n st st' := by
  have hs := h.sc
  have hn : n < st.length := g.lt
  have T0 := Ts_head hs.ne
  have Tl := Ts_lim hs
  have Tok := Ts_ok hs
  have lim4 : ∀ m : Nat, m ≤ 5 → m ≤ lim := fun m hm => le_lim (by omega)
  have tl : (s.take (per s)).length = per s := by have := (per_spec hs.ne).2.1; rw [List.length_take]; omega
  have tlim : (s.take (per s)).length ≤ lim := by rw [tl]; exact le_lim (by have := per_le hs; omega)
  have Tlen : ((Ts s).map D.str).length = per s := by rw [List.length_map, Ts_len]
  have hmark := fun (st : Sto) (k : Nat) (hc : st[k]? = some (.lst ((Ts s).map D.str))) => marked_cel (st := st) (n := 2) (k := k) hc Tok (Ts_mk h) (Nat.lt_of_le_of_lt Tl (by unfold FL.lim; decide))
  have ex3 := fun (st : Sto) (a b : D) (ha : isL st a ((Ts s).map D.str)) (hb : isL st b ((Ts s).map D.str)) => ex_three (st := st) (n := 5) ha hb Tok (lim_len Tl) (lt_ok hs) (take_ok hs (k := per s))
  have ats : atI ((Ts s).map D.str) 0 = some (.str (lt' s)) := by rw [atI_zero, List.getElem?_map, T0]; rfl
  have atr : atI ((rts s).map fun i => D.str (s.take i)) 0 = some (.str (s.take (per s))) := by rw [atI_zero, List.getElem?_map, rts_head hs.ne]; rfl
  have E1 := sp_turnings (st := st) hs
  have R1 := fun st => sp_ring_turnings (st := st) hs
  have L1 := fun st => sp_least_turning (st := st) hs
  have O1 := fun st => sp_root_of (st := st) hs
  have RT := fun (st : Sto) (a b c d e f : Option D) => roots_ev (st := st) hs (a := a) (b := b) (c := c) (d := d) (e := e) (f := f)
  have TL := fun (st : Sto) => turns_loop (st := st) hs
  generalize hT : (Ts s).map D.str = T at *
  generalize hRR : ((rts s).map fun i => D.str (s.take i)) = RR at *
  generalize hlt : lt' s = u at *
  generalize hv : s.take (per s) = v at *
  -- the stores
  let st1 : Sto := st ++ [.lst T]
  let st2 : Sto := st1 ++ [.lst T]
  let st3 : Sto := st2 ++ [.lst T]
  have a1 : st1[st.length]? = some (.lst T) := by simp [st1]
  have a2 : st2[st1.length]? = some (.lst T) := by simp [st2]
  have a3 : st3[st.length]? = some (.lst T) := by
    simp only [st3, st2]
    rw [List.getElem?_append_left (by simp [st1]), List.getElem?_append_left (by simp [st1])]
    exact a1
  have a4 : st3[st1.length]? = some (.lst T) := by
    simp only [st3]
    rw [List.getElem?_append_left (by simp [st2])]
    exact a2
  obtain ⟨st4, hst4⟩ : ∃ st4, st4 = st3.set st1.length (.lst (T ++ [.str FL.mk'])) := ⟨_, rfl⟩
  have M1 := hmark st3 st1.length a4
  rw [← hst4] at M1
  have a5 : st4[st.length]? = some (.lst T) := by
    rw [hst4, List.getElem?_set_ne (by simp [st1])]
    exact a3
  have l4 : st4.length = st.length + 3 := by rw [hst4]; simp [st3, st2, st1]
  let st5 : Sto := st4 ++ [.lst T]
  let st6 : Sto := st5 ++ [.lst T]
  have a6 : st6[st.length]? = some (.lst T) := by
    simp only [st6, st5]
    rw [List.getElem?_append_left (by simp; omega), List.getElem?_append_left (by omega)]
    exact a5
  have a7 : st6[st4.length]? = some (.lst T) := by
    simp only [st6]
    rw [List.getElem?_append_left (by simp [st5])]
    simp [st5]
  have fr6 : Fr n st st6 := by
    refine ⟨by simp [st6, st5]; omega, fun i hi hne => ?_⟩
    simp only [st6, st5]
    rw [List.getElem?_append_left (by simp; omega), List.getElem?_append_left (by omega), hst4, List.getElem?_set_ne (by simp [st1]; omega)]
    simp only [st3, st2, st1]
    rw [List.getElem?_append_left (by simp; omega), List.getElem?_append_left (by simp; omega), List.getElem?_append_left hi]
  have g6 : Gen st6 n k := by
    refine Gen.keep g ?_
    simp only [st6, st5]
    rw [List.getElem?_append_left (by simp; omega), List.getElem?_append_left (by omega), hst4, List.getElem?_set_ne (by simp [st1]; omega)]
    simp only [st3, st2, st1]
    rw [List.getElem?_append_left (by simp; omega), List.getElem?_append_left (by simp; omega), List.getElem?_append_left hn]
  obtain ⟨r, st7, r1, r2, r3, r4, r5, r6⟩ := sp_random g6 (b := 100000000000) (by omega) (by decide) (by decide)
  have P1 : gPow (.int 10) (.int 11) st6 = .ok (.int 100000000000) st6 := gPow_int (by decide +kernel)
  have X1 := ex3 st3 (.cel st1.length) (.cel st.length) (.inr ⟨_, rfl, a4⟩) (.inr ⟨_, rfl, a3⟩)
  have X2 := ex3 st6 (.cel st4.length) (.cel st.length) (.inr ⟨_, rfl, a7⟩) (.inr ⟨_, rfl, a6⟩)
  have I1 : gIx (.cel st.length) (.int 0) st3 = .ok (.str u) st3 := gIx_cel a3 ats
  have I2 : gIx (.cel st.length) (.int 0) st6 = .ok (.str u) st6 := gIx_cel a6 ats
  have I3 : ∀ st, gIx (.lst RR) (.int 0) st = .ok (.str v) st := fun st => gIx_lst atr
  have I4 : ∀ x y, gIx (.lst [.cel st1.length, x, y]) (.int 0) st3 = .ok (.cel st1.length) st3 := fun x y => gIx_lst rfl
  have K1 : kLen [.cel st.length] st4 = .ok (.int (per s : Nat)) st4 := by rw [kLen_cel a5, Tlen]
  have K2 : kLen [.str v] st4 = .ok (.int (per s : Nat)) st4 := by rw [kLen_str tlim, tl]
  obtain ⟨q, hq⟩ := Int.eq_ofNat_of_zero_le r2
  obtain ⟨a', b', tlp⟩ := TL st7 [0, 1, s.length, s.length + 1, q] (.cel n) (.lst RR) (.lst [.cel st1.length, .str u, .str v]) (.cel st.length) none none
  refine ⟨st7, gen0_rt rfl ?_, r4.mono (by omega), fr6.trans r5⟩
  have E1 : F__law_turnings [.str s] st = .ok (.cel st.length) st1 := E1
  have R1a : F_ring_turnings [.str s] st1 = .ok (.cel st1.length) st2 := R1 st1
  have L1a : F_least_turning [.str s] st2 = .ok (.str u) st3 := L1 st2
  have R1b : F_ring_turnings [.str s] st4 = .ok (.cel st4.length) st5 := R1 st4
  have L1b : F_least_turning [.str s] st5 = .ok (.str u) st6 := L1 st5
  have KL := fun st => kLen_str (st := st) hs.lim
  have pk1 : pick [0] [D.str s] = [D.str s] := rfl
  clear R1 L1 RT TL hmark ex3
  have RT1 := roots_ev (st := st1) hs (a := some (.cel n)) (b := none) (c := none) (d := none) (e := some (.cel st.length)) (f := none)
  rw [hRR] at RT1
  clear hRR
  generalize hc1 : st1.length = c1 at *
  generalize hc4 : st4.length = c4 at *
  generalize hc0 : st.length = c0 at *
  clear_value st1 st2 st3 st5 st6
  generalize hsl : (s.length : Int) = sl at *
  unfold fb__law_scrap_right
  refine seq_ev (ρ1 := [some (.cel n), some (.str s), none, none, none, some (.cel c0), some (.int sl), none]) (st1 := st1) (by simp [E1, KL, FL.lim]) ?_
  refine seq_ev (asg_name (d := .lst RR) (st1 := st1) RT1) ?_
  refine seq_ev (asg_name (d := .lst [.cel c1, .str u, .str v]) (st1 := st3) (by simp [R1a, L1a, O1, FL.lim])) ?_
  refine seq_ev (if_ff (st1 := st4) (by simp [I1, I2, I3, I4, X1, M1, K1, K2, FL.lim]) rfl) ?_
  refine seq_ev (if_ff (st1 := st6) (by simp [I1, I2, I3, R1b, L1b, O1, pk1, X2, FL.lim]) rfl) ?_
  refine seq_ev (ρ1 := [some (.cel n), some (.str s), some (.lst RR), some (.lst [.cel c1, .str u, .str v]), a', some (.cel c0), some (.int sl), b']) (st1 := st7) ?_ rfl
  have hm : ([0, 1, s.length, s.length + 1, q].map fun m : Nat => D.int (m : Int)) = [.int 0, .int 1, .int sl, .int (sl + 1), .int r] := by
    simp [← hsl, hq]
  rw [hm] at tlp
  simp [P1, r1, FL.lim, itemsR, items, tlp]
end Lk87

namespace Lk87
open PySem PySem.Spec PyProof.Rows L2 FL
theorem Ts_rot {a b : List Nat} (ha : a ≠ []) (hb : b ≠ []) {i : Nat} (e : b = rot a i) : Ts b = Ts a := by
  unfold Ts
  refine srt_of ordS ?_ (srt_sorted ordS _)
  refine (srt_perm _).trans ((List.perm_ext_iff_of_nodup (turns_nodup hb) (turns_nodup ha)).mpr fun t => ?_)
  rw [mem_turns hb, mem_turns ha]
  constructor
  · rintro ⟨j, rfl⟩
    exact ⟨i + j, by rw [e, rot_rot]⟩
  · rintro ⟨j, rfl⟩
    obtain ⟨m, hm⟩ := rot_back a i
    exact ⟨m + j, by rw [e, ← rot_rot, hm]⟩
theorem wy_iff {a b : List Nat} (ha : a ≠ []) : wy a b ≠ [] ↔ ∃ i, b = rot a i := by
  unfold wy
  constructor
  · intro h
    obtain ⟨i, is, e⟩ := List.exists_cons_of_ne_nil h
    have : i ∈ (List.range a.length).filter fun i => decide (rot a i = b) := by rw [e]; exact List.mem_cons_self
    rw [List.mem_filter] at this
    exact ⟨i, (of_decide_eq_true this.2).symm⟩
  · rintro ⟨i, rfl⟩ h
    have : i % a.length ∈ (List.range a.length).filter fun j => decide (rot a j = rot a i) := by
      rw [List.mem_filter]
      exact ⟨List.mem_range.mpr (Nat.mod_lt _ (List.length_pos_iff.mpr ha)), by simpa using rot_mod a i⟩
    rw [h] at this
    cases this
theorem lt_iff {a b : List Nat} (ha : a ≠ []) (hb : b ≠ []) : lt' a = lt' b ↔ wy a b ≠ [] := by
  rw [wy_iff ha]
  have ma := (Ts_mem ha).mp (List.mem_of_getElem? (Ts_head ha))
  have mb := (Ts_mem hb).mp (List.mem_of_getElem? (Ts_head hb))
  constructor
  · intro e
    obtain ⟨i, hi⟩ := ma
    obtain ⟨j, hj⟩ := mb
    obtain ⟨m, hm⟩ := rot_back b j
    exact ⟨i + m, by rw [← rot_rot, ← hi, e, hj, hm]⟩
  · rintro ⟨i, e⟩
    unfold FL.lt'
    rw [Ts_rot ha hb e]
theorem wyD_none {a b : List Nat} : wyD a b = .non ↔ wy a b = [] := by
  unfold wyD
  cases e : wy a b with
  | nil => simp
  | cons i is => simp
theorem ex_wy {st : Sto} {a b : List Nat} {n : Nat} : F__law_exact (n + 2) [.lst [wyD a b, wyD a b], .lst [wyD a b, wyD a b]] st = .ok (.bl true) st := by
  have one : F__law_exact (n + 1) [wyD a b, wyD a b] st = .ok (.bl true) st := by
    unfold wyD
    cases (wy a b)[0]? with
    | none => exact ex_non
    | some i => exact ex_int
  refine ex_lst (.inl rfl) (.inl rfl) rfl (le_lim (by simp)) fun i x y hx hy => ?_
  match i with
  | 0 => cases hx; cases hy; exact one
  | 1 => cases hx; cases hy; exact one
  | i + 2 => simp at hx
def few : List (List Nat) := [[97], [97, 98], [97, 98, 99], [120, 121, 122]]
theorem few_ab : ∀ g ∈ few, ∀ c ∈ g, c ∈ [97, 98, 99, 120, 121, 122] := by decide
theorem few_ne : ∀ g ∈ few, g ≠ [] := by decide
theorem few_len : ∀ g ∈ few, g.length ≤ 3 := by decide
theorem ab_az : ∀ c ∈ [97, 98, 99, 120, 121, 122], c ∈ AZ := by decide
theorem Sx.of {s : List Nat} (hn : s ≠ []) (hl : s.length ≤ 1000) (h : ∀ c ∈ s, c ∈ [97, 98, 99, 120, 121, 122]) : Sx s := ⟨⟨hn, hl, fun c hc => ab_az c (h c hc)⟩, h⟩
theorem repL_mem {s : List Nat} {j : Int} {c : Nat} (h : c ∈ repL j s) : c ∈ s := by
  unfold repL at h
  obtain ⟨l, hl1, hl2⟩ := List.mem_flatten.mp h
  rw [(List.mem_replicate.mp hl1).2] at hl2
  exact hl2
theorem ways_ev {st : Sto} {a b : List Nat} (h : Sc a) (k : Sc b) {x y z w v : Option D} : (fLc false (iRange1 (fCB kLen (faCons (fVar 2) faNil))) (hName 6) (fTest (fBin gEq (fCall 2 F__law_turning (faCons (fVar 2) (faCons (fVar 6) faNil))) (fVar 3))) (fVar 6) [6])
    [x, y, some (.str a), some (.str b), z, w, v] st = .ok (.lst ((wy a b).map fun i : Nat => D.int (i : Int))) st := by
  have hl := h.len
  have r := lcL_rng (st := st) (T := turnL (hName 6) (fTest (fBin gEq (fCall 2 F__law_turning (faCons (fVar 2) (faCons (fVar 6) faNil))) (fVar 3))) (fVar 6) [6] [x, y, some (.str a), some (.str b), z, w, v]) (c := fun i => decide (rot a i = b)) (f := fun i : Nat => D.int (i : Int)) (xs := List.range a.length) (fun i hi => by
    have := List.mem_range.mp hi
    simp [ev_turn, sp_turning h (m := i) (by omega), gEq_str (h.rot i).ok k.ok]
    split <;> rfl)
  rw [← rng_nat] at r
  have rg : iRange1 (fCB kLen (faCons (fVar 2) faNil)) [x, y, some (.str a), some (.str b), z, w, v] st = .ok (.fix ((rng 0 (a.length : Int)).map D.int)) st := range1_ev (by simp [kLen_str h.lim]) (okR_nat (by omega))
  have r : lcL _ _ st = .ok ((wy a b).map fun i : Nat => D.int (i : Int)) st := r
  have en := endL_ok (st := st) (ys := (wy a b).map fun i : Nat => D.int (i : Int)) (by have := wy_len (a := a) (b := b); rw [List.length_map]; exact le_lim (by omega))
  rw [ev_Lc, rg, R.bind_ok, ev_runL_fix, r, R.bind_ok, en]
theorem due_ev {st : Sto} {a b : List Nat} {x y z w v u : Option D} : (fIfE (fTest (fBin gNe (fVar 4) (fLst faNil))) (fBin gIx (fVar 4) (fC (.int 0))) (fC .non))
    [x, y, z, w, some (.lst ((wy a b).map fun i : Nat => D.int (i : Int))), u, v] st = .ok (wyD a b) st := by
  have ne := gNe_ints (st := st) (is := wy a b)
  have el : fLst faNil = fun ρ st => .ok (D.lst []) st := by
    funext ρ st
    rw [ev_Lst, ev_Nil, R.bind_ok, if_pos (le_lim (by simp))]
  by_cases hw : wy a b = []
  · have w' : wyD a b = .non := wyD_none.mpr hw
    rw [decide_eq_false (by simpa using hw)] at ne
    rw [w']
    generalize ((wy a b).map fun i : Nat => D.int (i : Int)) = A at *
    simp [-ev_Lst, el, ne]
  · obtain ⟨i, is, hq⟩ : ∃ i is, wy a b = i :: is := List.exists_cons_of_ne_nil hw
    have w' : wyD a b = .int (i : Int) := by unfold wyD; rw [hq]; rfl
    have ix : gIx (.lst ((wy a b).map fun i : Nat => D.int (i : Int))) (.int 0) st = .ok (.int (i : Int)) st := gIx_lst (by rw [atI_zero, hq]; rfl)
    rw [decide_eq_true hw] at ne
    rw [w']
    generalize ((wy a b).map fun i : Nat => D.int (i : Int)) = A at *
    simp [-ev_Lst, el, ne, ix]
theorem sp_pair_right {st : Sto} {n : Nat} {k : Int} (g : Gen st n k) (hk : k ≤ 10000000000) : ∃ st', F__law_pair_right [.cel n] st = .ok (.bl true) st' ∧ Gen st' n (k + 100) ∧ Fr n st st' := by
  -- signs
  obtain ⟨d1, st1, p1, p2, p3, p4, p5⟩ := sp_pick g (by omega) (ds := few.map D.str) (by decide) (le_lim (by decide))
  obtain ⟨signs, hsg, rfl⟩ := List.mem_map.mp p2
  have sl := few_len _ hsg
  -- one
  obtain ⟨o1, st2, q1, q2, q3, q4, q5, q6, q7⟩ := sp_scrap p3 (by omega) (few_ne _ hsg) (by omega) (most := 7) (by decide) (by decide)
  obtain ⟨r, st3, r1, r2, r3, r4, r5, r6⟩ := sp_random q5 (b := 3) (by omega) (by decide) (by decide)
  have ol : o1.length * (1 + r).toNat ≤ 7 * 3 := Nat.mul_le_mul (by omega) (by omega)
  have m1 : gMul (.str o1) (.int (1 + r)) st3 = .ok (.str (repL (1 + r) o1)) st3 := gMul_str (by omega) (le_lim (Nat.le_trans ol (by decide)))
  have one_len : (repL (1 + r) o1).length ≤ 21 := by rw [repL_len, Nat.mul_comm]; exact ol
  have one_ne : repL (1 + r) o1 ≠ [] := fun e => by
    have := repL_len (1 + r) o1
    rw [e, List.length_nil] at this
    have h1 : 0 < o1.length := List.length_pos_iff.mpr q2
    have h2 : 0 < (1 + r).toNat := by omega
    have := Nat.mul_pos h2 h1
    omega
  have hone : Sx (repL (1 + r) o1) := Sx.of one_ne (by omega) fun c hc => few_ab _ hsg c (q4 c (repL_mem hc))
  generalize repL (1 + r) o1 = one at *
  -- other
  obtain ⟨t, st4, t1, t2, t3, t4, t5, t6⟩ := sp_random r4 (b := (one.length : Int)) (by omega) (by have := hone.sc.pos; omega) (by omega)
  obtain ⟨tn, htn⟩ := Int.eq_ofNat_of_zero_le t2
  have u1 : F__law_turning [.str one, .int t] st4 = .ok (.str (rot one tn)) st4 := by rw [htn]; exact sp_turning hone.sc (by omega)
  obtain ⟨s2, st5, v1, v2, v3, v4, v5, v6, v7⟩ := sp_scrap t4 (by omega) (few_ne _ hsg) (by omega) (most := 7) (by decide) (by decide)
  have w1 : gRev (.str one) st5 = .ok (.str one.reverse) st5 := by
    show (if one.length ≤ lim then _ else _) = _
    rw [if_pos hone.sc.lim]
  obtain ⟨d2, st6, x1, x2, x3, x4, x5⟩ := sp_pick v5 (by omega) (ds := [.str (rot one tn), .str s2, .str one.reverse]) (by simp) (le_lim (by simp))
  obtain ⟨other, hoth, rfl⟩ : ∃ other, Sx other ∧ d2 = .str other := by
    rcases List.mem_cons.mp x2 with rfl | x2
    · exact ⟨_, hone.rot tn, rfl⟩
    · rcases List.mem_cons.mp x2 with rfl | x2
      · exact ⟨s2, Sx.of v2 (by omega) fun c hc => few_ab _ hsg c (v4 c hc), rfl⟩
      · rcases List.mem_cons.mp x2 with rfl | x2
        · exact ⟨_, Sx.of (by simpa using one_ne) (by simp; omega) fun c hc => hone.ab c (List.mem_reverse.mp hc), rfl⟩
        · cases x2
  -- the questions
  have W1 := fun (x y z w v : Option D) => ways_ev (st := st6) hone.sc hoth.sc (x := x) (y := y) (z := z) (w := w) (v := v)
  have D1 := fun (x y z w v u : Option D) => due_ev (st := st6) (a := one) (b := other) (x := x) (y := y) (z := z) (w := w) (v := v) (u := u)
  have T1 := sp_turns_to (st := st6) hone.sc hoth.sc
  have X1 := ex_wy (st := st6) (a := one) (b := other) (n := 6)
  have A1 := sp_least_turning (st := st6) hone.sc
  let st7 : Sto := st6 ++ [.lst ((Ts one).map D.str)]
  have A1 : F_least_turning [.str one] st6 = .ok (.str (lt' one)) st7 := A1
  have A2 := sp_least_turning (st := st7) hoth.sc
  let st8 : Sto := st7 ++ [.lst ((Ts other).map D.str)]
  have A2 : F_least_turning [.str other] st7 = .ok (.str (lt' other)) st8 := A2
  have B1 : gEq (.str (lt' one)) (.str (lt' other)) st8 = .ok (.bl (decide (lt' one = lt' other))) st8 := gEq_str (lt_ok hone.sc) (lt_ok hoth.sc)
  have B2 : gIsNot (wyD one other) .non st8 = .ok (.bl (decide (lt' one = lt' other))) st8 := by
    have e := lt_iff hone.sc.ne hoth.sc.ne
    by_cases z : wy one other = []
    · rw [wyD_none.mpr z, decide_eq_false fun q => (e.mp q) z]
      rfl
    · rw [decide_eq_true (e.mpr z)]
      have : wyD one other ≠ .non := fun q => z (wyD_none.mp q)
      revert this
      unfold wyD
      cases (wy one other)[0]? with
      | none => intro q; exact absurd rfl q
      | some i => intro _; rfl
  have fr8 : Fr n st st8 := (((((p4.trans q6).trans r5).trans t5).trans v6).trans x4).trans (Fr.app.trans Fr.app)
  have g8 : Gen st8 n (k + 3 + 3 + 3 * 7 + 3 + 3 + 3 + 3 * 7 + 3) := by
    refine Gen.keep x3 ?_
    have := x3.lt
    simp only [st8, st7]
    rw [List.getElem?_append_left (by simp; omega), List.getElem?_append_left this]
  obtain ⟨st9, y1, y2, y3⟩ := sp_scrap_right g8 (by omega) hone
  obtain ⟨st10, z1, z2, z3⟩ := sp_scrap_right y2 (by omega) hoth
  refine ⟨st10, gen0_rt rfl ?_, z2.mono (by omega), (fr8.trans y3).trans z3⟩
  have KL := fun st => kLen_str (st := st) hone.sc.lim
  have pk : pick [1, 0] [D.str other, D.str one] = [.str one, .str other] := rfl
  have p1 : F__law_pick [.cel n, .lst [.str [97], .str [97, 98], .str [97, 98, 99], .str [120, 121, 122]]] st = .ok (.str signs) st1 := p1
  generalize wyD one other = wd at *
  generalize ((wy one other).map fun i : Nat => D.int (i : Int)) = WY at *
  generalize decide (lt' one = lt' other) = db at *
  clear_value st7 st8
  unfold fb__law_pair_right
  refine seq_ev (asg_name (d := .str signs) (st1 := st1) (by simp [p1, FL.lim])) ?_
  refine seq_ev (asg_name (d := .str one) (st1 := st3) (by simp [q1, r1, m1])) ?_
  refine seq_ev (asg_name (d := .str other) (st1 := st6) (by simp [KL, t1, u1, v1, w1, x1, FL.lim])) ?_
  refine seq_ev (asg_name (d := .lst WY) (st1 := st6) (W1 _ _ _ _ _)) ?_
  refine seq_ev (asg_name (d := wd) (st1 := st6) (D1 _ _ _ _ _ _)) ?_
  refine seq_ev (if_ff (st1 := st6) (by simp [T1, pk, X1, FL.lim]) rfl) ?_
  refine seq_ev (if_ff (st1 := st8) (by simp [A1, A2, B1, B2]) rfl) ?_
  simp [y1, z1]
theorem sp_law {ns : List Int} {st : Sto} : ∃ st', F_law [.ro (ns.map D.int)] st = .ok (.bl true) st' := by
  have step : ∀ (j : Nat), j < 4 → ∀ (a b : Option D) (st : Sto), ∃ a' b' st', ((hName 1 (.int (j : Int)) [some (.ro (ns.map D.int)), a, b] st).toO [some (.ro (ns.map D.int)), a, b] fun ρ1 st1 => (fSeq (fAsg (fCall 2 F__law_generator (faCons (fVar 0) (faCons (fVar 1) faNil))) (hName 2))
      (fIf (fOrT (fNotT (fTest (fCall 1 F__law_pair_right (faCons (fVar 2) faNil)))) (fOrT (fNotT (fTest (fCall 1 F__law_pair_right (faCons (fVar 2) faNil)))) (fNotT (fTest (fCall 2 F__law_scrap_right (faCons (fVar 2) (faCons (fCall 3 F__law_scrap (faCons (fVar 2) (faCons (fC (.str [97, 98])) (faCons (fC (.int 40)) faNil)))) faNil))))))) (fRet (fC (.bl false))) fNext)) ρ1 st1) = .nx [some (.ro (ns.map D.int)), a', b'] st' := by
    intro j hj a b st
    obtain ⟨x, y, h1⟩ := sp_generator (ns := ns) (i := j) (st := st)
    have g0 : Gen (st ++ [.lst [.int x, .int y, .int (1000 * j)]]) st.length (1000 * j) := gen_new
    obtain ⟨st1, p1, p2, p3⟩ := sp_pair_right g0 (by omega)
    obtain ⟨st2, q1, q2, q3⟩ := sp_pair_right p2 (by omega)
    obtain ⟨s, st3, r1, r2, r3, r4, r5, r6, r7⟩ := sp_scrap q2 (by omega) (signs := [97, 98]) (by simp) (by simp) (most := 40) (by decide) (by decide)
    have hs : Sx s := Sx.of r2 (by omega) fun c hc => by
      have := r4 c hc
      simp at this ⊢
      omega
    obtain ⟨st4, t1, t2, t3⟩ := sp_scrap_right r5 (by omega) hs
    refine ⟨some (.int (j : Int)), some (.cel st.length), st4, ?_⟩
    generalize (st ++ [Co.lst [.int x, .int y, .int (1000 * j)]]) = st0 at *
    generalize ns.map D.int = NS at *
    generalize (j : Int) = J at *
    generalize st.length = n at *
    simp [h1, p1, q1, r1, t1]
  obtain ⟨ρ', st', e, a, b, rfl⟩ := loopF_inv (g := hName 1) (b := fSeq (fAsg (fCall 2 F__law_generator (faCons (fVar 0) (faCons (fVar 1) faNil))) (hName 2))
      (fIf (fOrT (fNotT (fTest (fCall 1 F__law_pair_right (faCons (fVar 2) faNil)))) (fOrT (fNotT (fTest (fCall 1 F__law_pair_right (faCons (fVar 2) faNil)))) (fNotT (fTest (fCall 2 F__law_scrap_right (faCons (fVar 2) (faCons (fCall 3 F__law_scrap (faCons (fVar 2) (faCons (fC (.str [97, 98])) (faCons (fC (.int 40)) faNil)))) faNil))))))) (fRet (fC (.bl false))) fNext))
    (p := fun j : Nat => D.int (j : Int)) (fun _ ρ _ => ∃ a b, ρ = [some (.ro (ns.map D.int)), a, b]) [0, 1, 2, 3] 0 [some (.ro (ns.map D.int)), none, none] st ⟨none, none, rfl⟩ (fun k hk ρ s hI => by
      obtain ⟨a, b, rfl⟩ := hI
      have hk4 : ([0, 1, 2, 3] : List Nat)[k] < 4 := by
        have : ∀ x ∈ ([0, 1, 2, 3] : List Nat), x < 4 := by decide
        exact this _ (List.getElem_mem hk)
      obtain ⟨a', b', st', h⟩ := step _ hk4 a b s
      exact ⟨_, st', h, a', b', rfl⟩)
  have rg : iRange1 (fC (.int 4)) [some (.ro (ns.map D.int)), none, none] st = .ok (.fix ((rng 0 4).map D.int)) st := range1_ev rfl (okR_nat (n := 4) (by decide))
  have r4 : (rng 0 4).map D.int = ([0, 1, 2, 3] : List Nat).map fun j : Nat => D.int (j : Int) := by rfl
  rw [r4] at rg
  refine ⟨st', gen0_rt rfl ?_⟩
  unfold fb_law
  refine seq_ev (ρ1 := [some (.ro (ns.map D.int)), a, b]) (st1 := st') ?_ rfl
  rw [ev_For]
  show R.toO (iRange1 (fC (.int 4)) [some (.ro (ns.map D.int)), none, none] st) _ _ = _
  rw [rg]
  exact e
end Lk87

/-! FLq: from the law's function to the row's promise -/
namespace FL
open PySem PySem.Spec PyProof.Rows L2

theorem stoOk_nil {K : PySem.W.Frag} {H : Hp} : StoOk K H ⟨[], []⟩ [] := ⟨rfl, List.nodup_nil, (fun n a o h => by simp at h), (fun a h => nomatch h), (fun a h => nomatch h)⟩
theorem rep_script {K : PySem.W.Frag} {H : Hp} {a : Addr} {ns : List Int} (hS : SqL K H a (ns.map V.int)) : Rep K H ⟨[], []⟩ (.ref a) (.ro (ns.map D.int)) := by
  rcases hS with h | h
  · rcases h with h | ⟨ob, h⟩
    · exact .ro h (.inl rfl) ⟨(fun q => nomatch q), (fun q => nomatch q)⟩ (Reps.of_ints ns)
    · exact .ro h (.inr ⟨ob, rfl⟩) ⟨(fun q => nomatch q), (fun q => nomatch q)⟩ (Reps.of_ints ns)
  · exact .roK (fun G => .inr h) (Reps.of_ints ns)
theorem law_sp {K : PySem.W.Frag} {mg : Str → Option Value} {H : Hp} {a : Addr} {ns : List Int} {F : F1} {E : XK} (h : ∃ st', F [.ro (ns.map D.int)] [] = .ok (.bl true) st') (hS : SqL K H a (ns.map V.int)) :
    spF ⟨K, mg⟩ 1 F [.ref a] H (fun v _ => v = .bl true) E := by
  obtain ⟨st', e⟩ := h
  refine ⟨[.ro (ns.map D.int)], [], ⟨[], []⟩, .cons (rep_script hS) .nil, rfl, stoOk_nil, ?_⟩
  rw [e]
  intro C' H' so ex v rv
  cases rv
  rfl
theorem funD_one {K : PySem.W.Frag} {x q : Str} {ps : Arguments} {b : List Stmt} {sc : Scope} {f : Addr} {fd fd' : FuncData} (h : FunD K x q ps b sc [] [] f fd) (h' : FunD K x q ps b sc [] [] f fd') : fd = fd' := by
  obtain ⟨oc, od, dV, kV, doc, pm, an, cdv, ct, osl, rfl, lk, _⟩ := h.ex
  obtain ⟨oc', od', dV', kV', doc', pm', an', cdv', ct', osl', rfl, lk', _⟩ := h'.ex
  rw [lk] at lk'
  injection lk' with e
  injection e with _ _ e3 _
  injection e3
theorem law_facts {P : Program} {w : World} {K : PySem.W.Frag} {mg : Str → Option Value} {k : Nat} {s : Stmt} {x p : Str} {f : Addr} {F : F1} (hd : HasD K mg x s) (hf : mg x = some (.ref f)) (hb : BindsR x s [p])
    (D : ∀ base : Heap, DefC P w K mg base CX0 k s x [p] F) : ∃ fd : FuncData, (∀ (sh : Shared) (v : Value), BindsTo sh fd ⟨[v], []⟩ [(p, v)]) ∧ ∀ base : Heap, FnOk P w K mg base CX0 k f fd [p] (spF ⟨K, mg⟩ 1 F) := by
  obtain ⟨f', fd, hm, FD⟩ := hd.ex
  rw [hf] at hm
  cases hm
  have b := FunD.bindsA (ps := [p]) FD hb
  refine ⟨fd, fun sh v => b sh [v] rfl, fun base => ?_⟩
  obtain ⟨f2, fd2, hm2, FD2, _, O⟩ := (D base).ex
  rw [hf] at hm2
  cases hm2
  have e := funD_one FD FD2
  subst e
  exact O
end FL

namespace Lk87
open PySem PySem.Spec PyProof.Rows L2 FL
theorem le_lv {a b : Nat} (h : Nat.ble a b = true) : a ≤ b := Nat.le_of_ble_eq_true h
theorem le_add {a b n : Nat} (h : a ≤ b) : a ≤ n + b := Nat.le_trans h (Nat.le_add_left _ _)
structure Hy (K : PySem.W.Frag) (mg : Str → Option Value) : Prop where
  b_bool : mg "bool" = none
  b_int : mg "int" = none
  b_isinstance : mg "isinstance" = none
  b_len : mg "len" = none
  b_list : mg "list" = none
  b_max : mg "max" = none
  b_range : mg "range" = none
  b_sorted : mg "sorted" = none
  b_str : mg "str" = none
  b_sum : mg "sum" = none
  b_tuple : mg "tuple" = none
  b_zip : mg "zip" = none
  g_SMALL : ∃ t, mg "SMALL" = some (.str (sv [97, 98, 99, 100, 101, 102, 103, 104, 105, 106, 107, 108, 109, 110, 111, 112, 113, 114, 115, 116, 117, 118, 119, 120, 121, 122]) t)
  f_is_whole : HasD K mg "is_whole" s_is_whole
  f_is_count : HasD K mg "is_count" s_is_count
  f_is_signs : HasD K mg "is_signs" s_is_signs
  f_check_number : HasD K mg "check_number" s_check_number
  f_is_story : HasD K mg "is_story" s_is_story
  f_is_scrap : HasD K mg "is_scrap" s_is_scrap
  f_check_scrap : HasD K mg "check_scrap" s_check_scrap
  f_turned_by : HasD K mg "turned_by" s_turned_by
  f_ring_turned : HasD K mg "ring_turned" s_ring_turned
  f_root_size : HasD K mg "root_size" s_root_size
  f_all_turnings : HasD K mg "all_turnings" s_all_turnings
  f_ring_turnings : HasD K mg "ring_turnings" s_ring_turnings
  f_least_turning : HasD K mg "least_turning" s_least_turning
  f_turns_to : HasD K mg "turns_to" s_turns_to
  f_root_of : HasD K mg "root_of" s_root_of
  f__law_hash : HasD K mg "_law_hash" s__law_hash
  f__law_cell : HasD K mg "_law_cell" s__law_cell
  f__law_generator : HasD K mg "_law_generator" s__law_generator
  f__law_random : HasD K mg "_law_random" s__law_random
  f__law_pick : HasD K mg "_law_pick" s__law_pick
  f__law_marked : HasD K mg "_law_marked" s__law_marked
  f__law_exact : HasD K mg "_law_exact" s__law_exact
  f__law_unlike : HasD K mg "_law_unlike" s__law_unlike
  f__law_scrap : HasD K mg "_law_scrap" s__law_scrap
  f__law_turning : HasD K mg "_law_turning" s__law_turning
  f__law_turnings : HasD K mg "_law_turnings" s__law_turnings
  f__law_scrap_right : HasD K mg "_law_scrap_right" s__law_scrap_right
  f__law_pair_right : HasD K mg "_law_pair_right" s__law_pair_right
  f_law : HasD K mg "law" s_law
section
variable {P : Program} {w : World} {K : PySem.W.Frag} {mg : Str → Option Value} {base : Heap}
theorem sc_is_whole : FnScope N_is_whole ["value"] (defScope s_is_whole) := ⟨rfl, rfl, rfl, by decide +kernel, rfl, by decide +kernel, by decide +kernel⟩
theorem d_is_whole (h : Hy K mg) : DefC P w K mg base CX0 1 s_is_whole "is_whole" ["value"] F_is_whole :=
  DefC.of0 h.f_is_whole sc_is_whole (fun _ _ _ _ _ _ us hl => match us, hl with | [_], _ => rfl) clean_gen0 nox_gen0 (fun cdv A outer sh H E f hr =>
      (ss_one (ss_ret (se_and (se_callB (c_isi) h.b_isinstance (sa_cons (se_var (i := 0)) (sa_cons (se_ty .int h.b_int) sa_nil))) (se_one (se_not (se_callB (c_isi) h.b_isinstance (sa_cons (se_var (i := 0)) (sa_cons (se_ty .bool h.b_bool) sa_nil)))))))))
theorem sc_is_signs : FnScope N_is_signs ["value", "signs"] (defScope s_is_signs) := ⟨rfl, rfl, rfl, by decide +kernel, rfl, by decide +kernel, by decide +kernel⟩
theorem d_is_signs (h : Hy K mg) : DefC P w K mg base CX0 1 s_is_signs "is_signs" ["value", "signs"] F_is_signs :=
  DefC.of0 h.f_is_signs sc_is_signs (fun _ _ _ _ _ _ us hl => match us, hl with | [_, _], _ => rfl) clean_gen0 nox_gen0 (fun cdv A outer sh H E f hr =>
      (ss_one (ss_ret (se_and (se_callB (c_isi) h.b_isinstance (sa_cons (se_var (i := 0)) (sa_cons (se_ty .str h.b_str) sa_nil))) (se_one (se_cmp (o_eq hr.units) (se_lc false  (own := [("sign", 2)]) rfl sc_is_signs.nd (si_list (se_var (i := 0))) (blkOk (show blkB N_is_signs (defScope s_is_signs) _ _ = true by decide +kernel)) (fun _ _ _ _ _ => (sv_name (i := 2) sc_is_signs.nd)) (fun _ _ _ _ _ => (sp_one (st_cmp (o_notIn (Room.u65 hr)) (se_var (i := 2)) (se_var (i := 1))))) (fun _ _ _ _ _ => (se_var (i := 2)))) (se_lst sa_nil)))))))
theorem sc_turned_by : FnScope N_turned_by ["scrap", "many"] (defScope s_turned_by) := ⟨rfl, rfl, rfl, by decide +kernel, rfl, by decide +kernel, by decide +kernel⟩
theorem d_turned_by (h : Hy K mg) : DefC P w K mg base CX0 1 s_turned_by "turned_by" ["scrap", "many"] F_turned_by :=
  DefC.of0 h.f_turned_by sc_turned_by (fun _ _ _ _ _ _ us hl => match us, hl with | [_, _], _ => rfl) clean_gen0 nox_gen0 (fun cdv A outer sh H E f hr =>
      (ss_cons (ss_set (i := 2) sc_turned_by.nd (se_bin o_mod (se_var (i := 1)) (se_callB (c_len) h.b_len (sa_cons (se_var (i := 0)) sa_nil))))
      (ss_one (ss_ret (se_bin o_add (se_cut (se_var (i := 0)) (so_some (se_var (i := 2))) so_none) (se_cut (se_var (i := 0)) so_none (so_some (se_var (i := 2)))))))))
theorem sc__law_hash : FnScope N__law_hash ["seed", "index"] (defScope s__law_hash) := ⟨rfl, rfl, rfl, by decide +kernel, rfl, by decide +kernel, by decide +kernel⟩
theorem d__law_hash (h : Hy K mg) : DefC P w K mg base CX0 1 s__law_hash "_law_hash" ["seed", "index"] F__law_hash :=
  DefC.of0 h.f__law_hash sc__law_hash (fun _ _ _ _ _ _ us hl => match us, hl with | [_, _], _ => rfl) clean_gen0 nox_gen0 (fun cdv A outer sh H E f hr =>
      (ss_cons (ss_set (i := 2) sc__law_hash.nd (se_bin o_mod (se_callTy c_int h.b_int (sa_cons (se_bin o_add (se_bin o_add (se_bin o_add (se_bin o_mul (se_var (i := 0)) se_int) (se_bin o_mul (se_bin o_mul se_int (se_var (i := 1))) (se_var (i := 1)))) (se_bin o_mul se_int (se_var (i := 1)))) se_int) sa_nil)) se_int))
      (ss_cons (ss_set (i := 2) sc__law_hash.nd (se_bin o_mod (se_callTy c_int h.b_int (sa_cons (se_bin o_add (se_bin o_add (se_bin o_mul (se_var (i := 2)) (se_var (i := 2))) (se_bin o_mul se_int (se_var (i := 1)))) se_int) sa_nil)) se_int))
      (ss_one (ss_ret (se_bin o_mod (se_callTy c_int h.b_int (sa_cons (se_bin o_mul (se_var (i := 2)) se_int) sa_nil)) se_int))))))
theorem sc__law_cell : FnScope N__law_cell ["script", "index"] (defScope s__law_cell) := ⟨rfl, rfl, rfl, by decide +kernel, rfl, by decide +kernel, by decide +kernel⟩
theorem d__law_cell (h : Hy K mg) : DefC P w K mg base CX0 1 s__law_cell "_law_cell" ["script", "index"] F__law_cell :=
  DefC.of0 h.f__law_cell sc__law_cell (fun _ _ _ _ _ _ us hl => match us, hl with | [_, _], _ => rfl) clean_gen0 nox_gen0 (fun cdv A outer sh H E f hr =>
      (ss_cons (ss_if (st_cmp o_lt (se_var (i := 1)) (se_callB (c_len) h.b_len (sa_cons (se_var (i := 0)) sa_nil))) (ss_one (ss_ret (se_ix (Room.u1 hr) (se_var (i := 0)) (se_var (i := 1))))) ss_nil)
      (ss_one (ss_ret (se_bin o_mod (se_callB (c_sum rfl) h.b_sum (sa_cons (se_cut (se_var (i := 0)) so_none (so_some se_int)) sa_nil)) se_int)))))
theorem sc__law_unlike : FnScope N__law_unlike ["items"] (defScope s__law_unlike) := ⟨rfl, rfl, rfl, by decide +kernel, rfl, by decide +kernel, by decide +kernel⟩
theorem d__law_unlike (h : Hy K mg) : DefC P w K mg base CX0 1 s__law_unlike "_law_unlike" ["items"] F__law_unlike :=
  DefC.of0 h.f__law_unlike sc__law_unlike (fun _ _ _ _ _ _ us hl => match us, hl with | [_], _ => rfl) clean_gen0 nox_gen0 (fun cdv A outer sh H E f hr =>
      (ss_cons (ss_set (i := 1) sc__law_unlike.nd (se_lstC sa_nil))
      (ss_cons (ss_for PassesOwn.never rfl (si_list (se_callB (c_sorted) h.b_sorted (sa_cons (se_var (i := 0)) sa_nil))) (sg_name (i := 2) sc__law_unlike.nd) (ss_one (ss_if (st_cmp (o_notIn (Room.u65 hr)) (se_var (i := 2)) (se_var (i := 1))) (ss_one (ss_expr (se_bm .list m_append pl_list sl_list_append rfl (se_var (i := 1)) (sa_cons (se_var (i := 2)) sa_nil)))) ss_nil)))
      (ss_one (ss_ret (se_var (i := 1)))))))
theorem sc__law_turning : FnScope N__law_turning ["scrap", "many"] (defScope s__law_turning) := ⟨rfl, rfl, rfl, by decide +kernel, rfl, by decide +kernel, by decide +kernel⟩
theorem d__law_turning (h : Hy K mg) : DefC P w K mg base CX0 1 s__law_turning "_law_turning" ["scrap", "many"] F__law_turning :=
  DefC.of0 h.f__law_turning sc__law_turning (fun _ _ _ _ _ _ us hl => match us, hl with | [_, _], _ => rfl) clean_gen0 nox_gen0 (fun cdv A outer sh H E f hr =>
      (ss_cons (ss_set (i := 2) sc__law_turning.nd (se_callTy (c_list rfl) h.b_list (sa_cons (se_var (i := 0)) sa_nil)))
      (ss_cons (ss_for PassesOwn.never rfl (si_range1 h.b_range (se_var (i := 1))) (sg_name (i := 3) sc__law_turning.nd) (ss_one (ss_set (i := 2) sc__law_turning.nd (se_bin o_add (se_cut (se_var (i := 2)) (so_some se_int) so_none) (se_cut (se_var (i := 2)) so_none (so_some se_int))))))
      (ss_one (ss_ret (se_bm .str m_join pl_str sl_str_join rfl (se_str (s := [])) (sa_cons (se_var (i := 2)) sa_nil)))))))
theorem sc_is_count : FnScope N_is_count ["value"] (defScope s_is_count) := ⟨rfl, rfl, rfl, by decide +kernel, rfl, by decide +kernel, by decide +kernel⟩
theorem d_is_count (h : Hy K mg) : DefC P w K mg base CX0 2 s_is_count "is_count" ["value"] F_is_count :=
  DefC.of0 h.f_is_count sc_is_count (fun _ _ _ _ _ _ us hl => match us, hl with | [_], _ => rfl) clean_gen0 nox_gen0 (fun cdv A outer sh H E f hr =>
      (ss_one (ss_ret (se_and (se_call (F := F_is_whole) (ps := ["value"]) (x := "is_whole") (s := s_is_whole) (DefC.mono (k := 1) (j := 1) (d_is_whole h) (le_lv (by decide))) hr pass_0 (sa_cons (se_var (i := 0)) sa_nil)) (se_one (se_cmp o_ge (se_var (i := 0)) se_int))))))
theorem sc_is_story : FnScope N_is_story ["value"] (defScope s_is_story) := ⟨rfl, rfl, rfl, by decide +kernel, rfl, by decide +kernel, by decide +kernel⟩
theorem d_is_story (h : Hy K mg) : DefC P w K mg base CX0 2 s_is_story "is_story" ["value"] F_is_story :=
  DefC.of0 h.f_is_story sc_is_story (fun _ _ _ _ _ _ us hl => match us, hl with | [_], _ => rfl) clean_gen0 nox_gen0 (fun cdv A outer sh H E f hr =>
      (ss_one (ss_ret (se_call (F := F_is_signs) (ps := ["value", "signs"]) (x := "is_signs") (s := s_is_signs) (DefC.mono (k := 1) (j := 1) (d_is_signs h) (le_lv (by decide))) hr pass_0 (sa_cons (se_var (i := 0)) (sa_cons (se_gstr (s := [97, 98, 99, 100, 101, 102, 103, 104, 105, 106, 107, 108, 109, 110, 111, 112, 113, 114, 115, 116, 117, 118, 119, 120, 121, 122]) h.g_SMALL) sa_nil))))))
theorem sc_root_size : FnScope N_root_size ["scrap"] (defScope s_root_size) := ⟨rfl, rfl, rfl, by decide +kernel, rfl, by decide +kernel, by decide +kernel⟩
theorem d_root_size (h : Hy K mg) : DefC P w K mg base CX0 2 s_root_size "root_size" ["scrap"] F_root_size :=
  DefC.of0 h.f_root_size sc_root_size (fun _ _ _ _ _ _ us hl => match us, hl with | [_], _ => rfl) clean_gen0 nox_gen0 (fun cdv A outer sh H E f hr =>
      (ss_one (ss_ret (se_ix (Room.u1 hr) (se_lc false  (own := [("size", 1)]) rfl sc_root_size.nd (si_range2 h.b_range se_int (se_bin o_add (se_callB (c_len) h.b_len (sa_cons (se_var (i := 0)) sa_nil)) se_int)) (blkOk (show blkB N_root_size (defScope s_root_size) _ _ = true by decide +kernel)) (fun _ _ _ _ _ => (sv_name (i := 1) sc_root_size.nd)) (fun _ _ _ _ _ => (sp_one (st_cmp (o_eq hr.units) (se_call (F := F_turned_by) (ps := ["scrap", "many"]) (x := "turned_by") (s := s_turned_by) (DefC.mono (k := 1) (j := 1) (d_turned_by h) (le_lv (by decide))) hr pass_0 (sa_cons (se_var (i := 0)) (sa_cons (se_var (i := 1)) sa_nil))) (se_var (i := 0))))) (fun _ _ _ _ _ => (se_var (i := 1)))) se_int))))
theorem sc__law_generator : FnScope N__law_generator ["script", "index"] (defScope s__law_generator) := ⟨rfl, rfl, rfl, by decide +kernel, rfl, by decide +kernel, by decide +kernel⟩
theorem d__law_generator (h : Hy K mg) : DefC P w K mg base CX0 2 s__law_generator "_law_generator" ["script", "index"] F__law_generator :=
  DefC.of0 h.f__law_generator sc__law_generator (fun _ _ _ _ _ _ us hl => match us, hl with | [_, _], _ => rfl) clean_gen0 nox_gen0 (fun cdv A outer sh H E f hr =>
      (ss_cons (ss_set (i := 2) sc__law_generator.nd (se_call (F := F__law_cell) (ps := ["script", "index"]) (x := "_law_cell") (s := s__law_cell) (DefC.mono (k := 1) (j := 1) (d__law_cell h) (le_lv (by decide))) hr pass_0 (sa_cons (se_var (i := 0)) (sa_cons (se_var (i := 1)) sa_nil))))
      (ss_one (ss_ret (se_lstC (sa_cons (se_bin o_mod (se_callTy c_int h.b_int (sa_cons (se_callB (c_max rfl) h.b_max (sa_cons (se_bin o_sub (se_var (i := 2)) (se_bin o_pow se_int se_int)) (sa_cons se_int sa_nil))) sa_nil)) (se_bin o_pow (se_bin o_pow se_int se_int) se_int)) (sa_cons (se_bin o_mod (se_callTy c_int h.b_int (sa_cons (se_var (i := 2)) sa_nil)) se_int) (sa_cons (se_bin o_mul se_int (se_var (i := 1))) sa_nil))))))))
theorem sc__law_random : FnScope N__law_random ["generator", "bound"] (defScope s__law_random) := ⟨rfl, rfl, rfl, by decide +kernel, rfl, by decide +kernel, by decide +kernel⟩
theorem d__law_random (h : Hy K mg) : DefC P w K mg base CX0 2 s__law_random "_law_random" ["generator", "bound"] F__law_random :=
  DefC.of0 h.f__law_random sc__law_random (fun _ _ _ _ _ _ us hl => match us, hl with | [_, _], _ => rfl) clean_gen0 nox_gen0 (fun cdv A outer sh H E f hr =>
      (ss_cons (ss_if (st_cmp o_gt (se_ix (Room.u1 hr) (se_var (i := 0)) se_int) se_int) (ss_cons (ss_set (i := 2) sc__law_random.nd (se_bin o_mod (se_callTy c_int h.b_int (sa_cons (se_ix (Room.u1 hr) (se_var (i := 0)) se_int) sa_nil)) (se_var (i := 1))))
      (ss_cons (ss_asg (se_bin o_div (se_ix (Room.u1 hr) (se_var (i := 0)) se_int) (se_var (i := 1))) (sg_sub (Room.u1 hr) (se_var (i := 0)) se_int))
      (ss_one (ss_ret (se_var (i := 2)))))) ss_nil)
      (ss_cons (ss_set (i := 2) sc__law_random.nd se_int)
      (ss_cons (ss_for PassesOwn.never rfl (si_range1 h.b_range (se_bin o_add se_int (se_bin o_div (se_bits (se_var (i := 1))) se_int))) (sg_name (i := 3) sc__law_random.nd) (ss_cons (ss_asg (se_bin o_add (se_ix (Room.u1 hr) (se_var (i := 0)) se_int) se_int) (sg_sub (Room.u1 hr) (se_var (i := 0)) se_int))
      (ss_one (ss_set (i := 2) sc__law_random.nd (se_bin o_add (se_bin o_mul (se_var (i := 2)) se_int) (se_call (F := F__law_hash) (ps := ["seed", "index"]) (x := "_law_hash") (s := s__law_hash) (DefC.mono (k := 1) (j := 1) (d__law_hash h) (le_lv (by decide))) hr pass_0 (sa_cons (se_ix (Room.u1 hr) (se_var (i := 0)) se_int) (sa_cons (se_ix (Room.u1 hr) (se_var (i := 0)) se_int) sa_nil))))))))
      (ss_one (ss_ret (se_bin o_mod (se_callTy c_int h.b_int (sa_cons (se_var (i := 2)) sa_nil)) (se_var (i := 1)))))))))
theorem sc__law_turnings : FnScope N__law_turnings ["scrap"] (defScope s__law_turnings) := ⟨rfl, rfl, rfl, by decide +kernel, rfl, by decide +kernel, by decide +kernel⟩
theorem d__law_turnings (h : Hy K mg) : DefC P w K mg base CX0 2 s__law_turnings "_law_turnings" ["scrap"] F__law_turnings :=
  DefC.of0 h.f__law_turnings sc__law_turnings (fun _ _ _ _ _ _ us hl => match us, hl with | [_], _ => rfl) clean_gen0 nox_gen0 (fun cdv A outer sh H E f hr =>
      (ss_one (ss_ret (se_call (F := F__law_unlike) (ps := ["items"]) (x := "_law_unlike") (s := s__law_unlike) (DefC.mono (k := 1) (j := 1) (d__law_unlike h) (le_lv (by decide))) hr pass_0 (sa_cons (se_lc false  (own := [("many", 1)]) rfl sc__law_turnings.nd (si_range1 h.b_range (se_callB (c_len) h.b_len (sa_cons (se_var (i := 0)) sa_nil))) (blkOk (show blkB N__law_turnings (defScope s__law_turnings) _ _ = true by decide +kernel)) (fun _ _ _ _ _ => (sv_name (i := 1) sc__law_turnings.nd)) (fun _ _ _ _ _ => sp_nil) (fun _ _ _ _ _ => (se_call (F := F__law_turning) (ps := ["scrap", "many"]) (x := "_law_turning") (s := s__law_turning) (DefC.mono (k := 1) (j := 1) (d__law_turning h) (le_lv (by decide))) hr pass_0 (sa_cons (se_var (i := 0)) (sa_cons (se_var (i := 1)) sa_nil))))) sa_nil)))))
theorem sc_check_number : FnScope N_check_number ["value"] (defScope s_check_number) := ⟨rfl, rfl, rfl, by decide +kernel, rfl, by decide +kernel, by decide +kernel⟩
theorem d_check_number (h : Hy K mg) : DefC P w K mg base CX0 3 s_check_number "check_number" ["value"] F_check_number :=
  DefC.of0 h.f_check_number sc_check_number (fun _ _ _ _ _ _ us hl => match us, hl with | [_], _ => rfl) clean_gen0 nox_gen0 (fun cdv A outer sh H E f hr =>
      (ss_one (ss_if (st_not (st_val (se_call (F := F_is_count) (ps := ["value"]) (x := "is_count") (s := s_is_count) (DefC.mono (k := 2) (j := 2) (d_is_count h) (le_lv (by decide))) hr pass_0 (sa_cons (se_var (i := 0)) sa_nil)))) (ss_one ss_never) ss_nil)))
theorem sc_is_scrap : FnScope N_is_scrap ["value"] (defScope s_is_scrap) := ⟨rfl, rfl, rfl, by decide +kernel, rfl, by decide +kernel, by decide +kernel⟩
theorem d_is_scrap (h : Hy K mg) : DefC P w K mg base CX0 3 s_is_scrap "is_scrap" ["value"] F_is_scrap :=
  DefC.of0 h.f_is_scrap sc_is_scrap (fun _ _ _ _ _ _ us hl => match us, hl with | [_], _ => rfl) clean_gen0 nox_gen0 (fun cdv A outer sh H E f hr =>
      (ss_one (ss_ret (se_and (se_call (F := F_is_story) (ps := ["value"]) (x := "is_story") (s := s_is_story) (DefC.mono (k := 2) (j := 2) (d_is_story h) (le_lv (by decide))) hr pass_0 (sa_cons (se_var (i := 0)) sa_nil)) (se_one (se_cmp (o_ne hr.units) (se_var (i := 0)) (se_str (s := []))))))))
theorem sc_all_turnings : FnScope N_all_turnings ["scrap"] (defScope s_all_turnings) := ⟨rfl, rfl, rfl, by decide +kernel, rfl, by decide +kernel, by decide +kernel⟩
theorem d_all_turnings (h : Hy K mg) : DefC P w K mg base CX0 3 s_all_turnings "all_turnings" ["scrap"] F_all_turnings :=
  DefC.of0 h.f_all_turnings sc_all_turnings (fun _ _ _ _ _ _ us hl => match us, hl with | [_], _ => rfl) clean_gen0 nox_gen0 (fun cdv A outer sh H E f hr =>
      (ss_one (ss_ret (se_callB c_sortedC h.b_sorted (sa_cons (se_lc false  (own := [("many", 1)]) rfl sc_all_turnings.nd (si_range1 h.b_range (se_call (F := F_root_size) (ps := ["scrap"]) (x := "root_size") (s := s_root_size) (DefC.mono (k := 2) (j := 2) (d_root_size h) (le_lv (by decide))) hr pass_0 (sa_cons (se_var (i := 0)) sa_nil))) (blkOk (show blkB N_all_turnings (defScope s_all_turnings) _ _ = true by decide +kernel)) (fun _ _ _ _ _ => (sv_name (i := 1) sc_all_turnings.nd)) (fun _ _ _ _ _ => sp_nil) (fun _ _ _ _ _ => (se_call (F := F_turned_by) (ps := ["scrap", "many"]) (x := "turned_by") (s := s_turned_by) (DefC.mono (k := 1) (j := 2) (d_turned_by h) (le_lv (by decide))) hr pass_0 (sa_cons (se_var (i := 0)) (sa_cons (se_var (i := 1)) sa_nil))))) sa_nil)))))
theorem sc__law_pick : FnScope N__law_pick ["generator", "things"] (defScope s__law_pick) := ⟨rfl, rfl, rfl, by decide +kernel, rfl, by decide +kernel, by decide +kernel⟩
theorem d__law_pick (h : Hy K mg) : DefC P w K mg base CX0 3 s__law_pick "_law_pick" ["generator", "things"] F__law_pick :=
  DefC.of0 h.f__law_pick sc__law_pick (fun _ _ _ _ _ _ us hl => match us, hl with | [_, _], _ => rfl) clean_gen0 nox_gen0 (fun cdv A outer sh H E f hr =>
      (ss_one (ss_ret (se_ix (Room.u1 hr) (se_var (i := 1)) (se_call (F := F__law_random) (ps := ["generator", "bound"]) (x := "_law_random") (s := s__law_random) (DefC.mono (k := 2) (j := 2) (d__law_random h) (le_lv (by decide))) hr pass_0 (sa_cons (se_var (i := 0)) (sa_cons (se_callB (c_len) h.b_len (sa_cons (se_var (i := 1)) sa_nil)) sa_nil)))))))
theorem sc_check_scrap : FnScope N_check_scrap ["scrap"] (defScope s_check_scrap) := ⟨rfl, rfl, rfl, by decide +kernel, rfl, by decide +kernel, by decide +kernel⟩
theorem d_check_scrap (h : Hy K mg) : DefC P w K mg base CX0 4 s_check_scrap "check_scrap" ["scrap"] F_check_scrap :=
  DefC.of0 h.f_check_scrap sc_check_scrap (fun _ _ _ _ _ _ us hl => match us, hl with | [_], _ => rfl) clean_gen0 nox_gen0 (fun cdv A outer sh H E f hr =>
      (ss_one (ss_if (st_not (st_val (se_call (F := F_is_scrap) (ps := ["value"]) (x := "is_scrap") (s := s_is_scrap) (DefC.mono (k := 3) (j := 3) (d_is_scrap h) (le_lv (by decide))) hr pass_0 (sa_cons (se_var (i := 0)) sa_nil)))) (ss_one ss_never) ss_nil)))
theorem sc__law_marked : FnScope N__law_marked ["told"] (defScope s__law_marked) := ⟨rfl, rfl, rfl, by decide +kernel, rfl, by decide +kernel, by decide +kernel⟩
theorem st__law_marked (h : Hy K mg) {k : Nat} (hk : 0 ≤ k) {F : F1} (dr : ∀ {P : Program} {w : World} {base : Heap}, DefC P w K mg base CX0 k s__law_marked "_law_marked" ["told"] F) : DefC P w K mg base CX0 (k + 1) s__law_marked "_law_marked" ["told"] (genF0 N__law_marked 1 (fb__law_marked F)) :=
  DefC.of0 h.f__law_marked sc__law_marked (fun _ _ _ _ _ _ us hl => match us, hl with | [_], _ => rfl) clean_gen0 nox_gen0 (fun cdv A outer sh H E f hr =>
      (ss_cons (ss_if (st_val (se_callB (c_isi) h.b_isinstance (sa_cons (se_var (i := 0)) (sa_cons (se_ty .list h.b_list) sa_nil)))) (ss_cons (ss_if (SW.st (sw_and (st_cmp (o_ne hr.units) (se_var (i := 0)) (se_lst sa_nil)) (sw_and1 (st_cmp (o_eq hr.units) (se_ix (Room.u1 hr) (se_var (i := 0)) (se_neg se_int)) (se_str (s := [109, 97, 114, 107, 101, 100])))))) (ss_one (ss_ret se_bl)) ss_nil)
      (ss_cons (ss_setLc false (i := 1) (own := [("item", 2)]) rfl sc__law_marked.nd (si_list (se_var (i := 0))) (blkOk (show blkB N__law_marked (defScope s__law_marked) _ _ = true by decide +kernel)) (fun _ _ _ _ _ => (sv_name (i := 2) sc__law_marked.nd)) (fun _ _ _ _ _ => sp_nil) (fun _ _ _ _ _ => (se_call (F := F) (ps := ["told"]) (x := "_law_marked") (s := s__law_marked) (DefC.mono (k := k) (j := k) dr (Nat.le_refl _)) hr pass_0 (sa_cons (se_var (i := 2)) sa_nil))))
      (ss_cons (ss_expr (se_bm .list m_append pl_list sl_list_append rfl (se_var (i := 0)) (sa_cons (se_str (s := [109, 97, 114, 107, 101, 100])) sa_nil)))
      (ss_one (ss_ret (se_cmp (o_notIn (Room.u65 hr)) se_bl (se_var (i := 1)))))))) ss_nil)
      (ss_cons (ss_if (st_val (se_callB (c_isi) h.b_isinstance (sa_cons (se_var (i := 0)) (sa_cons (se_ty .tuple h.b_tuple) sa_nil)))) (ss_one (ss_ret (se_cmp (o_notIn (Room.u65 hr)) se_bl (se_lc false  (own := [("item", 2)]) rfl sc__law_marked.nd (si_list (se_var (i := 0))) (blkOk (show blkB N__law_marked (defScope s__law_marked) _ _ = true by decide +kernel)) (fun _ _ _ _ _ => (sv_name (i := 2) sc__law_marked.nd)) (fun _ _ _ _ _ => sp_nil) (fun _ _ _ _ _ => (se_call (F := F) (ps := ["told"]) (x := "_law_marked") (s := s__law_marked) (DefC.mono (k := k) (j := k) dr (Nat.le_refl _)) hr pass_0 (sa_cons (se_var (i := 2)) sa_nil))))))) ss_nil)
      (ss_one (ss_ret (se_or (se_cmp o_is (se_var (i := 0)) se_non) (se_one (se_callB (c_isi) h.b_isinstance (sa_cons (se_var (i := 0)) (sa_cons (se_tup (sa_cons (se_ty .int h.b_int) (sa_cons (se_ty .str h.b_str) sa_nil))) sa_nil))))))))))
theorem dn__law_marked (h : Hy K mg) : ∀ (n : Nat) {P : Program} {w : World} {base : Heap}, DefC P w K mg base CX0 (n + 0) s__law_marked "_law_marked" ["told"] (F__law_marked n) := by
  intro n
  induction n with
  | zero => intro P w base; exact DefC.nil h.f__law_marked (fun _ _ _ _ _ _ us hl => match us, hl with | [_], _ => rfl)
  | succ n ih =>
    intro P w base
    have e : n + 1 + 0 = n + 0 + 1 := by omega
    rw [e]
    exact st__law_marked h (Nat.le_add_left _ _) ih
theorem d__law_marked (h : Hy K mg) : DefC P w K mg base CX0 4 s__law_marked "_law_marked" ["told"] (F__law_marked 4) := dn__law_marked h 4
theorem sc__law_scrap : FnScope N__law_scrap ["generator", "signs", "most"] (defScope s__law_scrap) := ⟨rfl, rfl, rfl, by decide +kernel, rfl, by decide +kernel, by decide +kernel⟩
theorem d__law_scrap (h : Hy K mg) : DefC P w K mg base CX0 4 s__law_scrap "_law_scrap" ["generator", "signs", "most"] F__law_scrap :=
  DefC.of0 h.f__law_scrap sc__law_scrap (fun _ _ _ _ _ _ us hl => match us, hl with | [_, _, _], _ => rfl) clean_gen0 nox_gen0 (fun cdv A outer sh H E f hr =>
      (ss_one (ss_ret (se_bm .str m_join pl_str sl_str_join rfl (se_str (s := [])) (sa_cons (se_lc false  (own := [("at", 3)]) rfl sc__law_scrap.nd (si_range1 h.b_range (se_bin o_add se_int (se_call (F := F__law_random) (ps := ["generator", "bound"]) (x := "_law_random") (s := s__law_random) (DefC.mono (k := 2) (j := 3) (d__law_random h) (le_lv (by decide))) hr pass_0 (sa_cons (se_var (i := 0)) (sa_cons (se_var (i := 2)) sa_nil))))) (blkOk (show blkB N__law_scrap (defScope s__law_scrap) _ _ = true by decide +kernel)) (fun _ _ _ _ _ => (sv_name (i := 3) sc__law_scrap.nd)) (fun _ _ _ _ _ => sp_nil) (fun _ _ _ _ _ => (se_call (F := F__law_pick) (ps := ["generator", "things"]) (x := "_law_pick") (s := s__law_pick) (DefC.mono (k := 3) (j := 3) (d__law_pick h) (le_lv (by decide))) hr pass_0 (sa_cons (se_var (i := 0)) (sa_cons (se_callTy (c_list rfl) h.b_list (sa_cons (se_var (i := 1)) sa_nil)) sa_nil))))) sa_nil)))))
theorem sc_ring_turned : FnScope N_ring_turned ["scrap", "many"] (defScope s_ring_turned) := ⟨rfl, rfl, rfl, by decide +kernel, rfl, by decide +kernel, by decide +kernel⟩
theorem d_ring_turned (h : Hy K mg) : DefC P w K mg base CX0 5 s_ring_turned "ring_turned" ["scrap", "many"] F_ring_turned :=
  DefC.of0 h.f_ring_turned sc_ring_turned (fun _ _ _ _ _ _ us hl => match us, hl with | [_, _], _ => rfl) clean_gen0 nox_gen0 (fun cdv A outer sh H E f hr =>
      (ss_cons (ss_expr (se_call (F := F_check_scrap) (ps := ["scrap"]) (x := "check_scrap") (s := s_check_scrap) (DefC.mono (k := 4) (j := 4) (d_check_scrap h) (le_lv (by decide))) hr pass_0 (sa_cons (se_var (i := 0)) sa_nil)))
      (ss_cons (ss_expr (se_call (F := F_check_number) (ps := ["value"]) (x := "check_number") (s := s_check_number) (DefC.mono (k := 3) (j := 4) (d_check_number h) (le_lv (by decide))) hr pass_0 (sa_cons (se_var (i := 1)) sa_nil)))
      (ss_one (ss_ret (se_call (F := F_turned_by) (ps := ["scrap", "many"]) (x := "turned_by") (s := s_turned_by) (DefC.mono (k := 1) (j := 4) (d_turned_by h) (le_lv (by decide))) hr pass_0 (sa_cons (se_var (i := 0)) (sa_cons (se_var (i := 1)) sa_nil))))))))
theorem sc_ring_turnings : FnScope N_ring_turnings ["scrap"] (defScope s_ring_turnings) := ⟨rfl, rfl, rfl, by decide +kernel, rfl, by decide +kernel, by decide +kernel⟩
theorem d_ring_turnings (h : Hy K mg) : DefC P w K mg base CX0 5 s_ring_turnings "ring_turnings" ["scrap"] F_ring_turnings :=
  DefC.of0 h.f_ring_turnings sc_ring_turnings (fun _ _ _ _ _ _ us hl => match us, hl with | [_], _ => rfl) clean_gen0 nox_gen0 (fun cdv A outer sh H E f hr =>
      (ss_cons (ss_expr (se_call (F := F_check_scrap) (ps := ["scrap"]) (x := "check_scrap") (s := s_check_scrap) (DefC.mono (k := 4) (j := 4) (d_check_scrap h) (le_lv (by decide))) hr pass_0 (sa_cons (se_var (i := 0)) sa_nil)))
      (ss_one (ss_ret (se_call (F := F_all_turnings) (ps := ["scrap"]) (x := "all_turnings") (s := s_all_turnings) (DefC.mono (k := 3) (j := 4) (d_all_turnings h) (le_lv (by decide))) hr pass_0 (sa_cons (se_var (i := 0)) sa_nil))))))
theorem sc_least_turning : FnScope N_least_turning ["scrap"] (defScope s_least_turning) := ⟨rfl, rfl, rfl, by decide +kernel, rfl, by decide +kernel, by decide +kernel⟩
theorem d_least_turning (h : Hy K mg) : DefC P w K mg base CX0 5 s_least_turning "least_turning" ["scrap"] F_least_turning :=
  DefC.of0 h.f_least_turning sc_least_turning (fun _ _ _ _ _ _ us hl => match us, hl with | [_], _ => rfl) clean_gen0 nox_gen0 (fun cdv A outer sh H E f hr =>
      (ss_cons (ss_expr (se_call (F := F_check_scrap) (ps := ["scrap"]) (x := "check_scrap") (s := s_check_scrap) (DefC.mono (k := 4) (j := 4) (d_check_scrap h) (le_lv (by decide))) hr pass_0 (sa_cons (se_var (i := 0)) sa_nil)))
      (ss_one (ss_ret (se_ix (Room.u1 hr) (se_call (F := F_all_turnings) (ps := ["scrap"]) (x := "all_turnings") (s := s_all_turnings) (DefC.mono (k := 3) (j := 4) (d_all_turnings h) (le_lv (by decide))) hr pass_0 (sa_cons (se_var (i := 0)) sa_nil)) se_int)))))
theorem sc_turns_to : FnScope N_turns_to ["one", "other"] (defScope s_turns_to) := ⟨rfl, rfl, rfl, by decide +kernel, rfl, by decide +kernel, by decide +kernel⟩
theorem d_turns_to (h : Hy K mg) : DefC P w K mg base CX0 5 s_turns_to "turns_to" ["one", "other"] F_turns_to :=
  DefC.of0 h.f_turns_to sc_turns_to (fun _ _ _ _ _ _ us hl => match us, hl with | [_, _], _ => rfl) clean_gen0 nox_gen0 (fun cdv A outer sh H E f hr =>
      (ss_cons (ss_expr (se_call (F := F_check_scrap) (ps := ["scrap"]) (x := "check_scrap") (s := s_check_scrap) (DefC.mono (k := 4) (j := 4) (d_check_scrap h) (le_lv (by decide))) hr pass_0 (sa_cons (se_var (i := 0)) sa_nil)))
      (ss_cons (ss_expr (se_call (F := F_check_scrap) (ps := ["scrap"]) (x := "check_scrap") (s := s_check_scrap) (DefC.mono (k := 4) (j := 4) (d_check_scrap h) (le_lv (by decide))) hr pass_0 (sa_cons (se_var (i := 1)) sa_nil)))
      (ss_cons (ss_setLc false (i := 2) (own := [("many", 3)]) rfl sc_turns_to.nd (si_range1 h.b_range (se_callB (c_len) h.b_len (sa_cons (se_var (i := 0)) sa_nil))) (blkOk (show blkB N_turns_to (defScope s_turns_to) _ _ = true by decide +kernel)) (fun _ _ _ _ _ => (sv_name (i := 3) sc_turns_to.nd)) (fun _ _ _ _ _ => (sp_one (st_cmp (o_eq hr.units) (se_call (F := F_turned_by) (ps := ["scrap", "many"]) (x := "turned_by") (s := s_turned_by) (DefC.mono (k := 1) (j := 4) (d_turned_by h) (le_lv (by decide))) hr pass_0 (sa_cons (se_var (i := 0)) (sa_cons (se_var (i := 3)) sa_nil))) (se_var (i := 1))))) (fun _ _ _ _ _ => (se_var (i := 3))))
      (ss_one (ss_ret (se_ifExp (st_cmp (o_ne hr.units) (se_var (i := 2)) (se_lst sa_nil)) (se_ix (Room.u1 hr) (se_var (i := 2)) se_int) se_non)))))))
theorem sc_root_of : FnScope N_root_of ["scrap"] (defScope s_root_of) := ⟨rfl, rfl, rfl, by decide +kernel, rfl, by decide +kernel, by decide +kernel⟩
theorem d_root_of (h : Hy K mg) : DefC P w K mg base CX0 5 s_root_of "root_of" ["scrap"] F_root_of :=
  DefC.of0 h.f_root_of sc_root_of (fun _ _ _ _ _ _ us hl => match us, hl with | [_], _ => rfl) clean_gen0 nox_gen0 (fun cdv A outer sh H E f hr =>
      (ss_cons (ss_expr (se_call (F := F_check_scrap) (ps := ["scrap"]) (x := "check_scrap") (s := s_check_scrap) (DefC.mono (k := 4) (j := 4) (d_check_scrap h) (le_lv (by decide))) hr pass_0 (sa_cons (se_var (i := 0)) sa_nil)))
      (ss_one (ss_ret (se_cut (se_var (i := 0)) so_none (so_some (se_call (F := F_root_size) (ps := ["scrap"]) (x := "root_size") (s := s_root_size) (DefC.mono (k := 2) (j := 4) (d_root_size h) (le_lv (by decide))) hr pass_0 (sa_cons (se_var (i := 0)) sa_nil))))))))
theorem sc__law_exact : FnScope N__law_exact ["told", "due"] (defScope s__law_exact) := ⟨rfl, rfl, rfl, by decide +kernel, rfl, by decide +kernel, by decide +kernel⟩
theorem st__law_exact (h : Hy K mg) {k : Nat} (hk : 0 ≤ k) {F : F1} (dr : ∀ {P : Program} {w : World} {base : Heap}, DefC P w K mg base CX0 k s__law_exact "_law_exact" ["told", "due"] F) : DefC P w K mg base CX0 (k + 1) s__law_exact "_law_exact" ["told", "due"] (genF0 N__law_exact 2 (fb__law_exact F)) :=
  DefC.of0 h.f__law_exact sc__law_exact (fun _ _ _ _ _ _ us hl => match us, hl with | [_, _], _ => rfl) clean_gen0 nox_gen0 (fun cdv A outer sh H E f hr =>
      (ss_cons (ss_if (st_val (se_callB (c_isi) h.b_isinstance (sa_cons (se_var (i := 1)) (sa_cons (se_ty .list h.b_list) sa_nil)))) (ss_one (ss_ret (se_and (se_callB (c_isi) h.b_isinstance (sa_cons (se_var (i := 0)) (sa_cons (se_ty .list h.b_list) sa_nil))) (se_and (se_cmp (o_eq hr.units) (se_callB (c_len) h.b_len (sa_cons (se_var (i := 0)) sa_nil)) (se_callB (c_len) h.b_len (sa_cons (se_var (i := 1)) sa_nil))) (se_one (se_cmp (o_notIn (Room.u65 hr)) se_bl (se_lc false  (own := [("one", 2), ("other", 3)]) rfl sc__law_exact.nd (si_zip h.b_zip (sa_cons (se_var (i := 0)) (sa_cons (se_var (i := 1)) sa_nil))) (blkOk (show blkB N__law_exact (defScope s__law_exact) _ _ = true by decide +kernel)) (fun _ _ _ _ _ => (sv_tup (n := 2) rfl (svs_cons (sv_name (i := 2) sc__law_exact.nd) (svs_cons (sv_name (i := 3) sc__law_exact.nd) svs_nil)))) (fun _ _ _ _ _ => sp_nil) (fun _ _ _ _ _ => (se_call (F := F) (ps := ["told", "due"]) (x := "_law_exact") (s := s__law_exact) (DefC.mono (k := k) (j := k) dr (Nat.le_refl _)) hr pass_0 (sa_cons (se_var (i := 2)) (sa_cons (se_var (i := 3)) sa_nil))))))))))) ss_nil)
      (ss_cons (ss_if (st_val (se_callB (c_isi) h.b_isinstance (sa_cons (se_var (i := 1)) (sa_cons (se_ty .tuple h.b_tuple) sa_nil)))) (ss_one (ss_ret (se_and (se_callB (c_isi) h.b_isinstance (sa_cons (se_var (i := 0)) (sa_cons (se_ty .tuple h.b_tuple) sa_nil))) (se_and (se_cmp (o_eq hr.units) (se_callB (c_len) h.b_len (sa_cons (se_var (i := 0)) sa_nil)) (se_callB (c_len) h.b_len (sa_cons (se_var (i := 1)) sa_nil))) (se_one (se_cmp (o_notIn (Room.u65 hr)) se_bl (se_lc false  (own := [("one", 2), ("other", 3)]) rfl sc__law_exact.nd (si_zip h.b_zip (sa_cons (se_var (i := 0)) (sa_cons (se_var (i := 1)) sa_nil))) (blkOk (show blkB N__law_exact (defScope s__law_exact) _ _ = true by decide +kernel)) (fun _ _ _ _ _ => (sv_tup (n := 2) rfl (svs_cons (sv_name (i := 2) sc__law_exact.nd) (svs_cons (sv_name (i := 3) sc__law_exact.nd) svs_nil)))) (fun _ _ _ _ _ => sp_nil) (fun _ _ _ _ _ => (se_call (F := F) (ps := ["told", "due"]) (x := "_law_exact") (s := s__law_exact) (DefC.mono (k := k) (j := k) dr (Nat.le_refl _)) hr pass_0 (sa_cons (se_var (i := 2)) (sa_cons (se_var (i := 3)) sa_nil))))))))))) ss_nil)
      (ss_cons (ss_if (st_cmp o_is (se_var (i := 1)) se_non) (ss_one (ss_ret (se_cmp o_is (se_var (i := 0)) se_non))) ss_nil)
      (ss_cons (ss_if (st_cmp o_is (se_var (i := 1)) se_bl) (ss_one (ss_ret (se_cmp o_is (se_var (i := 0)) se_bl))) ss_nil)
      (ss_cons (ss_if (st_cmp o_is (se_var (i := 1)) se_bl) (ss_one (ss_ret (se_cmp o_is (se_var (i := 0)) se_bl))) ss_nil)
      (ss_cons (ss_if (st_val (se_callB (c_isi) h.b_isinstance (sa_cons (se_var (i := 1)) (sa_cons (se_ty .int h.b_int) sa_nil)))) (ss_one (ss_ret (se_and (se_callB (c_isi) h.b_isinstance (sa_cons (se_var (i := 0)) (sa_cons (se_ty .int h.b_int) sa_nil))) (se_and (se_not (se_callB (c_isi) h.b_isinstance (sa_cons (se_var (i := 0)) (sa_cons (se_ty .bool h.b_bool) sa_nil)))) (se_one (se_cmp (o_eq hr.units) (se_var (i := 0)) (se_var (i := 1)))))))) ss_nil)
      (ss_one (ss_ret (se_and (se_callB (c_isi) h.b_isinstance (sa_cons (se_var (i := 0)) (sa_cons (se_ty .str h.b_str) sa_nil))) (se_one (se_cmp (o_eq hr.units) (se_var (i := 0)) (se_var (i := 1))))))))))))))
theorem dn__law_exact (h : Hy K mg) : ∀ (n : Nat) {P : Program} {w : World} {base : Heap}, DefC P w K mg base CX0 (n + 0) s__law_exact "_law_exact" ["told", "due"] (F__law_exact n) := by
  intro n
  induction n with
  | zero => intro P w base; exact DefC.nil h.f__law_exact (fun _ _ _ _ _ _ us hl => match us, hl with | [_, _], _ => rfl)
  | succ n ih =>
    intro P w base
    have e : n + 1 + 0 = n + 0 + 1 := by omega
    rw [e]
    exact st__law_exact h (Nat.le_add_left _ _) ih
theorem d__law_exact (h : Hy K mg) : DefC P w K mg base CX0 8 s__law_exact "_law_exact" ["told", "due"] (F__law_exact 8) := dn__law_exact h 8
theorem sc__law_scrap_right : FnScope N__law_scrap_right ["generator", "scrap"] (defScope s__law_scrap_right) := ⟨rfl, rfl, rfl, by decide +kernel, rfl, by decide +kernel, by decide +kernel⟩
theorem d__law_scrap_right (h : Hy K mg) : DefC P w K mg base CX0 9 s__law_scrap_right "_law_scrap_right" ["generator", "scrap"] F__law_scrap_right :=
  DefC.of0 h.f__law_scrap_right sc__law_scrap_right (fun _ _ _ _ _ _ us hl => match us, hl with | [_, _], _ => rfl) clean_gen0 nox_gen0 (fun cdv A outer sh H E f hr =>
      (ss_cons (ss_asg (se_tup (sa_cons (se_call (F := F__law_turnings) (ps := ["scrap"]) (x := "_law_turnings") (s := s__law_turnings) (DefC.mono (k := 2) (j := 8) (d__law_turnings h) (le_lv (by decide))) hr pass_0 (sa_cons (se_var (i := 1)) sa_nil)) (sa_cons (se_callB (c_len) h.b_len (sa_cons (se_var (i := 1)) sa_nil)) sa_nil))) (sg_tup (n := 2) rfl (sgs_cons (sg_name (i := 5) sc__law_scrap_right.nd) (sgs_cons (sg_name (i := 6) sc__law_scrap_right.nd) sgs_nil))))
      (ss_cons (ss_setLc false (i := 2) (own := [("many", 4)]) rfl sc__law_scrap_right.nd (si_range2 h.b_range se_int (se_bin o_add (se_var (i := 6)) se_int)) (blkOk (show blkB N__law_scrap_right (defScope s__law_scrap_right) _ _ = true by decide +kernel)) (fun _ _ _ _ _ => (sv_name (i := 4) sc__law_scrap_right.nd)) (fun _ _ _ _ _ => (sp_one (SW.st (sw_and (st_cmp (o_eq hr.units) (se_bin o_mod (se_var (i := 6)) (se_var (i := 4))) se_int) (sw_and1 (st_cmp (o_eq hr.units) (se_bin o_mul (se_cut (se_var (i := 1)) so_none (so_some (se_var (i := 4)))) (se_bin o_div (se_var (i := 6)) (se_var (i := 4)))) (se_var (i := 1)))))))) (fun _ _ _ _ _ => (se_cut (se_var (i := 1)) so_none (so_some (se_var (i := 4))))))
      (ss_cons (ss_set (i := 3) sc__law_scrap_right.nd (se_lst (sa_cons (se_call (F := F_ring_turnings) (ps := ["scrap"]) (x := "ring_turnings") (s := s_ring_turnings) (DefC.mono (k := 5) (j := 8) (d_ring_turnings h) (le_lv (by decide))) hr pass_0 (sa_cons (se_var (i := 1)) sa_nil)) (sa_cons (se_call (F := F_least_turning) (ps := ["scrap"]) (x := "least_turning") (s := s_least_turning) (DefC.mono (k := 5) (j := 8) (d_least_turning h) (le_lv (by decide))) hr pass_0 (sa_cons (se_var (i := 1)) sa_nil)) (sa_cons (se_call (F := F_root_of) (ps := ["scrap"]) (x := "root_of") (s := s_root_of) (DefC.mono (k := 5) (j := 8) (d_root_of h) (le_lv (by decide))) hr pass_0 (sa_cons (se_var (i := 1)) sa_nil)) sa_nil)))))
      (ss_cons (ss_if (SW.st (sw_or (st_not (st_val (se_call (F := (F__law_exact 8)) (ps := ["told", "due"]) (x := "_law_exact") (s := s__law_exact) (DefC.mono (k := 8) (j := 8) (d__law_exact h) (le_lv (by decide))) hr pass_0 (sa_cons (se_var (i := 3)) (sa_cons (se_lst (sa_cons (se_var (i := 5)) (sa_cons (se_ix (Room.u1 hr) (se_var (i := 5)) se_int) (sa_cons (se_ix (Room.u1 hr) (se_var (i := 2)) se_int) sa_nil)))) sa_nil))))) (sw_or (st_not (st_val (se_call (F := (F__law_marked 4)) (ps := ["told"]) (x := "_law_marked") (s := s__law_marked) (DefC.mono (k := 4) (j := 8) (d__law_marked h) (le_lv (by decide))) hr pass_0 (sa_cons (se_ix (Room.u1 hr) (se_var (i := 3)) se_int) sa_nil)))) (sw_or1 (st_cmp (o_ne hr.units) (se_callB (c_len) h.b_len (sa_cons (se_var (i := 5)) sa_nil)) (se_callB (c_len) h.b_len (sa_cons (se_ix (Room.u1 hr) (se_var (i := 2)) se_int) sa_nil))))))) (ss_one (ss_ret se_bl)) ss_nil)
      (ss_cons (ss_if (st_not (st_val (se_call (F := (F__law_exact 8)) (ps := ["told", "due"]) (x := "_law_exact") (s := s__law_exact) (DefC.mono (k := 8) (j := 8) (d__law_exact h) (le_lv (by decide))) hr pass_0 (sa_cons (se_lst (sa_cons (se_callK [0] (F := F_ring_turnings) (ps := ["scrap"]) (x := "ring_turnings") (s := s_ring_turnings) (ks := ["scrap"]) (DefC.mono (k := 5) (j := 8) (d_ring_turnings h) (le_lv (by decide))) hr pass0 (sk_cons (se_var (i := 1)) sk_nil) (fun _ _ _ _ _ _ us hl => match us, hl with | [_], _ => rfl)) (sa_cons (se_callK [0] (F := F_least_turning) (ps := ["scrap"]) (x := "least_turning") (s := s_least_turning) (ks := ["scrap"]) (DefC.mono (k := 5) (j := 8) (d_least_turning h) (le_lv (by decide))) hr pass0 (sk_cons (se_var (i := 1)) sk_nil) (fun _ _ _ _ _ _ us hl => match us, hl with | [_], _ => rfl)) (sa_cons (se_callK [0] (F := F_root_of) (ps := ["scrap"]) (x := "root_of") (s := s_root_of) (ks := ["scrap"]) (DefC.mono (k := 5) (j := 8) (d_root_of h) (le_lv (by decide))) hr pass0 (sk_cons (se_var (i := 1)) sk_nil) (fun _ _ _ _ _ _ us hl => match us, hl with | [_], _ => rfl)) sa_nil)))) (sa_cons (se_lst (sa_cons (se_var (i := 5)) (sa_cons (se_ix (Room.u1 hr) (se_var (i := 5)) se_int) (sa_cons (se_ix (Room.u1 hr) (se_var (i := 2)) se_int) sa_nil)))) sa_nil))))) (ss_one (ss_ret se_bl)) ss_nil)
      (ss_cons (ss_for PassesOwn.never rfl (si_list (se_lst (sa_cons se_int (sa_cons se_int (sa_cons (se_var (i := 6)) (sa_cons (se_bin o_add (se_var (i := 6)) se_int) (sa_cons (se_call (F := F__law_random) (ps := ["generator", "bound"]) (x := "_law_random") (s := s__law_random) (DefC.mono (k := 2) (j := 8) (d__law_random h) (le_lv (by decide))) hr pass_0 (sa_cons (se_var (i := 0)) (sa_cons (se_bin o_pow se_int se_int) sa_nil))) sa_nil))))))) (sg_name (i := 4) sc__law_scrap_right.nd) (ss_cons (ss_set (i := 7) sc__law_scrap_right.nd (se_call (F := F__law_turning) (ps := ["scrap", "many"]) (x := "_law_turning") (s := s__law_turning) (DefC.mono (k := 1) (j := 8) (d__law_turning h) (le_lv (by decide))) hr pass_0 (sa_cons (se_var (i := 1)) (sa_cons (se_bin o_mod (se_var (i := 4)) (se_var (i := 6))) sa_nil))))
      (ss_one (ss_if (st_not (st_val (se_call (F := (F__law_exact 8)) (ps := ["told", "due"]) (x := "_law_exact") (s := s__law_exact) (DefC.mono (k := 8) (j := 8) (d__law_exact h) (le_lv (by decide))) hr pass_0 (sa_cons (se_lst (sa_cons (se_call (F := F_ring_turned) (ps := ["scrap", "many"]) (x := "ring_turned") (s := s_ring_turned) (DefC.mono (k := 5) (j := 8) (d_ring_turned h) (le_lv (by decide))) hr pass_0 (sa_cons (se_var (i := 1)) (sa_cons (se_var (i := 4)) sa_nil))) (sa_cons (se_callK [1, 0] (F := F_ring_turned) (ps := ["scrap", "many"]) (x := "ring_turned") (s := s_ring_turned) (ks := ["many", "scrap"]) (DefC.mono (k := 5) (j := 8) (d_ring_turned h) (le_lv (by decide))) hr pass0 (sk_cons (se_var (i := 4)) (sk_cons (se_var (i := 1)) sk_nil)) (fun _ _ _ _ _ _ us hl => match us, hl with | [_, _], _ => rfl)) sa_nil))) (sa_cons (se_lst (sa_cons (se_var (i := 7)) (sa_cons (se_var (i := 7)) sa_nil))) sa_nil))))) (ss_one (ss_ret se_bl)) ss_nil))))
      (ss_one (ss_ret se_bl)))))))))
theorem sc__law_pair_right : FnScope N__law_pair_right ["generator"] (defScope s__law_pair_right) := ⟨rfl, rfl, rfl, by decide +kernel, rfl, by decide +kernel, by decide +kernel⟩
theorem d__law_pair_right (h : Hy K mg) : DefC P w K mg base CX0 10 s__law_pair_right "_law_pair_right" ["generator"] F__law_pair_right :=
  DefC.of0 h.f__law_pair_right sc__law_pair_right (fun _ _ _ _ _ _ us hl => match us, hl with | [_], _ => rfl) clean_gen0 nox_gen0 (fun cdv A outer sh H E f hr =>
      (ss_cons (ss_set (i := 1) sc__law_pair_right.nd (se_call (F := F__law_pick) (ps := ["generator", "things"]) (x := "_law_pick") (s := s__law_pick) (DefC.mono (k := 3) (j := 9) (d__law_pick h) (le_lv (by decide))) hr pass_0 (sa_cons (se_var (i := 0)) (sa_cons (se_lst (sa_cons (se_str (s := [97])) (sa_cons (se_str (s := [97, 98])) (sa_cons (se_str (s := [97, 98, 99])) (sa_cons (se_str (s := [120, 121, 122])) sa_nil))))) sa_nil))))
      (ss_cons (ss_set (i := 2) sc__law_pair_right.nd (se_bin o_mul (se_call (F := F__law_scrap) (ps := ["generator", "signs", "most"]) (x := "_law_scrap") (s := s__law_scrap) (DefC.mono (k := 4) (j := 9) (d__law_scrap h) (le_lv (by decide))) hr pass_0 (sa_cons (se_var (i := 0)) (sa_cons (se_var (i := 1)) (sa_cons se_int sa_nil)))) (se_bin o_add se_int (se_call (F := F__law_random) (ps := ["generator", "bound"]) (x := "_law_random") (s := s__law_random) (DefC.mono (k := 2) (j := 9) (d__law_random h) (le_lv (by decide))) hr pass_0 (sa_cons (se_var (i := 0)) (sa_cons se_int sa_nil))))))
      (ss_cons (ss_set (i := 3) sc__law_pair_right.nd (se_call (F := F__law_pick) (ps := ["generator", "things"]) (x := "_law_pick") (s := s__law_pick) (DefC.mono (k := 3) (j := 9) (d__law_pick h) (le_lv (by decide))) hr pass_0 (sa_cons (se_var (i := 0)) (sa_cons (se_lst (sa_cons (se_call (F := F__law_turning) (ps := ["scrap", "many"]) (x := "_law_turning") (s := s__law_turning) (DefC.mono (k := 1) (j := 9) (d__law_turning h) (le_lv (by decide))) hr pass_0 (sa_cons (se_var (i := 2)) (sa_cons (se_call (F := F__law_random) (ps := ["generator", "bound"]) (x := "_law_random") (s := s__law_random) (DefC.mono (k := 2) (j := 9) (d__law_random h) (le_lv (by decide))) hr pass_0 (sa_cons (se_var (i := 0)) (sa_cons (se_callB (c_len) h.b_len (sa_cons (se_var (i := 2)) sa_nil)) sa_nil))) sa_nil))) (sa_cons (se_call (F := F__law_scrap) (ps := ["generator", "signs", "most"]) (x := "_law_scrap") (s := s__law_scrap) (DefC.mono (k := 4) (j := 9) (d__law_scrap h) (le_lv (by decide))) hr pass_0 (sa_cons (se_var (i := 0)) (sa_cons (se_var (i := 1)) (sa_cons se_int sa_nil)))) (sa_cons (se_rev (se_var (i := 2))) sa_nil)))) sa_nil))))
      (ss_cons (ss_setLc false (i := 4) (own := [("many", 6)]) rfl sc__law_pair_right.nd (si_range1 h.b_range (se_callB (c_len) h.b_len (sa_cons (se_var (i := 2)) sa_nil))) (blkOk (show blkB N__law_pair_right (defScope s__law_pair_right) _ _ = true by decide +kernel)) (fun _ _ _ _ _ => (sv_name (i := 6) sc__law_pair_right.nd)) (fun _ _ _ _ _ => (sp_one (st_cmp (o_eq hr.units) (se_call (F := F__law_turning) (ps := ["scrap", "many"]) (x := "_law_turning") (s := s__law_turning) (DefC.mono (k := 1) (j := 9) (d__law_turning h) (le_lv (by decide))) hr pass_0 (sa_cons (se_var (i := 2)) (sa_cons (se_var (i := 6)) sa_nil))) (se_var (i := 3))))) (fun _ _ _ _ _ => (se_var (i := 6))))
      (ss_cons (ss_set (i := 5) sc__law_pair_right.nd (se_ifExp (st_cmp (o_ne hr.units) (se_var (i := 4)) (se_lst sa_nil)) (se_ix (Room.u1 hr) (se_var (i := 4)) se_int) se_non))
      (ss_cons (ss_if (st_not (st_val (se_call (F := (F__law_exact 8)) (ps := ["told", "due"]) (x := "_law_exact") (s := s__law_exact) (DefC.mono (k := 8) (j := 9) (d__law_exact h) (le_lv (by decide))) hr pass_0 (sa_cons (se_lst (sa_cons (se_call (F := F_turns_to) (ps := ["one", "other"]) (x := "turns_to") (s := s_turns_to) (DefC.mono (k := 5) (j := 9) (d_turns_to h) (le_lv (by decide))) hr pass_0 (sa_cons (se_var (i := 2)) (sa_cons (se_var (i := 3)) sa_nil))) (sa_cons (se_callK [1, 0] (F := F_turns_to) (ps := ["one", "other"]) (x := "turns_to") (s := s_turns_to) (ks := ["other", "one"]) (DefC.mono (k := 5) (j := 9) (d_turns_to h) (le_lv (by decide))) hr pass0 (sk_cons (se_var (i := 3)) (sk_cons (se_var (i := 2)) sk_nil)) (fun _ _ _ _ _ _ us hl => match us, hl with | [_, _], _ => rfl)) sa_nil))) (sa_cons (se_lst (sa_cons (se_var (i := 5)) (sa_cons (se_var (i := 5)) sa_nil))) sa_nil))))) (ss_one (ss_ret se_bl)) ss_nil)
      (ss_cons (ss_if (st_cmp (o_ne hr.units) (se_cmp (o_eq hr.units) (se_call (F := F_least_turning) (ps := ["scrap"]) (x := "least_turning") (s := s_least_turning) (DefC.mono (k := 5) (j := 9) (d_least_turning h) (le_lv (by decide))) hr pass_0 (sa_cons (se_var (i := 2)) sa_nil)) (se_call (F := F_least_turning) (ps := ["scrap"]) (x := "least_turning") (s := s_least_turning) (DefC.mono (k := 5) (j := 9) (d_least_turning h) (le_lv (by decide))) hr pass_0 (sa_cons (se_var (i := 3)) sa_nil))) (se_cmp o_isNot (se_var (i := 5)) se_non)) (ss_one (ss_ret se_bl)) ss_nil)
      (ss_one (ss_ret (se_and (se_call (F := F__law_scrap_right) (ps := ["generator", "scrap"]) (x := "_law_scrap_right") (s := s__law_scrap_right) (DefC.mono (k := 9) (j := 9) (d__law_scrap_right h) (le_lv (by decide))) hr pass_0 (sa_cons (se_var (i := 0)) (sa_cons (se_var (i := 2)) sa_nil))) (se_one (se_call (F := F__law_scrap_right) (ps := ["generator", "scrap"]) (x := "_law_scrap_right") (s := s__law_scrap_right) (DefC.mono (k := 9) (j := 9) (d__law_scrap_right h) (le_lv (by decide))) hr pass_0 (sa_cons (se_var (i := 0)) (sa_cons (se_var (i := 3)) sa_nil)))))))))))))))
theorem sc_law : FnScope N_law ["script"] (defScope s_law) := ⟨rfl, rfl, rfl, by decide +kernel, rfl, by decide +kernel, by decide +kernel⟩
theorem d_law (h : Hy K mg) : DefC P w K mg base CX0 11 s_law "law" ["script"] F_law :=
  DefC.of0 h.f_law sc_law (fun _ _ _ _ _ _ us hl => match us, hl with | [_], _ => rfl) clean_gen0 nox_gen0 (fun cdv A outer sh H E f hr =>
      (ss_cons (ss_for PassesOwn.never rfl (si_range1 h.b_range se_int) (sg_name (i := 1) sc_law.nd) (ss_cons (ss_set (i := 2) sc_law.nd (se_call (F := F__law_generator) (ps := ["script", "index"]) (x := "_law_generator") (s := s__law_generator) (DefC.mono (k := 2) (j := 10) (d__law_generator h) (le_lv (by decide))) hr pass_0 (sa_cons (se_var (i := 0)) (sa_cons (se_var (i := 1)) sa_nil))))
      (ss_one (ss_if (SW.st (sw_or (st_not (st_val (se_call (F := F__law_pair_right) (ps := ["generator"]) (x := "_law_pair_right") (s := s__law_pair_right) (DefC.mono (k := 10) (j := 10) (d__law_pair_right h) (le_lv (by decide))) hr pass_0 (sa_cons (se_var (i := 2)) sa_nil)))) (sw_or (st_not (st_val (se_call (F := F__law_pair_right) (ps := ["generator"]) (x := "_law_pair_right") (s := s__law_pair_right) (DefC.mono (k := 10) (j := 10) (d__law_pair_right h) (le_lv (by decide))) hr pass_0 (sa_cons (se_var (i := 2)) sa_nil)))) (sw_or1 (st_not (st_val (se_call (F := F__law_scrap_right) (ps := ["generator", "scrap"]) (x := "_law_scrap_right") (s := s__law_scrap_right) (DefC.mono (k := 9) (j := 10) (d__law_scrap_right h) (le_lv (by decide))) hr pass_0 (sa_cons (se_var (i := 2)) (sa_cons (se_call (F := F__law_scrap) (ps := ["generator", "signs", "most"]) (x := "_law_scrap") (s := s__law_scrap) (DefC.mono (k := 4) (j := 10) (d__law_scrap h) (le_lv (by decide))) hr pass_0 (sa_cons (se_var (i := 2)) (sa_cons (se_str (s := [97, 98])) (sa_cons se_int sa_nil)))) sa_nil))))))))) (ss_one (ss_ret se_bl)) ss_nil))))
      (ss_one (ss_ret se_bl))))
end
def dd_is_whole : He.DefD := ⟨("is_whole", none), "is_whole", "is_whole", defArgs s_is_whole, defBody s_is_whole, defScope s_is_whole, [], []⟩
def dd_is_count : He.DefD := ⟨("is_count", none), "is_count", "is_count", defArgs s_is_count, defBody s_is_count, defScope s_is_count, [], []⟩
def dd_is_signs : He.DefD := ⟨("is_signs", none), "is_signs", "is_signs", defArgs s_is_signs, defBody s_is_signs, defScope s_is_signs, [], []⟩
def dd_check_number : He.DefD := ⟨("check_number", none), "check_number", "check_number", defArgs s_check_number, defBody s_check_number, defScope s_check_number, [], []⟩
def dd_is_story : He.DefD := ⟨("is_story", none), "is_story", "is_story", defArgs s_is_story, defBody s_is_story, defScope s_is_story, [], []⟩
def dd_is_scrap : He.DefD := ⟨("is_scrap", none), "is_scrap", "is_scrap", defArgs s_is_scrap, defBody s_is_scrap, defScope s_is_scrap, [], []⟩
def dd_check_scrap : He.DefD := ⟨("check_scrap", none), "check_scrap", "check_scrap", defArgs s_check_scrap, defBody s_check_scrap, defScope s_check_scrap, [], []⟩
def dd_turned_by : He.DefD := ⟨("turned_by", none), "turned_by", "turned_by", defArgs s_turned_by, defBody s_turned_by, defScope s_turned_by, [], []⟩
def dd_ring_turned : He.DefD := ⟨("ring_turned", none), "ring_turned", "ring_turned", defArgs s_ring_turned, defBody s_ring_turned, defScope s_ring_turned, [], []⟩
def dd_root_size : He.DefD := ⟨("root_size", none), "root_size", "root_size", defArgs s_root_size, defBody s_root_size, defScope s_root_size, [], []⟩
def dd_all_turnings : He.DefD := ⟨("all_turnings", none), "all_turnings", "all_turnings", defArgs s_all_turnings, defBody s_all_turnings, defScope s_all_turnings, [], []⟩
def dd_ring_turnings : He.DefD := ⟨("ring_turnings", none), "ring_turnings", "ring_turnings", defArgs s_ring_turnings, defBody s_ring_turnings, defScope s_ring_turnings, [], []⟩
def dd_least_turning : He.DefD := ⟨("least_turning", none), "least_turning", "least_turning", defArgs s_least_turning, defBody s_least_turning, defScope s_least_turning, [], []⟩
def dd_turns_to : He.DefD := ⟨("turns_to", none), "turns_to", "turns_to", defArgs s_turns_to, defBody s_turns_to, defScope s_turns_to, [], []⟩
def dd_root_of : He.DefD := ⟨("root_of", none), "root_of", "root_of", defArgs s_root_of, defBody s_root_of, defScope s_root_of, [], []⟩
def dd__law_hash : He.DefD := ⟨("_law_hash", none), "_law_hash", "_law_hash", defArgs s__law_hash, defBody s__law_hash, defScope s__law_hash, [], []⟩
def dd__law_cell : He.DefD := ⟨("_law_cell", none), "_law_cell", "_law_cell", defArgs s__law_cell, defBody s__law_cell, defScope s__law_cell, [], []⟩
def dd__law_generator : He.DefD := ⟨("_law_generator", none), "_law_generator", "_law_generator", defArgs s__law_generator, defBody s__law_generator, defScope s__law_generator, [], []⟩
def dd__law_random : He.DefD := ⟨("_law_random", none), "_law_random", "_law_random", defArgs s__law_random, defBody s__law_random, defScope s__law_random, [], []⟩
def dd__law_pick : He.DefD := ⟨("_law_pick", none), "_law_pick", "_law_pick", defArgs s__law_pick, defBody s__law_pick, defScope s__law_pick, [], []⟩
def dd__law_marked : He.DefD := ⟨("_law_marked", none), "_law_marked", "_law_marked", defArgs s__law_marked, defBody s__law_marked, defScope s__law_marked, [], []⟩
def dd__law_exact : He.DefD := ⟨("_law_exact", none), "_law_exact", "_law_exact", defArgs s__law_exact, defBody s__law_exact, defScope s__law_exact, [], []⟩
def dd__law_unlike : He.DefD := ⟨("_law_unlike", none), "_law_unlike", "_law_unlike", defArgs s__law_unlike, defBody s__law_unlike, defScope s__law_unlike, [], []⟩
def dd__law_scrap : He.DefD := ⟨("_law_scrap", none), "_law_scrap", "_law_scrap", defArgs s__law_scrap, defBody s__law_scrap, defScope s__law_scrap, [], []⟩
def dd__law_turning : He.DefD := ⟨("_law_turning", none), "_law_turning", "_law_turning", defArgs s__law_turning, defBody s__law_turning, defScope s__law_turning, [], []⟩
def dd__law_turnings : He.DefD := ⟨("_law_turnings", none), "_law_turnings", "_law_turnings", defArgs s__law_turnings, defBody s__law_turnings, defScope s__law_turnings, [], []⟩
def dd__law_scrap_right : He.DefD := ⟨("_law_scrap_right", none), "_law_scrap_right", "_law_scrap_right", defArgs s__law_scrap_right, defBody s__law_scrap_right, defScope s__law_scrap_right, [], []⟩
def dd__law_pair_right : He.DefD := ⟨("_law_pair_right", none), "_law_pair_right", "_law_pair_right", defArgs s__law_pair_right, defBody s__law_pair_right, defScope s__law_pair_right, [], []⟩
def dd_law : He.DefD := ⟨("law", none), "law", "law", defArgs s_law, defBody s_law, defScope s_law, [], []⟩
def fn : List He.DefD := [dd_is_whole, dd_is_count, dd_is_signs, dd_check_number, dd_is_story, dd_is_scrap, dd_check_scrap, dd_turned_by, dd_ring_turned, dd_root_size, dd_all_turnings, dd_ring_turnings, dd_least_turning, dd_turns_to, dd_root_of, dd__law_hash, dd__law_cell, dd__law_generator, dd__law_random, dd__law_pick, dd__law_marked, dd__law_exact, dd__law_unlike, dd__law_scrap, dd__law_turning, dd__law_turnings, dd__law_scrap_right, dd__law_pair_right, dd_law]
def fa : List He.Fa := [.glo "is_whole", .glo "is_count", .glo "is_signs", .glo "check_number", .glo "is_story", .glo "is_scrap", .glo "check_scrap", .glo "turned_by", .glo "ring_turned", .glo "root_size", .glo "all_turnings", .glo "ring_turnings", .glo "least_turning", .glo "turns_to", .glo "root_of", .glo "_law_hash", .glo "_law_cell", .glo "_law_generator", .glo "_law_random", .glo "_law_pick", .glo "_law_marked", .glo "_law_exact", .glo "_law_unlike", .glo "_law_scrap", .glo "_law_turning", .glo "_law_turnings", .glo "_law_scrap_right", .glo "_law_pair_right", .glo "law", .free "bool", .free "int", .free "isinstance", .free "len", .free "list", .free "max", .free "range", .free "sorted", .free "str", .free "sum", .free "tuple", .free "zip", .str "SMALL" (sv [97, 98, 99, 100, 101, 102, 103, 104, 105, 106, 107, 108, 109, 110, 111, 112, 113, 114, 115, 116, 117, 118, 119, 120, 121, 122])]
abbrev loose0 : List Str := ["ScrapError", "InvalidNumber", "InvalidScrap", "SMALL", "is_whole", "is_count", "is_signs", "check_number", "is_story", "is_scrap", "check_scrap", "turned_by", "ring_turned", "root_size", "all_turnings", "ring_turnings", "least_turning", "turns_to", "root_of", "_law_hash", "_law_cell", "_law_generator", "_law_random", "_law_pick", "_law_marked", "_law_exact", "_law_unlike", "_law_scrap", "_law_turning", "_law_turnings", "_law_scrap_right", "_law_pair_right"]
abbrev loose : List Str := loose0
abbrev R : PySem.W.OpenRow := PySem.W.OpenLaw.row PySem.Challenge.rw_scrapstory_k87_whole_rings_and_turnings
abbrev hk : PySem.W.Hook := He.hookD 4 fa fn
def ob (s : PySem.W.SharedT) : He.AlD := He.obsDG 4 fa fn (HandSHeadRun.getT s)
theorem ob_eq (s : PySem.W.SharedT) : ob s = hk.obs s.abs := He.obsDG_eq (HandSHeadRun.getT_eq s)
theorem run (w : World) : HandSHeadRun.RunEq R (PySem.W.view R.prog [36]) hk ob 4000 loose w := by
  intro os
  kernel_rfl
theorem hasD {K : PySem.W.Frag} {h : Heap} {mg : Str → Option Value} {x : Str} {s : Stmt} (X : K.In h) (G : h.Ns mainGlobals mg) (c : He.SaysD fa fn K) (i j : Nat) (h1 : fa[i]? = some (.glo x)) (h2 : fn[j]? = some ⟨(x, none), x, x, defArgs s, defBody s, defScope s, [], []⟩) : HasD K mg x s := by
  obtain ⟨fd, F⟩ := c.def_ j h2
  exact ⟨_, fd, He.glo_ok X G (c.fact i h1), F⟩
theorem hy {K : PySem.W.Frag} {h : Heap} {mg : Str → Option Value} (X : K.In h) (G : h.Ns mainGlobals mg) (c : He.SaysD fa fn K) : Hy K mg :=
  ⟨He.free_ok X G (c.fact 29 (f := .free "bool") rfl),
   He.free_ok X G (c.fact 30 (f := .free "int") rfl),
   He.free_ok X G (c.fact 31 (f := .free "isinstance") rfl),
   He.free_ok X G (c.fact 32 (f := .free "len") rfl),
   He.free_ok X G (c.fact 33 (f := .free "list") rfl),
   He.free_ok X G (c.fact 34 (f := .free "max") rfl),
   He.free_ok X G (c.fact 35 (f := .free "range") rfl),
   He.free_ok X G (c.fact 36 (f := .free "sorted") rfl),
   He.free_ok X G (c.fact 37 (f := .free "str") rfl),
   He.free_ok X G (c.fact 38 (f := .free "sum") rfl),
   He.free_ok X G (c.fact 39 (f := .free "tuple") rfl),
   He.free_ok X G (c.fact 40 (f := .free "zip") rfl),
   He.str_ok X G (c.fact 41 rfl),
   hasD X G c 0 0 rfl rfl,
   hasD X G c 1 1 rfl rfl,
   hasD X G c 2 2 rfl rfl,
   hasD X G c 3 3 rfl rfl,
   hasD X G c 4 4 rfl rfl,
   hasD X G c 5 5 rfl rfl,
   hasD X G c 6 6 rfl rfl,
   hasD X G c 7 7 rfl rfl,
   hasD X G c 8 8 rfl rfl,
   hasD X G c 9 9 rfl rfl,
   hasD X G c 10 10 rfl rfl,
   hasD X G c 11 11 rfl rfl,
   hasD X G c 12 12 rfl rfl,
   hasD X G c 13 13 rfl rfl,
   hasD X G c 14 14 rfl rfl,
   hasD X G c 15 15 rfl rfl,
   hasD X G c 16 16 rfl rfl,
   hasD X G c 17 17 rfl rfl,
   hasD X G c 18 18 rfl rfl,
   hasD X G c 19 19 rfl rfl,
   hasD X G c 20 20 rfl rfl,
   hasD X G c 21 21 rfl rfl,
   hasD X G c 22 22 rfl rfl,
   hasD X G c 23 23 rfl rfl,
   hasD X G c 24 24 rfl rfl,
   hasD X G c 25 25 rfl rfl,
   hasD X G c 26 26 rfl rfl,
   hasD X G c 27 27 rfl rfl,
   hasD X G c 28 28 rfl rfl⟩
end Lk87

open PySem PySem.W PySem.Calls PyProof.Rows
theorem PySem.Challenge.cw_scrapstory_k87_whole_rings_and_turnings_holds : PySem.Challenge.rw_scrapstory_k87_whole_rings_and_turnings.Holds := by
  w_on; o_law
  refine HandSHeadRun.head_any (r := OpenLaw.row PySem.Challenge.rw_scrapstory_k87_whole_rings_and_turnings) (q := view (OpenLaw.row PySem.Challenge.rw_scrapstory_k87_whole_rings_and_turnings).prog [36]) (H := Lk87.hk) (ob := Lk87.ob) (M := 4000) (loose := Lk87.loose) (d := HandSHeadRun.topDef (OpenLaw.row PySem.Challenge.rw_scrapstory_k87_whole_rings_and_turnings).prog 36) (kwd := []) Lk87.ob_eq
    (by kernel_rfl) (fun s => by kernel_rfl) Lk87.run (by kernel_rfl) (by kernel_rfl) (by kernel_rfl) (by rfl) (by first | assumption | decide +kernel) (by decide +kernel) ⟨rfl, rfl, rfl, rfl, rfl, by decide +kernel⟩ ?hw ?hc
  case hw => w_witness2
  case hc =>
    refine L2.walk_ofE (l := PySem.Challenge.rw_scrapstory_k87_whole_rings_and_turnings) (n := 63) (k := 11) (x := "script") (CX := L2.CX0) rfl (by decide) (by kernel_rfl) ⟨rfl, by decide, by decide⟩ ?F (fun _ _ _ _ z => z)
    intro w mg fa h Y G hmg0
    obtain ⟨K, KX, c⟩ := Y
    have hmg : mg ("law" : PySem.Str) = some (.ref fa) := by
      have e : (HandSHeadRun.topDef (OpenLaw.row PySem.Challenge.rw_scrapstory_k87_whole_rings_and_turnings).prog 36).name = ("law" : PySem.Str) := by kernel_rfl
      rw [← e]
      exact hmg0
    have hy := Lk87.hy KX G c
    obtain ⟨fd, hb, hF⟩ := FL.law_facts (P := (PySem.Challenge.rw_scrapstory_k87_whole_rings_and_turnings).prog) (w := w) (K := K) (mg := mg) (k := 11) (s := Lk87.s_law) (x := "law") (p := "script") (f := fa) (F := Lk87.F_law) hy.f_law hmg
      (fun _ _ _ _ _ _ us hl => match us, hl with | [_], _ => rfl) (fun base => Lk87.d_law hy)
    exact ⟨K, fd, FL.spF ⟨K, mg⟩ 1 Lk87.F_law, KX, hb, fun H a ns hl _ hS => FL.law_sp Lk87.sp_law hS, fun base _ _ => hF base⟩
