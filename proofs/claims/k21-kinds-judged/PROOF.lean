import PyProof.Rows.All
import Wide.All
import OpenK.AllK
import Wide.FinOn
import HandS.ForMost
import HandS.IsInst
import HandS.TupAny
import HandS.Wide
import HandS.Style
import HandS.Flow
import HandS.TupMul
import KE.GoesEnum
import HandS.Dict
import HandS.Iter
import HandS.DictComp
import HandS.Strs
import HandS.SetFor
import HandS.SortInts
import HandS.More
import HandS.Conv
import HandS.SortRule
import HandS.ListItems
import HandS.Exc
import HandS.TryOnly
import HandS.TryMany
import HandS.ExcOwn
import HandS.WordsExc
import PyProof.ReprRoads
import HandS.Sort
import HandS.SetKeys
import PyProof.TwoTypesSub
import HandS.Codes
import PyProof.StrLawsRepr
import PyProof.FitsInt
import PySem.Challenge.RW_printsalike_k21_kinds_judged
import HandS.Text
import HandS.ExcIs
set_option Elab.async false
set_option linter.all false
set_option maxRecDepth 100000
set_option maxHeartbeats 4000000
namespace DL
open PySem PySem.Spec L2
open PyProof.Rows hiding St

/-! ## data by value -/
/-- a Python value: tuples by their items, a list that nobody changes by its items (lsv), any other object by its address -/
inductive Dv where
  | non | bl (b : Bool) | int (i : Int) | str (x : Str) | tup (ds : List Dv) | lsv (ds : List Dv) | dcv (ks : List Key) (ds : List Dv) | ref (a : Addr) | ty (n : String)
/-- what stands at an address that may be changed -/
inductive Ob where
  | lst (ds : List Dv)
  | dic (ks : List Key) (ds : List Dv)
abbrev DH := Addr → Option Ob
def upD (Hd : DH) (a : Addr) (o : Ob) : DH := fun b => if b = a then some o else Hd b
theorem upD_same {Hd : DH} {a : Addr} {o : Ob} : upD Hd a o a = some o := if_pos rfl
theorem upD_ne {Hd : DH} {a b : Addr} {o : Ob} (h : b ≠ a) : upD Hd a o b = Hd b := if_neg h
/-- a list that is not tracked as changeable -/
def FxL (K : PySem.W.Frag) (H : Hp) (a : Addr) (vs : List V) : Prop := (∃ o, H a = some (.frz o (.lst vs))) ∨
  ∃ (o : Obj) (its : Array Value) (n : Nat), K.lookup a = some o ∧ o.cls = .type "list" ∧ o.dict = none ∧ o.data = .seq its n ∧ its.size ≤ sizeLine ∧ Vals vs its.toList
theorem FxL.sq {K : PySem.W.Frag} {H : Hp} {a : Addr} {vs : List V} (h : FxL K H a vs) : SqL K H a vs := by
  rcases h with h | h
  · exact .inl (.inr h)
  · exact .inr h
/-- a dict that is not tracked as changeable -/
def FxD (H : Hp) (a : Addr) (ks : List Key) (vs : List V) : Prop := ∃ o kvs, H a = some (.frz o (.dK kvs)) ∧ kvs.map (·.1) = ks ∧ kvs.map (·.2) = vs
mutual
def Rep (K : PySem.W.Frag) (H : Hp) : Dv → V → Prop
  | .non, v => v = .non
  | .bl b, v => v = .bl b
  | .int i, v => v = .int i
  | .str x, v => v = .str x
  | .ref a, v => v = .ref a
  | .ty n, v => v = .ty n
  | .tup ds, v => ∃ a vs, v = .ref a ∧ SqT K H a vs ∧ RepL K H ds vs
  | .lsv ds, v => ∃ a vs, v = .ref a ∧ FxL K H a vs ∧ RepL K H ds vs
  | .dcv ks ds, v => ∃ a vs, v = .ref a ∧ FxD H a ks vs ∧ RepL K H ds vs
def RepL (K : PySem.W.Frag) (H : Hp) : List Dv → List V → Prop
  | [], vs => vs = []
  | d :: ds, vs => ∃ v r, vs = v :: r ∧ Rep K H d v ∧ RepL K H ds r
end
def RepO (K : PySem.W.Frag) (H : Hp) (a : Addr) : Ob → Prop
  | .lst ds => ∃ vs, H a = some (.lst vs) ∧ RepL K H ds vs
  | .dic ks ds => ∃ kvs, H a = some (.dK kvs) ∧ kvs.map (·.1) = ks ∧ RepL K H ds (kvs.map (·.2))
def RepH (K : PySem.W.Frag) (H : Hp) (Hd : DH) : Prop := ∀ a o, Hd a = some o → RepO K H a o
abbrev DS := List (Option Dv)
def RepS (K : PySem.W.Frag) (H : Hp) (σd : DS) (σ : St) : Prop := σd.length = σ.length ∧ ∀ (i : Nat) (d : Dv), σd[i]? = some (some d) → ∃ v, σ[i]? = some (some v) ∧ Rep K H d v
/-- a step: what is tracked and not in Hd stands as it was, what is tracked stays tracked, what Hd' has and Hd had not is new -/
structure Stp (H : Hp) (Hd : DH) (H' : Hp) (Hd' : DH) : Prop where
  frame : ∀ a o, H a = some o → Hd a = none → H' a = some o
  dom : ∀ a, H a ≠ none → H' a ≠ none
  new : ∀ a, Hd' a ≠ none → Hd a ≠ none ∨ H a = none
/-- a part of the heap -/
def Sub (Hg Hd : DH) : Prop := ∀ a o, Hg a = some o → Hd a = some o
theorem Sub.refl (Hd : DH) : Sub Hd Hd := fun _ _ h => h
theorem Sub.trans {H1 H2 H3 : DH} (a : Sub H1 H2) (b : Sub H2 H3) : Sub H1 H3 := fun x o h => b x o (a x o h)
theorem Sub.upd {Hg Hd : DH} {p : Addr} {o : Ob} (s : Sub Hg Hd) (h : Hg p = none) : Sub Hg (upD Hd p o) := fun a u e => by
  have ne : a ≠ p := fun q => by rw [q, h] at e; cases e
  rw [upD_ne ne]
  exact s a u e
theorem Sub.none {Hg Hd : DH} {p : Addr} (s : Sub Hg Hd) (h : Hd p = none) : Hg p = none := by
  cases e : Hg p with
  | none => rfl
  | some o => rw [s p o e] at h; cases h

section
variable {K : PySem.W.Frag} {H H' H1 H2 : Hp} {Hd Hd' Hd1 Hd2 : DH}
theorem Stp.refl : Stp H Hd H Hd := ⟨fun _ _ h _ => h, fun _ h => h, fun _ h => .inl h⟩
theorem Stp.trans (s : Stp H Hd H1 Hd1) (t : Stp H1 Hd1 H2 Hd2) : Stp H Hd H2 Hd2 := by
  refine ⟨fun a o h n => t.frame a o (s.frame a o h n) ?_, fun a h => t.dom a (s.dom a h), fun a h => ?_⟩
  · cases e : Hd1 a with
    | none => rfl
    | some u =>
      rcases s.new a (by rw [e]; exact fun z => nomatch z) with z | z
      · exact absurd n z
      · rw [h] at z; cases z
  · rcases t.new a h with z | z
    · exact s.new a z
    · refine .inr ?_
      cases e : H a with
      | none => rfl
      | some u => exact absurd z (s.dom a (by rw [e]; exact fun q => nomatch q))
theorem Stp.sub {Hg : DH} (s : Stp H Hd H' Hd') (g : Sub Hg Hd') : Stp H Hd H' Hg :=
  ⟨s.frame, s.dom, fun a h => by
    cases e : Hg a with
    | none => exact absurd e h
    | some o => exact s.new a (by rw [g a o e]; exact fun z => nomatch z)⟩
theorem RepH.sub {Hg : DH} (r : RepH K H Hd) (g : Sub Hg Hd) : RepH K H Hg := fun a o h => r a o (g a o h)
theorem RepH.free (r : RepH K H Hd) {a : Addr} (h : H a = none) : Hd a = none := by
  cases e : Hd a with
  | none => rfl
  | some o =>
    cases o with
    | lst ds =>
      obtain ⟨vs, q, _⟩ := r a _ e
      rw [h] at q; cases q
    | dic ks ds =>
      obtain ⟨vs, q, _⟩ := r a _ e
      rw [h] at q; cases q
theorem RepH.no (r : RepH K H Hd) {a : Addr} {o : HO} (h : H a = some o) (n : (∀ vs, o ≠ .lst vs) ∧ ∀ kvs, o ≠ .dK kvs) : Hd a = none := by
  cases e : Hd a with
  | none => rfl
  | some u =>
    cases u with
    | lst ds =>
      obtain ⟨vs, q, _⟩ := r a _ e
      rw [h] at q
      exact absurd (Option.some.inj q) (n.1 vs)
    | dic ks ds =>
      obtain ⟨vs, q, _⟩ := r a _ e
      rw [h] at q
      exact absurd (Option.some.inj q) (n.2 vs)
theorem Stp.sqT (s : Stp H Hd H' Hd') (r : RepH K H Hd) {a : Addr} {vs : List V} (h : SqT K H a vs) : SqT K H' a vs := by
  rcases h with (h | ⟨o, h⟩) | h
  · exact .inl (.inl (s.frame _ _ h (r.no h ⟨(fun _ z => nomatch z), (fun _ z => nomatch z)⟩)))
  · exact .inl (.inr ⟨o, s.frame _ _ h (r.no h ⟨(fun _ z => nomatch z), (fun _ z => nomatch z)⟩)⟩)
  · exact .inr h
theorem Stp.fxL (s : Stp H Hd H' Hd') (r : RepH K H Hd) {a : Addr} {vs : List V} (h : FxL K H a vs) : FxL K H' a vs := by
  rcases h with ⟨o, h⟩ | h
  · exact .inl ⟨o, s.frame _ _ h (r.no h ⟨(fun _ z => nomatch z), (fun _ z => nomatch z)⟩)⟩
  · exact .inr h
theorem Stp.fxD (s : Stp H Hd H' Hd') (r : RepH K H Hd) {a : Addr} {ks : List Key} {vs : List V} (h : FxD H a ks vs) : FxD H' a ks vs := by
  obtain ⟨o, kvs, h, e1, e2⟩ := h
  exact ⟨o, kvs, s.frame _ _ h (r.no h ⟨(fun _ z => nomatch z), (fun _ z => nomatch z)⟩), e1, e2⟩
mutual
theorem Stp.rep (s : Stp H Hd H' Hd') (r : RepH K H Hd) : ∀ {d : Dv} {v : V}, Rep K H d v → Rep K H' d v
  | .non, _, h => h
  | .bl _, _, h => h
  | .int _, _, h => h
  | .str _, _, h => h
  | .ref _, _, h => h
  | .ty _, _, h => h
  | .tup _, _, h => by
    obtain ⟨a, vs, e, q, l⟩ := h
    exact ⟨a, vs, e, s.sqT r q, s.repL r l⟩
  | .lsv _, _, h => by
    obtain ⟨a, vs, e, q, l⟩ := h
    exact ⟨a, vs, e, s.fxL r q, s.repL r l⟩
  | .dcv _ _, _, h => by
    obtain ⟨a, vs, e, q, l⟩ := h
    exact ⟨a, vs, e, s.fxD r q, s.repL r l⟩
theorem Stp.repL (s : Stp H Hd H' Hd') (r : RepH K H Hd) : ∀ {ds : List Dv} {vs : List V}, RepL K H ds vs → RepL K H' ds vs
  | [], _, h => h
  | _ :: _, _, h => by
    obtain ⟨v, t, e, h1, h2⟩ := h
    exact ⟨v, t, e, s.rep r h1, s.repL r h2⟩
end
theorem Stp.repS (s : Stp H Hd H' Hd') (r : RepH K H Hd) {σd : DS} {σ : St} (h : RepS K H σd σ) : RepS K H' σd σ :=
  ⟨h.1, fun i d e => let ⟨v, a, b⟩ := h.2 i d e; ⟨v, a, s.rep r b⟩⟩
theorem RepS.set {σd : DS} {σ : St} (h : RepS K H σd σ) (i : Nat) {d : Dv} {v : V} (r : Rep K H d v) : RepS K H (σd.set i (some d)) (σ.set i (some v)) := by
  refine ⟨by rw [List.length_set, List.length_set]; exact h.1, fun j e q => ?_⟩
  by_cases hj : i = j
  · subst hj
    by_cases hl : i < σd.length
    · rw [List.getElem?_set_self hl] at q
      cases q
      exact ⟨v, by rw [List.getElem?_set_self (by rw [← h.1]; exact hl)], r⟩
    · rw [List.getElem?_eq_none (by rw [List.length_set]; omega)] at q
      cases q
  · rw [List.getElem?_set_ne hj] at q ⊢
    exact h.2 j e q
theorem RepL.length : ∀ {ds : List Dv} {vs : List V}, RepL K H ds vs → ds.length = vs.length
  | [], _, h => by rw [show _ = _ from h]; rfl
  | _ :: _, _, h => by
    obtain ⟨v, t, e, _, h2⟩ := h
    rw [e, List.length_cons, List.length_cons, h2.length]
theorem RepL.get : ∀ {ds : List Dv} {vs : List V} {i : Nat} {d : Dv}, RepL K H ds vs → ds[i]? = some d → ∃ v, vs[i]? = some v ∧ Rep K H d v
  | [], _, _, _, _, e => by simp at e
  | x :: _, _, 0, d, h, e => by
    obtain ⟨v, t, rfl, h1, _⟩ := h
    have e' : x = d := by simpa using e
    subst e'
    exact ⟨v, rfl, h1⟩
  | _ :: r, _, i + 1, d, h, e => by
    obtain ⟨v, t, rfl, _, h2⟩ := h
    obtain ⟨u, q1, q2⟩ := h2.get (i := i) (d := d) (by simpa using e)
    exact ⟨u, by simpa using q1, q2⟩
theorem RepL.got : ∀ {ds : List Dv} {vs : List V} {i : Nat} {v : V}, RepL K H ds vs → vs[i]? = some v → ∃ d, ds[i]? = some d ∧ Rep K H d v := fun {ds vs i v} h e => by
  have hl := h.length
  obtain ⟨hi, _⟩ := List.getElem?_eq_some_iff.mp e
  have hd : ds[i]? = some ds[i] := List.getElem?_eq_getElem (by omega)
  obtain ⟨u, q1, q2⟩ := h.get hd
  rw [e] at q1
  cases q1
  exact ⟨_, hd, q2⟩
theorem RepL.append : ∀ {ds es : List Dv} {vs us : List V}, RepL K H ds vs → RepL K H es us → RepL K H (ds ++ es) (vs ++ us)
  | [], _, _, _, h, g => by rw [show _ = _ from h]; exact g
  | _ :: _, _, _, _, h, g => by
    obtain ⟨v, t, rfl, h1, h2⟩ := h
    exact ⟨v, _, rfl, h1, h2.append g⟩
theorem RepL.one {d : Dv} {v : V} (h : Rep K H d v) : RepL K H [d] [v] := ⟨v, [], rfl, h, rfl⟩
theorem RepL.take : ∀ {ds : List Dv} {vs : List V} (n : Nat), RepL K H ds vs → RepL K H (ds.take n) (vs.take n)
  | [], _, n, h => by rw [show _ = _ from h, List.take_nil, List.take_nil]; exact rfl
  | _ :: _, _, 0, _ => by rw [List.take_zero, List.take_zero]; exact rfl
  | _ :: _, _, n + 1, h => by
    obtain ⟨v, t, rfl, h1, h2⟩ := h
    exact ⟨v, _, rfl, h1, h2.take n⟩
theorem RepL.drop : ∀ {ds : List Dv} {vs : List V} (n : Nat), RepL K H ds vs → RepL K H (ds.drop n) (vs.drop n)
  | [], _, n, h => by rw [show _ = _ from h, List.drop_nil, List.drop_nil]; exact rfl
  | _ :: _, _, 0, h => h
  | _ :: _, _, n + 1, h => by
    obtain ⟨v, t, rfl, h1, h2⟩ := h
    exact h2.drop n
theorem RepL.set : ∀ {ds : List Dv} {vs : List V} (i : Nat) {d : Dv} {v : V}, RepL K H ds vs → Rep K H d v → RepL K H (ds.set i d) (vs.set i v)
  | [], _, _, _, _, h, _ => by rw [show _ = _ from h]; exact rfl
  | _ :: _, _, 0, _, _, h, g => by
    obtain ⟨v, t, rfl, _, h2⟩ := h
    exact ⟨_, _, rfl, g, h2⟩
  | _ :: _, _, i + 1, _, _, h, g => by
    obtain ⟨v, t, rfl, h1, h2⟩ := h
    exact ⟨_, _, rfl, h1, h2.set i g⟩
theorem RepL.reverse {ds : List Dv} {vs : List V} (h : RepL K H ds vs) : RepL K H ds.reverse vs.reverse := by
  induction ds generalizing vs with
  | nil => rw [show _ = _ from h]; exact rfl
  | cons d ds ih =>
    obtain ⟨v, t, rfl, h1, h2⟩ := h
    rw [List.reverse_cons, List.reverse_cons]
    exact (ih h2).append (.one h1)
theorem RepL.rep {ds : List Dv} {vs : List V} (h : RepL K H ds vs) : ∀ n : Nat, RepL K H (List.replicate n ds).flatten (List.replicate n vs).flatten
  | 0 => rfl
  | n + 1 => by
    rw [List.replicate_succ, List.replicate_succ, List.flatten_cons, List.flatten_cons]
    exact h.append (h.rep n)
theorem RepL.erase : ∀ {ds : List Dv} {vs : List V} (i : Nat), RepL K H ds vs → RepL K H (ds.eraseIdx i) (vs.eraseIdx i)
  | [], _, _, h => by rw [show _ = _ from h]; exact rfl
  | _ :: _, _, 0, h => by
    obtain ⟨v, t, rfl, _, h2⟩ := h
    exact h2
  | _ :: _, _, i + 1, h => by
    obtain ⟨v, t, rfl, h1, h2⟩ := h
    exact ⟨_, _, rfl, h1, h2.erase i⟩
theorem RepL.ints (ns : List Int) : RepL K H (ns.map Dv.int) (ns.map V.int) := by
  induction ns with
  | nil => exact rfl
  | cons n ns ih => exact ⟨_, _, rfl, rfl, ih⟩

/-- a new object is laid -/
theorem Stp.lay {p : Addr} {o : HO} (h : H p = none) : Stp H Hd (upd H p o) Hd :=
  ⟨fun a u e _ => by rw [upd_ne (ne_of_none e h)]; exact e, fun a e => by
    by_cases q : a = p
    · rw [q, upd_same]; exact fun z => nomatch z
    · rw [upd_ne q]; exact e, fun _ e => .inl e⟩
theorem RepO.keep {a : Addr} {o : Ob} (h : RepO K H a o) (s : Stp H Hd H' Hd') (r : RepH K H Hd) (e : H' a = H a) : RepO K H' a o := by
  cases o with
  | lst ds =>
    obtain ⟨vs, q, l⟩ := h
    exact ⟨vs, e.trans q, s.repL r l⟩
  | dic ks ds =>
    obtain ⟨vs, q, e1, l⟩ := h
    exact ⟨vs, e.trans q, e1, s.repL r l⟩
theorem RepH.lay {p : Addr} {o : HO} (r : RepH K H Hd) (h : H p = none) : RepH K (upd H p o) Hd := fun a u e => by
  have n : a ≠ p := fun q => by rw [q, r.free h] at e; cases e
  exact (r a u e).keep (Stp.lay h) r (upd_ne n)
/-- a new list -/
theorem Stp.layL {p : Addr} {o : HO} {u : Ob} (h : H p = none) : Stp H Hd (upd H p o) (upD Hd p u) :=
  ⟨(Stp.lay h).frame, (Stp.lay (Hd := Hd) h).dom, fun a e => by
    by_cases q : a = p
    · exact .inr (by rw [q]; exact h)
    · rw [upD_ne q] at e; exact .inl e⟩
theorem RepH.layL {p : Addr} {vs : List V} {ds : List Dv} (r : RepH K H Hd) (h : H p = none) (l : RepL K H ds vs) : RepH K (upd H p (.lst vs)) (upD Hd p (.lst ds)) := fun a u e => by
  by_cases q : a = p
  · subst q
    rw [upD_same] at e
    cases e
    exact ⟨vs, upd_same, (Stp.lay (Hd := Hd) h).repL r l⟩
  · rw [upD_ne q] at e
    exact (r a u e).keep (Stp.lay h) r (upd_ne q)
theorem RepH.layK {p : Addr} {kvs : List (Key × V)} {ks : List Key} {ds : List Dv} (r : RepH K H Hd) (h : H p = none) (ek : kvs.map (·.1) = ks) (l : RepL K H ds (kvs.map (·.2))) : RepH K (upd H p (.dK kvs)) (upD Hd p (.dic ks ds)) := fun a u e => by
  by_cases q : a = p
  · subst q
    rw [upD_same] at e
    cases e
    exact ⟨kvs, upd_same, ek, (Stp.lay (Hd := Hd) h).repL r l⟩
  · rw [upD_ne q] at e
    exact (r a u e).keep (Stp.lay h) r (upd_ne q)
/-- a list changes -/
theorem Stp.put {p : Addr} {o : HO} {u u' : Ob} (h : Hd p = some u) : Stp H Hd (upd H p o) (upD Hd p u') :=
  ⟨fun a v e n => by
    have q : a ≠ p := fun q => by rw [q, h] at n; cases n
    rw [upd_ne q]; exact e, fun a e => by
    by_cases q : a = p
    · rw [q, upd_same]; exact fun z => nomatch z
    · rw [upd_ne q]; exact e, fun a e => by
    by_cases q : a = p
    · exact .inl (by rw [q, h]; exact fun z => nomatch z)
    · rw [upD_ne q] at e; exact .inl e⟩
theorem RepH.put {p : Addr} {vs : List V} {ds : List Dv} {u : Ob} (r : RepH K H Hd) (h : Hd p = some u) (l : RepL K H ds vs) : RepH K (upd H p (.lst vs)) (upD Hd p (.lst ds)) := fun a w e => by
  have s : Stp H Hd (upd H p (.lst vs)) (upD Hd p (.lst ds)) := Stp.put h
  by_cases q : a = p
  · subst q
    rw [upD_same] at e
    cases e
    exact ⟨vs, upd_same, s.repL r l⟩
  · rw [upD_ne q] at e
    exact (r a w e).keep s r (upd_ne q)
theorem RepH.putK {p : Addr} {kvs : List (Key × V)} {ks : List Key} {ds : List Dv} {u : Ob} (r : RepH K H Hd) (h : Hd p = some u) (ek : kvs.map (·.1) = ks) (l : RepL K H ds (kvs.map (·.2))) : RepH K (upd H p (.dK kvs)) (upD Hd p (.dic ks ds)) := fun a w e => by
  have s : Stp H Hd (upd H p (.dK kvs)) (upD Hd p (.dic ks ds)) := Stp.put h
  by_cases q : a = p
  · subst q
    rw [upD_same] at e
    cases e
    exact ⟨kvs, upd_same, ek, s.repL r l⟩
  · rw [upD_ne q] at e
    exact (r a w e).keep s r (upd_ne q)
/-- an entry goes out of sight -/
def delD (Hd : DH) (p : Addr) : DH := fun a => if a = p then none else Hd a
theorem delD_ne {Hd : DH} {a p : Addr} (h : a ≠ p) : delD Hd p a = Hd a := if_neg h
theorem delD_same {Hd : DH} {p : Addr} : delD Hd p p = none := if_pos rfl
/-- a thing that may be changed is locked -/
theorem Stp.lock {p : Addr} {o : HO} {u : Ob} (h : Hd p = some u) : Stp H Hd (upd H p o) (delD Hd p) :=
  ⟨(Stp.put (H := H) (o := o) (u' := u) h).frame, (Stp.put (H := H) (o := o) (u' := u) h).dom, fun a e => .inl fun z => by
    by_cases q : a = p
    · rw [q, delD_same] at e; exact e rfl
    · rw [delD_ne q] at e; exact e z⟩
theorem RepH.lock {p : Addr} {o : HO} {u : Ob} (r : RepH K H Hd) (h : Hd p = some u) : RepH K (upd H p o) (delD Hd p) := fun a w e => by
  by_cases q : a = p
  · subst q; rw [delD_same] at e; cases e
  · rw [delD_ne q] at e
    exact (r a w e).keep (Stp.lock (o := o) h) r (upd_ne q)
end

/-! ## readings by value -/
abbrev DVK := Dv → DH → Prop
abbrev DTE := DS → DH → DVK → Prop
abbrev DTT := DS → DH → (Bool → DH → Prop) → Prop
abbrev DTA := DS → DH → (List Dv → DH → Prop) → Prop
structure DEnds where
  nx : DS → DH → Prop
  rt : DVK
  bk : DS → DH → Prop := fun _ _ => False
  ct : DS → DH → Prop := fun _ _ => False
  ex : Str → List (Str × Dv) → DS → DH → Prop := fun _ _ _ _ => False
abbrev DTS := DEnds → DS → DH → Prop
abbrev DTG := Dv → DS → DH → (DS → DH → Prop) → Prop
/-- what is wanted of a value, below and above -/
def KE (K : PySem.W.Frag) (H : Hp) (Hd : DH) (Qd : DVK) (Q : VK) : Prop := ∀ v H' d Hd', Stp H Hd H' Hd' → RepH K H' Hd' → Rep K H' d v → Qd d Hd' → Q v H'
def KT (K : PySem.W.Frag) (H : Hp) (Hd : DH) (Qd : Bool → DH → Prop) (Q : Bool → Hp → Prop) : Prop := ∀ b H' Hd', Stp H Hd H' Hd' → RepH K H' Hd' → Qd b Hd' → Q b H'
def KA (K : PySem.W.Frag) (H : Hp) (Hd : DH) (Qd : List Dv → DH → Prop) (Q : List V → Hp → Prop) : Prop := ∀ vs H' ds Hd', Stp H Hd H' Hd' → RepH K H' Hd' → RepL K H' ds vs → Qd ds Hd' → Q vs H'
def KS (K : PySem.W.Frag) (H : Hp) (Hd : DH) (Qd : DS → DH → Prop) (Q : St → Hp → Prop) : Prop := ∀ σ' H' σd' Hd', Stp H Hd H' Hd' → RepH K H' Hd' → RepS K H' σd' σ' → Qd σd' Hd' → Q σ' H'
def lE (K : PySem.W.Frag) (t : DTE) : TE := fun σ H Q => ∃ σd Hd Qd, RepS K H σd σ ∧ RepH K H Hd ∧ t σd Hd Qd ∧ KE K H Hd Qd Q
def lT (K : PySem.W.Frag) (t : DTT) : TT := fun σ H Q => ∃ σd Hd Qd, RepS K H σd σ ∧ RepH K H Hd ∧ t σd Hd Qd ∧ KT K H Hd Qd Q
def lA (K : PySem.W.Frag) (t : DTA) : TA := fun σ H Q => ∃ σd Hd Qd, RepS K H σd σ ∧ RepH K H Hd ∧ t σd Hd Qd ∧ KA K H Hd Qd Q
def lS (K : PySem.W.Frag) (t : DTS) : TS := fun D σ H => ∃ σd Hd Dd, RepS K H σd σ ∧ RepH K H Hd ∧ t Dd σd Hd ∧ KS K H Hd Dd.nx D.nx ∧ KE K H Hd Dd.rt D.rt ∧ KS K H Hd Dd.bk D.bk ∧ KS K H Hd Dd.ct D.ct
def lG (K : PySem.W.Frag) (g : DTG) : TG := fun v σ H Q => ∃ d σd Hd Qd, Rep K H d v ∧ RepS K H σd σ ∧ RepH K H Hd ∧ g d σd Hd Qd ∧ KS K H Hd Qd Q
section
variable {K : PySem.W.Frag} {H H' : Hp} {Hd Hd' : DH}
theorem KE.at (s : Stp H Hd H' Hd') {Qd : DVK} {Q : VK} (k : KE K H Hd Qd Q) : KE K H' Hd' Qd Q := fun v H2 d Hd2 t => k v H2 d Hd2 (s.trans t)
theorem KT.at (s : Stp H Hd H' Hd') {Qd : Bool → DH → Prop} {Q : Bool → Hp → Prop} (k : KT K H Hd Qd Q) : KT K H' Hd' Qd Q := fun v H2 Hd2 t => k v H2 Hd2 (s.trans t)
theorem KA.at (s : Stp H Hd H' Hd') {Qd : List Dv → DH → Prop} {Q : List V → Hp → Prop} (k : KA K H Hd Qd Q) : KA K H' Hd' Qd Q := fun v H2 d Hd2 t => k v H2 d Hd2 (s.trans t)
theorem KS.at (s : Stp H Hd H' Hd') {Qd : DS → DH → Prop} {Q : St → Hp → Prop} (k : KS K H Hd Qd Q) : KS K H' Hd' Qd Q := fun v H2 d Hd2 t => k v H2 d Hd2 (s.trans t)
end

section
variable {X : Cx} {e a b : Expr} {es : List Expr} {st : Stmt}
theorem pe_mono {t t' : TE} (h : PE X e t) (i : ∀ σ H Q, t' σ H Q → t σ H Q) : PE X e t' := ⟨fun p s σ H Q I q => h.run p s σ H Q I (i σ H Q q)⟩
theorem pt_mono {t t' : TT} (h : PT X e t) (i : ∀ σ H Q, t' σ H Q → t σ H Q) : PT X e t' := ⟨fun p s σ H Q I q => h.run p s σ H Q I (i σ H Q q)⟩
theorem pw_mono {t t' : TT} (h : PW X e t) (i : ∀ σ H Q, t' σ H Q → t σ H Q) : PW X e t' := ⟨fun w p s σ H Q I q => h.run w p s σ H Q I (i σ H Q q)⟩
theorem pa_mono {t t' : TA} (h : PA X es t) (i : ∀ σ H Q, t' σ H Q → t σ H Q) : PA X es t' := ⟨fun o p s σ H Q I q => h.run o p s σ H Q I (i σ H Q q)⟩
theorem ps_mono {t t' : TS} (h : PS X st t) (i : ∀ D σ H, t' D σ H → t D σ H) : PS X st t' := ⟨fun p s σ H D I q => h.run p s σ H D I (i D σ H q)⟩
theorem pss_mono {sts : List Stmt} {t t' : TS} (h : PSs X sts t) (i : ∀ D σ H, t' D σ H → t D σ H) : PSs X sts t' := ⟨fun p s σ H D I q => h.run p s σ H D I (i D σ H q)⟩
theorem pg_mono {t t' : TG} (h : PG X e t) (i : ∀ v σ H Q, t' v σ H Q → t v σ H Q) : PG X e t' := ⟨fun p s σ H v u Q I r q => h.run p s σ H v u Q I r (i v σ H Q q)⟩
abbrev DE (X : Cx) (e : Expr) (t : DTE) : Prop := PE X e (lE X.K t)
abbrev DT (X : Cx) (e : Expr) (t : DTT) : Prop := PT X e (lT X.K t)
abbrev DW (X : Cx) (e : Expr) (t : DTT) : Prop := PW X e (lT X.K t)
abbrev DA (X : Cx) (es : List Expr) (t : DTA) : Prop := PA X es (lA X.K t)
abbrev DSt (X : Cx) (st : Stmt) (t : DTS) : Prop := PS X st (lS X.K t)
abbrev DSs (X : Cx) (sts : List Stmt) (t : DTS) : Prop := PSs X sts (lS X.K t)
abbrev DG (X : Cx) (e : Expr) (t : DTG) : Prop := PG X e (lG X.K t)

/-! ### names, constants -/
def dVar (i : Nat) : DTE := fun σ H Q => ∃ d, σ[i]? = some (some d) ∧ Q d H
def dC (d : Dv) : DTE := fun _ H Q => Q d H
theorem de_of {t : TE} {td : DTE} (h : PE X e t) (i : ∀ σ H Q σd Hd Qd, RepS X.K H σd σ → RepH X.K H Hd → td σd Hd Qd → KE X.K H Hd Qd Q → t σ H Q) : DE X e td :=
  pe_mono h fun σ H Q ⟨σd, Hd, Qd, rs, rh, q, k⟩ => i σ H Q σd Hd Qd rs rh q k
theorem de_var {i : Nat} (h : PE X e (tVar i)) : DE X e (dVar i) := de_of h fun σ H Q σd Hd Qd rs rh ⟨d, e, q⟩ k =>
by
  obtain ⟨v, e2, r⟩ := rs.2 i d e
  exact ⟨v, e2, k v H d Hd .refl rh r q⟩
theorem de_c {d : Dv} {v : V} (h : PE X e (tC v)) (r : ∀ H, Rep X.K H d v) : DE X e (dC d) := de_of h fun σ H Q σd Hd Qd rs rh q k => k v H d Hd .refl rh (r H) q
theorem de_int {i : Int} (h : PE X e (tC (.int i))) : DE X e (dC (.int i)) := de_c h fun _ => rfl
theorem de_bl {i : Bool} (h : PE X e (tC (.bl i))) : DE X e (dC (.bl i)) := de_c h fun _ => rfl
theorem de_str {i : Str} (h : PE X e (tC (.str i))) : DE X e (dC (.str i)) := de_c h fun _ => rfl
theorem de_non (h : PE X e (tC .non)) : DE X e (dC .non) := de_c h fun _ => rfl
theorem de_ty {n : String} (h : PE X e (tC (.ty n))) : DE X e (dC (.ty n)) := de_c h fun _ => rfl
end
end DL

set_option maxHeartbeats 4000000
namespace DL
open PySem PySem.Spec L2
open PyProof.Rows hiding St

/-! ## expressions -/
section
variable {X : Cx} {e a b c : Expr} {es rest : List Expr} {te ta tb tc : DTE} {t : DTA} {pos : Pos}
theorem dt_of {t : TT} {td : DTT} (h : PT X e t) (i : ∀ σ H Q σd Hd Qd, RepS X.K H σd σ → RepH X.K H Hd → td σd Hd Qd → KT X.K H Hd Qd Q → t σ H Q) : DT X e td :=
  pt_mono h fun σ H Q ⟨σd, Hd, Qd, rs, rh, q, k⟩ => i σ H Q σd Hd Qd rs rh q k
theorem dw_of {t : TT} {td : DTT} (h : PW X e t) (i : ∀ σ H Q σd Hd Qd, RepS X.K H σd σ → RepH X.K H Hd → td σd Hd Qd → KT X.K H Hd Qd Q → t σ H Q) : DW X e td :=
  pw_mono h fun σ H Q ⟨σd, Hd, Qd, rs, rh, q, k⟩ => i σ H Q σd Hd Qd rs rh q k
theorem da_of {t : TA} {td : DTA} (h : PA X es t) (i : ∀ σ H Q σd Hd Qd, RepS X.K H σd σ → RepH X.K H Hd → td σd Hd Qd → KA X.K H Hd Qd Q → t σ H Q) : DA X es td :=
  pa_mono h fun σ H Q ⟨σd, Hd, Qd, rs, rh, q, k⟩ => i σ H Q σd Hd Qd rs rh q k

/-! ### arguments, displays -/
def dNil : DTA := fun _ H Q => Q [] H
def dCons (te : DTE) (t : DTA) : DTA := fun σ H Q => te σ H fun d H1 => t σ H1 fun ds H2 => Q (d :: ds) H2
theorem da_nil : DA X [] dNil := da_of pa_nil fun σ H Q σd Hd Qd rs rh q k => k [] H [] Hd .refl rh rfl q
theorem da_cons (ha : DE X e te) (hr : DA X es t) (hs : starEach (e :: es) X.env = (false, eval e X.env) :: starEach es X.env := by rfl) : DA X (e :: es) (dCons te t) :=
  da_of (pa_cons ha hr hs) fun σ H Q σd Hd Qd rs rh q k => ⟨σd, Hd, _, rs, rh, q, fun v H1 d Hd1 s1 r1 rv q1 =>
    ⟨σd, Hd1, _, s1.repS rh rs, r1, q1, fun vs H2 ds Hd2 s2 r2 rvs q2 => k (v :: vs) H2 (d :: ds) Hd2 (s1.trans s2) r2 ⟨v, vs, rfl, s2.rep r1 rv, rvs⟩ q2⟩⟩
def dTup (t : DTA) : DTE := fun σ H Q => t σ H fun ds H1 => ds.length ≤ sizeLine ∧ Q (.tup ds) H1
def dLst (t : DTA) : DTE := fun σ H Q => t σ H fun ds H1 => ds.length ≤ sizeLine ∧ ∀ p, H1 p = none → Q (.ref p) (upD H1 p (.lst ds))
theorem de_tup {x1} (h : DA X es t) : DE X (.Tuple es x1 pos) (dTup t) :=
  de_of (pe_tup h) fun σ H Q σd Hd Qd rs rh q k => ⟨σd, Hd, _, rs, rh, q, fun vs H1 ds Hd1 s1 r1 rl ⟨z, q1⟩ =>
    ⟨by rw [← rl.length]; exact z, fun p hp => k _ _ (.tup ds) Hd1 (s1.trans (.lay hp)) (r1.lay hp) ⟨p, vs, rfl, .of upd_same, (Stp.lay (Hd := Hd1) hp).repL r1 rl⟩ q1⟩⟩
theorem de_lst (h : DA X es t) : DE X (.List es pos) (dLst t) :=
  de_of (pe_lst h) fun σ H Q σd Hd Qd rs rh q k => ⟨σd, Hd, _, rs, rh, q, fun vs H1 ds Hd1 s1 r1 rl ⟨z, q1⟩ =>
    ⟨by rw [← rl.length]; exact z, fun p hp => k _ _ (.ref p) (upD Hd1 p (.lst ds)) (s1.trans (.layL hp)) (r1.layL hp rl) rfl (q1 p (r1.free hp))⟩⟩

/-! ### operators by values -/
abbrev D2 := Dv → Dv → DH → DVK → Prop
abbrev D1 := Dv → DH → DVK → Prop
/-- the rule below serves the reading above -/
def R2Ok (K : PySem.W.Frag) (r : R2) (f : D2) : Prop := ∀ H Hd x y dx dy Q Qd, RepH K H Hd → Rep K H dx x → Rep K H dy y → f dx dy Hd Qd → KE K H Hd Qd Q → r x y H Q
def R1Ok (K : PySem.W.Frag) (r : V → Hp → VK → Prop) (f : D1) : Prop := ∀ H Hd x dx Q Qd, RepH K H Hd → Rep K H dx x → f dx Hd Qd → KE K H Hd Qd Q → r x H Q
def dOp (f : D2) (ta tb : DTE) : DTE := fun σ H Q => ta σ H fun x H1 => tb σ H1 fun y H2 => f x y H2 Q
def dUn (f : D1) (ta : DTE) : DTE := fun σ H Q => ta σ H fun x H1 => f x H1 Q
theorem op2 {r : R2} {f : D2} (hf : R2Ok X.K r f) {σ : St} {H : Hp} {Q : VK} (h : lE X.K (dOp f ta tb) σ H Q) : tOp r (lE X.K ta) (lE X.K tb) σ H Q := by
  obtain ⟨σd, Hd, Qd, rs, rh, q, k⟩ := h
  exact ⟨σd, Hd, _, rs, rh, q, fun v H1 d Hd1 s1 r1 rv q1 => ⟨σd, Hd1, _, s1.repS rh rs, r1, q1, fun u H2 d2 Hd2 s2 r2 ru q2 => hf H2 Hd2 v u d d2 Q Qd r2 (s2.rep r1 rv) ru q2 (k.at (s1.trans s2))⟩⟩
theorem de_op {op : Operator} {r : R2} {f : D2} (ho : OpR X (binaryOp op) r) (hf : R2Ok X.K r f) (ha : DE X a ta) (hb : DE X b tb) : DE X (.BinOp a op b pos) (dOp f ta tb) :=
  pe_mono (pe_op ho ha hb) fun _ _ _ h => op2 hf h
theorem de_un {op : UnaryOp} {r : V → Hp → VK → Prop} {f : D1} (ho : UnR X (unaryOp op) r) (hf : R1Ok X.K r f) (ha : DE X a ta) : DE X (.UnaryOp op a pos) (dUn f ta) :=
  de_of (pe_un ho ha) fun σ H Q σd Hd Qd rs rh q k => ⟨σd, Hd, _, rs, rh, q, fun v H1 d Hd1 s1 r1 rv q1 => hf H1 Hd1 v d Q Qd r1 rv q1 (k.at s1)⟩
theorem R2Ok.or {K : PySem.W.Frag} {r r' : R2} {f g : D2} (h : R2Ok K r f) (h' : R2Ok K r' g) : R2Ok K (fun x y H Q => r x y H Q ∨ r' x y H Q) (fun x y H Q => f x y H Q ∨ g x y H Q) :=
  fun H Hd x y dx dy Q Qd rh rx ry q k => q.elim (fun q => .inl (h H Hd x y dx dy Q Qd rh rx ry q k)) fun q => .inr (h' H Hd x y dx dy Q Qd rh rx ry q k)
theorem R2Ok.imp {K : PySem.W.Frag} {r : R2} {f g : D2} (h : R2Ok K r f) (i : ∀ x y H Q, g x y H Q → f x y H Q) : R2Ok K r g :=
  fun H Hd x y dx dy Q Qd rh rx ry q k => h H Hd x y dx dy Q Qd rh rx ry (i _ _ _ _ q) k

/-! ints -/
def dI2 (C : Int → Int → Prop) (g : Int → Int → Dv) : D2 := fun x y H Q => match x, y with
  | .int i, .int j => C i j ∧ Q (g i j) H
  | _, _ => False
def dI20 (g : Int → Int → Dv) : D2 := fun x y H Q => match x, y with
  | .int i, .int j => Q (g i j) H
  | _, _ => False
theorem i2 {K : PySem.W.Frag} {C : Int → Int → Prop} {g : Int → Int → V} {gd : Int → Int → Dv} (hg : ∀ H i j, Rep K H (gd i j) (g i j)) : R2Ok K (rI C g) (dI2 C gd) := by
  intro H Hd x y dx dy Q Qd rh rx ry q k
  unfold dI2 at q
  split at q
  · exact ⟨_, _, rx, ry, q.1, k _ H _ Hd .refl rh (hg H _ _) q.2⟩
  · exact q.elim
theorem i20 {K : PySem.W.Frag} {g : Int → Int → V} {gd : Int → Int → Dv} (hg : ∀ H i j, Rep K H (gd i j) (g i j)) : R2Ok K (rI0 g) (dI20 gd) := by
  intro H Hd x y dx dy Q Qd rh rx ry q k
  unfold dI20 at q
  split at q
  · exact ⟨_, _, rx, ry, k _ H _ Hd .refl rh (hg H _ _) q⟩
  · exact q.elim
abbrev fSubI : D2 := dI20 fun i j => .int (i - j)
abbrev fFdiv : D2 := dI2 CDivW fun i j => .int (i / j)
abbrev fMod : D2 := dI2 (fun _ j => 0 < j) fun i j => .int (i % j)
abbrev fPow : D2 := dI2 CPow fun i j => .int (i ^ j.toNat)
theorem de_sub (ha : DE X a ta) (hb : DE X b tb) : DE X (.BinOp a .Sub b pos) (dOp fSubI ta tb) := de_op op_sub (i20 fun _ _ _ => rfl) ha hb
theorem de_fdiv (ha : DE X a ta) (hb : DE X b tb) : DE X (.BinOp a .FloorDiv b pos) (dOp fFdiv ta tb) := de_op op_fdivW (i2 fun _ _ _ => rfl) ha hb
theorem de_mod (ha : DE X a ta) (hb : DE X b tb) : DE X (.BinOp a .Mod b pos) (dOp fMod ta tb) := de_op op_mod (i2 fun _ _ _ => rfl) ha hb
theorem de_pow (ha : DE X a ta) (hb : DE X b tb) : DE X (.BinOp a .Pow b pos) (dOp fPow ta tb) := de_op op_pow (i2 fun _ _ _ => rfl) ha hb
/-- -x -/
def fNeg : D1 := fun x H Q => match x with
  | .int i => Q (.int (-i)) H
  | _ => False
theorem de_neg (ha : DE X a ta) : DE X (.UnaryOp .USub a pos) (dUn fNeg ta) := de_un un_neg (by
  intro H Hd x dx Q Qd rh rx q k
  unfold fNeg at q
  split at q
  · exact ⟨_, rx, k _ H (.int _) Hd .refl rh rfl q⟩
  · exact q.elim) ha
/-! + -/
def fAdd : D2 := fun x y H Q => match x, y with
  | .int i, .int j => Q (.int (i + j)) H
  | .tup xs, .tup ys => xs.length + ys.length ≤ sizeLine ∧ Q (.tup (xs ++ ys)) H
  | .str i, .str j => i.length + j.length ≤ sizeLine ∧ Q (.str (i ++ j)) H
  | .ref p, .ref q => ∃ xs ys, H p = some (.lst xs) ∧ H q = some (.lst ys) ∧ xs.length + ys.length ≤ sizeLine ∧ ∀ r, H r = none → Q (.ref r) (upD H r (.lst (xs ++ ys)))
  | _, _ => False
abbrev rAddAll (K : PySem.W.Frag) : R2 := fun x y H Q => rI0 (fun i j => .int (i + j)) x y H Q ∨ rCatA K x y H Q ∨ (∃ i j, x = .str i ∧ y = .str j ∧ i.length + j.length ≤ sizeLine ∧ Q (.str (i ++ j)) H) ∨ rCat x y H Q
theorem op_addAll : OpR X (binaryOp .Add) (rAddAll X.K) := OpR.or op_add (OpR.or op_catA (OpR.or op_add_str op_cat))
theorem de_add (ha : DE X a ta) (hb : DE X b tb) : DE X (.BinOp a .Add b pos) (dOp fAdd ta tb) := de_op op_addAll (by
  intro H Hd x y dx dy Q Qd rh rx ry q k
  unfold fAdd at q
  split at q
  · exact .inl ⟨_, _, rx, ry, k _ H (.int _) Hd .refl rh rfl q⟩
  · rename_i xs ys
    obtain ⟨p, vs, rfl, hx, lx⟩ := rx
    obtain ⟨p', us, rfl, hy, ly⟩ := ry
    refine .inr (.inl ⟨p, p', vs, us, rfl, rfl, hx, hy, by rw [← lx.length, ← ly.length]; exact q.1, fun e => ?_, fun _ e => ?_, fun _ _ r hr => ?_⟩)
    · subst e
      have e' : xs = [] := List.eq_nil_of_length_eq_zero lx.length
      subst e'
      exact k _ H (.tup ys) Hd .refl rh ⟨p', us, rfl, hy, ly⟩ q.2
    · subst e
      have e' : ys = [] := List.eq_nil_of_length_eq_zero ly.length
      subst e'
      exact k _ H (.tup (xs ++ [])) Hd .refl rh ⟨p, vs, rfl, hx, by rw [List.append_nil]; exact lx⟩ q.2
    · exact k _ _ (.tup (xs ++ ys)) Hd (.lay hr) (rh.lay hr) ⟨r, _, rfl, .of upd_same, (Stp.lay (Hd := Hd) hr).repL rh (lx.append ly)⟩ q.2
  · exact .inr (.inr (.inl ⟨_, _, rx, ry, q.1, k _ H (.str _) Hd .refl rh rfl q.2⟩))
  · obtain ⟨xs, ys, h1, h2, hz, q⟩ := q
    obtain ⟨vs, e1, l1⟩ := rh _ _ h1
    obtain ⟨us, e2, l2⟩ := rh _ _ h2
    refine .inr (.inr (.inr ⟨_, _, vs, us, rx, ry, e1, e2, by rw [← l1.length, ← l2.length]; exact hz, fun r hr => ?_⟩))
    exact k _ _ (.ref r) (upD Hd r (.lst (xs ++ ys))) (.layL hr) (rh.layL hr (l1.append l2)) rfl (q r (rh.free hr))
  · exact q.elim) ha hb
end
end DL

set_option maxHeartbeats 4000000
namespace DL
open PySem PySem.Spec L2
open PyProof.Rows hiding St
/-! ## * : ints, a tuple so many times, a list so many times -/
def rTimesT (K : PySem.W.Frag) : R2 := fun x y H Q => ∃ l k xs, x = .ref l ∧ y = .int k ∧ SqT K H l xs ∧ xs ≠ [] ∧ 2 ≤ k ∧ xs.length * k.toNat ≤ sizeLine ∧ ∀ p, H p = none → Q (.ref p) (upd H p (.tup (List.replicate k.toNat xs).flatten))
theorem times_len {α : Type} (its : List α) (n : Nat) : (List.replicate n its).flatten.length = its.length * n := by
  rw [PyProof.Rows.lm_len_rep_flat, Nat.mul_comm]
theorem op_timesT {X : Cx} : OpR X (binaryOp .Mult) (rTimesT X.K) := by
  intro pins s σ H x y v u Q I rx ry h
  obtain ⟨l, k, xs, rfl, rfl, hT, hne, h1, hz, q⟩ := h
  cases rx
  obtain ⟨t, rfl⟩ := ry
  obtain ⟨its, r, ⟨⟨cls, dd, data, sl⟩, ho, hc, n, hd⟩, _⟩ := I.tuple hT
  simp only at hc hd
  subst hc hd
  have len : its.length = xs.length := r.length.symm
  have pos : 0 < its.length := by
    rw [len]
    exact List.length_pos_iff.mpr hne
  have emp : its.toArray.isEmpty = false := by
    cases its with
    | nil => exact absurd pos (by decide)
    | cons a b => rfl
  have line : (sizeLine : Nat) = 16777216 := sizeLine_eq
  have kk : ((k.toNat : Nat) : Int) = k := Int.toNat_of_nonneg (by omega)
  have room : its.length * k.toNat ≤ sizeLine := by rw [len]; exact hz
  have big : k.toNat ≤ its.length * k.toNat := Nat.le_mul_of_pos_left _ pos
  have prod : ((its.toArray.size : Nat) : Int) * k = ((its.length * k.toNat : Nat) : Int) := by
    rw [List.size_toArray, Int.natCast_mul, kk]
  have c0 : (decide (k < -(2 ^ 63)) || decide (k ≥ 2 ^ 63)) = false := by
    have z1 : ¬ k < -(2 ^ 63) := by omega
    have z2 : ¬ k ≥ 2 ^ 63 := by omega
    rw [decide_eq_false z1, decide_eq_false z2]; rfl
  have c1 : (its.toArray.isEmpty || k == 1) = false := by
    have z : (k == 1) = false := beq_eq_false_iff_ne.mpr (by omega)
    rw [emp, z]; rfl
  have c2 : (decide (k ≤ 0) || its.toArray.isEmpty) = false := by
    have z : ¬ k ≤ 0 := by omega
    rw [emp, decide_eq_false z]; rfl
  have c4 : Builtin.Tuple.tupleTooMany (((its.toArray.size : Nat) : Int) * k) = false := by
    unfold Builtin.Tuple.tupleTooMany
    rw [prod]
    exact decide_eq_false (by omega)
  have flat : (List.replicate k.toNat its).flatten.length ≤ sizeLine := by rw [times_len]; exact room
  have go := tuple_mulW l its.toArray n dd sl k t c0 c1 c2 (by rw [prod]; omega) c4 (by rw [size_rep, List.size_toArray]; exact flat)
  refine wpAny_binaryOp_repeat_ref (T := "tuple") (U := "int") (by decide) ⟨_, ho, rfl⟩ (fun s' => typeIs_int s' k t) noFill_tuple_mul F.fills_int_mul F.slot_int_rmul
    repeat_tuple F.slot_int_index.lookup ?_
  refine call_meets F.slot_int_rmul (typeIs_int s k t) F.entry_int_rmul (F.args_int_rmul_2 _ _) (int_rmul_tuple k t l its.toArray n dd sl) ⟨ho, rfl, ⟨_, ho, rfl⟩, ?_⟩
  refine call_meets F.slot_tuple_mul ⟨_, ho, rfl⟩ F.entry_tuple_mul (F.args_tuple_mul_2 _ _) go ⟨ho, ?_⟩
  rw [size_rep]
  have fresh := I.hok.fresh (Nat.le_refl s.heap.objs.size)
  have laid := I.laid (t' := s.toks) (a := s.heap.objs.size) (o := .tup (List.replicate k.toNat xs).flatten) (fun b ob e => Heap.get?_push_of_some _ e) (Nat.le_refl _)
    ⟨by rw [times_len]; exact hz, _, r.rep k.toNat, IsTup.new _ _⟩
  exact ⟨.ref s.heap.objs.size, _, laid, rfl, q _ fresh⟩
def fMul : D2 := fun x y H Q => match x, y with
  | .int i, .int j => CMulW i j ∧ Q (.int (i * j)) H
  | .tup xs, .int k => xs ≠ [] ∧ 2 ≤ k ∧ xs.length * k.toNat ≤ sizeLine ∧ Q (.tup (List.replicate k.toNat xs).flatten) H
  | .ref p, .int k => ∃ xs, H p = some (.lst xs) ∧ -(2 ^ 63) ≤ k ∧ k < 2 ^ 63 ∧ xs.length * k.toNat ≤ sizeLine ∧ ∀ r, H r = none → Q (.ref r) (upD H r (.lst (List.replicate k.toNat xs).flatten))
  | _, _ => False
section
variable {X : Cx} {a b : Expr} {ta tb : DTE} {pos : Pos}
theorem de_mul (ha : DE X a ta) (hb : DE X b tb) : DE X (.BinOp a .Mult b pos) (dOp fMul ta tb) := de_op (OpR.or op_mulW (OpR.or op_timesT op_rep)) (by
  intro H Hd x y dx dy Q Qd rh rx ry q k
  unfold fMul at q
  split at q
  · exact .inl ⟨_, _, rx, ry, q.1, k _ H (.int _) Hd .refl rh rfl q.2⟩
  · rename_i xs n
    obtain ⟨p, vs, rfl, hx, lx⟩ := rx
    obtain ⟨q1, q2, q3, q4⟩ := q
    refine .inr (.inl ⟨p, n, vs, rfl, ry, hx, fun e => q1 (List.eq_nil_of_length_eq_zero (by rw [lx.length, e]; rfl)), q2, by rw [← lx.length]; exact q3, fun r hr => ?_⟩)
    exact k _ _ (.tup _) Hd (.lay hr) (rh.lay hr) ⟨r, _, rfl, .of upd_same, (Stp.lay (Hd := Hd) hr).repL rh (lx.rep n.toNat)⟩ q4
  · rename_i p n
    obtain ⟨xs, h1, q1, q2, q3, q4⟩ := q
    obtain ⟨vs, e1, l1⟩ := rh _ _ h1
    refine .inr (.inr ⟨p, n, vs, rx, ry, e1, q1, q2, by rw [← l1.length]; exact q3, fun r hr => ?_⟩)
    exact k _ _ (.ref r) (upD Hd r (.lst _)) (.layL hr) (rh.layL hr (l1.rep n.toNat)) rfl (q4 r (rh.free hr))
  · exact q.elim) ha hb
end
end DL

set_option maxHeartbeats 4000000
namespace DL
open PySem PySem.Spec L2
open PyProof.Rows hiding St
/-! ## == of data -/
mutual
def eqv : Dv → Dv → Bool
  | .non, y => match y with | .non => true | _ => false
  | .bl a, y => match y with | .bl b => a == b | .int j => (if a then 1 else 0) == j | _ => false
  | .int i, y => match y with | .int j => i == j | .bl b => i == (if b then 1 else 0) | _ => false
  | .str a, y => match y with | .str b => a == b | _ => false
  | .tup xs, y => match y with | .tup ys => eqvL xs ys | _ => false
  | .lsv xs, y => match y with | .lsv ys => eqvL xs ys | _ => false
  | .dcv _ _, _ => false
  | .ref _, _ => false
  | .ty _, _ => false
def eqvL : List Dv → List Dv → Bool
  | [], ys => match ys with | [] => true | _ => false
  | x :: xs, ys => match ys with | y :: ys => eqv x y && eqvL xs ys | _ => false
end
/-- no address within reach -/
def okS : Dv → Bool
  | .ref _ => false
  | .dcv _ _ => false
  | .ty _ => false
  | _ => true
/-- these two may be compared, at most n deep -/
def eqOk : Nat → Dv → Dv → Bool
  | 0, x, y => match x, y with
    | .tup _, .tup _ => false
    | .lsv _, .lsv _ => false
    | _, _ => okS x && okS y
  | n + 1, x, y => match x, y with
    | .tup xs, .tup ys => (xs.zip ys).all fun p => eqOk n p.1 p.2
    | .lsv xs, .lsv ys => (xs.length != ys.length) || (xs.zip ys).all fun p => eqOk n p.1 p.2
    | _, _ => okS x && okS y
theorem eqOk_scal {n : Nat} {x y : Dv} (h : eqOk n x y = true) : okS x = true ∧ okS y = true := by
  have two : ∀ {a b : Bool}, (a && b) = true → a = true ∧ b = true := fun {a b} h => by rw [Bool.and_eq_true] at h; exact h
  cases n with
  | zero => cases x <;> cases y <;> first | exact two h | cases h
  | succ n => cases x <;> cases y <;> first | exact ⟨rfl, rfl⟩ | exact two h
/-- the j-th items are equal -/
def pairV (xs ys : List Dv) (j : Nat) : Bool := match xs[j]?, ys[j]? with
  | some a, some b => eqv a b
  | _, _ => true
theorem eqvL_range : ∀ xs ys : List Dv, ((List.range (min xs.length ys.length)).all (pairV xs ys) && xs.length == ys.length) = eqvL xs ys
  | [], [] => rfl
  | [], _ :: _ => by simp [eqvL]
  | _ :: _, [] => by simp [eqvL]
  | x :: xs, y :: ys => by
    have ih := eqvL_range xs ys
    have e : min (x :: xs).length (y :: ys).length = min xs.length ys.length + 1 := by
      rw [List.length_cons, List.length_cons]
      omega
    rw [e, List.range_succ_eq_map, List.all_cons, List.all_map]
    show (eqv x y && _ && _) = (eqv x y && eqvL xs ys)
    rw [← ih, Bool.and_assoc]
    congr 1
    congr 1
    simp
theorem eqvL_len : ∀ {xs ys : List Dv}, eqvL xs ys = true → xs.length = ys.length
  | [], [], _ => rfl
  | [], _ :: _, h => by cases h
  | _ :: _, [], h => by cases h
  | x :: xs, y :: ys, h => by
    have h' : (eqv x y && eqvL xs ys) = true := h
    rw [Bool.and_eq_true] at h'
    rw [List.length_cons, List.length_cons, eqvL_len h'.2]
section
variable {X : Cx} {pins : List (Addr × Obj)} {σ : St} {H : Hp} {s : Shared}
/-- both comparisons and the one within in, list.index .. -/
structure Cmp (A : Around) (s : Shared) (u v : Value) (b : Bool) : Prop where
  eq : SeqAt.EqAt A s u v b
  rc : SeqAt.RcAt A s u v b
  ne : SeqAt.RcNeAt A s u v (!b)
theorem rep_eqv {K : PySem.W.Frag} (inj : ∀ {a : Addr} {xs ys : List V}, SqT K H a xs → SqT K H a ys → xs = ys) (inj' : ∀ {a : Addr} {xs ys : List V}, FxL K H a xs → FxL K H a ys → xs = ys)
    (mix : ∀ {a : Addr} {xs ys : List V}, SqT K H a xs → FxL K H a ys → False) : ∀ (n : Nat) (x y : Dv) (v : V), eqOk n x y = true → Rep K H x v → Rep K H y v → eqv x y = true := by
  have scal : ∀ (x y : Dv) (v : V), okS x = true → okS y = true → (∀ xs ys, x = .tup xs → y = .tup ys → False) → (∀ xs ys, x = .lsv xs → y = .lsv ys → False) → Rep K H x v → Rep K H y v → eqv x y = true := by
    intro x y v ox oy nt nl hx hy
    cases x with
    | tup xs =>
      obtain ⟨a, vs, rfl, q, l⟩ := hx
      cases y with
      | tup ys => exact (nt _ _ rfl rfl).elim
      | lsv ys => obtain ⟨b, us, e, q', _⟩ := hy; cases e; exact (mix q q').elim
      | ref b => cases oy
      | dcv _ _ => cases oy
      | _ => cases (show V.ref a = _ from hy)
    | lsv xs =>
      obtain ⟨a, vs, rfl, q, l⟩ := hx
      cases y with
      | lsv ys => exact (nl _ _ rfl rfl).elim
      | tup ys => obtain ⟨b, us, e, q', _⟩ := hy; cases e; exact (mix q' q).elim
      | ref b => cases oy
      | dcv _ _ => cases oy
      | _ => cases (show V.ref a = _ from hy)
    | non => cases (show v = _ from hx); cases y <;> first | rfl | (obtain ⟨_, _, e, _⟩ := hy; cases e) | cases (show V.non = _ from hy)
    | bl b => cases (show v = _ from hx); cases y <;> first | (cases (show V.bl b = _ from hy); exact beq_self_eq_true b) | (obtain ⟨_, _, e, _⟩ := hy; cases e) | cases (show V.bl b = _ from hy)
    | int b => cases (show v = _ from hx); cases y <;> first | (cases (show V.int b = _ from hy); exact beq_self_eq_true b) | (obtain ⟨_, _, e, _⟩ := hy; cases e) | cases (show V.int b = _ from hy)
    | str b => cases (show v = _ from hx); cases y <;> first | (cases (show V.str b = _ from hy); exact beq_self_eq_true b) | (obtain ⟨_, _, e, _⟩ := hy; cases e) | cases (show V.str b = _ from hy)
    | _ => cases ox
  have all : ∀ (n : Nat), (∀ (x y : Dv) (v : V), eqOk n x y = true → Rep K H x v → Rep K H y v → eqv x y = true) →
      ∀ (xs ys : List Dv) (vs : List V), ((xs.zip ys).all fun p => eqOk n p.1 p.2) = true → RepL K H xs vs → RepL K H ys vs → eqvL xs ys = true := by
    intro n ih xs
    induction xs with
    | nil =>
      intro ys vs _ hx hy
      have e : vs = [] := hx
      subst e
      have : ys = [] := List.eq_nil_of_length_eq_zero hy.length
      subst this
      rfl
    | cons x xs ihx =>
      intro ys vs hk hx hy
      obtain ⟨v, t, rfl, h1, h2⟩ := hx
      cases ys with
      | nil => cases (show v :: t = [] from hy)
      | cons y ys =>
        obtain ⟨v', t', e, g1, g2⟩ := hy
        cases e
        rw [List.zip_cons_cons, List.all_cons, Bool.and_eq_true] at hk
        show (eqv x y && eqvL xs ys) = true
        rw [ih x y v hk.1 h1 g1, ihx ys t hk.2 h2 g2]; rfl
  intro n
  induction n with
  | zero =>
    intro x y v hk hx hy
    exact scal x y v (eqOk_scal hk).1 (eqOk_scal hk).2 (fun xs ys e1 e2 => by subst e1 e2; cases hk) (fun xs ys e1 e2 => by subst e1 e2; cases hk) hx hy
  | succ n ih =>
    intro x y v hk hx hy
    by_cases ht : ∃ xs ys, x = .tup xs ∧ y = .tup ys
    · obtain ⟨xs, ys, rfl, rfl⟩ := ht
      obtain ⟨a, vs, rfl, q, l⟩ := hx
      obtain ⟨a', us, e, q', l'⟩ := hy
      cases e
      have := inj q q'
      subst this
      exact all n ih xs ys vs hk l l'
    · by_cases hl : ∃ xs ys, x = .lsv xs ∧ y = .lsv ys
      · obtain ⟨xs, ys, rfl, rfl⟩ := hl
        obtain ⟨a, vs, rfl, q, l⟩ := hx
        obtain ⟨a', us, e, q', l'⟩ := hy
        cases e
        have := inj' q q'
        subst this
        have hk' : ((xs.length != ys.length) || (xs.zip ys).all fun p => eqOk n p.1 p.2) = true := hk
        rw [l.length, l'.length, bne_self_eq_false, Bool.false_or] at hk'
        exact all n ih xs ys vs hk' l l'
      · exact scal x y v (eqOk_scal hk).1 (eqOk_scal hk).2 (fun xs ys e1 e2 => ht ⟨xs, ys, e1, e2⟩) (fun xs ys e1 e2 => hl ⟨xs, ys, e1, e2⟩) hx hy
theorem cmp_scal (I : Inv X pins σ H s) {A : Around} {x y : Dv} {v w : V} {u z : Value} (hx : okS x = true) (hy : okS y = true) (ht : ∀ xs ys, x = .tup xs → y = .tup ys → False) (hl : ∀ xs ys, x = .lsv xs → y = .lsv ys → False)
    (rx : Rep X.K H x v) (ry : Rep X.K H y w) (ru : RelV v u) (rz : RelV w z) (hu : A.units < cLine) : Cmp A s u z (eqv x y) := by
  have tup : ∀ {xs : List Dv} {v : V} {u : Value}, Rep X.K H (.tup xs) v → RelV v u → ∃ a its, u = .ref a ∧ s.heap.IsTuple a its := fun {xs v u} r q => by
    obtain ⟨a, vs, rfl, h, _⟩ := r
    obtain ⟨its, _, p, _⟩ := I.tuple h
    exact ⟨a, _, q, p⟩
  have lst : ∀ {xs : List Dv} {v : V} {u : Value}, Rep X.K H (.lsv xs) v → RelV v u → ∃ a its, u = .ref a ∧ s.heap.IsList a its := fun {xs v u} r q => by
    obtain ⟨a, vs, rfl, h, _⟩ := r
    obtain ⟨its, _, p, _⟩ := I.list h.sq
    exact ⟨a, _, q, p.isList⟩
  cases x with
  | non =>
    cases (show v = .non from rx)
    cases ru
    cases y with
    | non => cases (show w = .non from ry); cases rz; exact ⟨SeqAt.EqAt.same _, SeqAt.RcAt.none_none, SeqAt.RcNeAt.none_none⟩
    | bl b => cases (show w = .bl b from ry); cases rz; exact ⟨SeqAt.EqAt.none_bool _, SeqAt.RcAt.none_bool _, SeqAt.RcNeAt.none_bool _⟩
    | int b => cases (show w = .int b from ry); obtain ⟨t, rfl⟩ := rz; exact ⟨SeqAt.EqAt.none_int _ _, SeqAt.RcAt.none_int _ _, SeqAt.RcNeAt.none_int _ _⟩
    | str b => cases (show w = .str b from ry); obtain ⟨t, rfl⟩ := rz; exact ⟨SeqAt.EqAt.none_str _ _, SeqAt.RcAt.none_str _ _, SeqAt.RcNeAt.none_str _ _⟩
    | tup ys => obtain ⟨b, its', rfl, p'⟩ := tup ry rz; exact ⟨SeqAt.EqAt.none_tuple p' hu, SeqAt.RcAt.none_tuple p' hu, SeqAt.RcNeAt.none_tuple p' hu⟩
    | lsv ys => obtain ⟨b, its', rfl, p'⟩ := lst ry rz; exact ⟨SeqAt.EqAt.none_list p' hu, SeqAt.RcAt.none_list p' hu, SeqAt.RcNeAt.none_list p' hu⟩
    | _ => cases hy
  | bl c =>
    cases (show v = .bl c from rx)
    cases ru
    cases y with
    | non => cases (show w = .non from ry); cases rz; exact ⟨SeqAt.EqAt.bool_none _, SeqAt.RcAt.bool_none _, SeqAt.RcNeAt.bool_none _⟩
    | bl b => cases (show w = .bl b from ry); cases rz; exact ⟨SeqAt.EqAt.bool_bool _ _, SeqAt.RcAt.bool_bool _ _, SeqAt.RcNeAt.bool_bool _ _⟩
    | int b => cases (show w = .int b from ry); obtain ⟨t, rfl⟩ := rz; exact ⟨SeqAt.EqAt.bool_int _ _ _, SeqAt.RcAt.bool_int _ _ _, SeqAt.RcNeAt.bool_int _ _ _⟩
    | str b => cases (show w = .str b from ry); obtain ⟨t, rfl⟩ := rz; exact ⟨SeqAt.EqAt.bool_str _ _ _, SeqAt.RcAt.bool_str _ _ _, SeqAt.RcNeAt.bool_str _ _ _⟩
    | tup ys => obtain ⟨b, its', rfl, p'⟩ := tup ry rz; exact ⟨SeqAt.EqAt.bool_tuple _ p' hu, SeqAt.RcAt.bool_tuple _ p' hu, SeqAt.RcNeAt.bool_tuple _ p' hu⟩
    | lsv ys => obtain ⟨b, its', rfl, p'⟩ := lst ry rz; exact ⟨SeqAt.EqAt.bool_list _ p' hu, SeqAt.RcAt.bool_list _ p' hu, SeqAt.RcNeAt.bool_list _ p' hu⟩
    | _ => cases hy
  | int c =>
    cases (show v = .int c from rx)
    obtain ⟨t0, rfl⟩ := ru
    cases y with
    | non => cases (show w = .non from ry); cases rz; exact ⟨SeqAt.EqAt.int_none _ _, SeqAt.RcAt.int_none _ _, SeqAt.RcNeAt.int_none _ _⟩
    | bl b => cases (show w = .bl b from ry); cases rz; exact ⟨SeqAt.EqAt.int_bool _ _ _, SeqAt.RcAt.int_bool _ _ _, SeqAt.RcNeAt.int_bool _ _ _⟩
    | int b => cases (show w = .int b from ry); obtain ⟨t, rfl⟩ := rz; exact ⟨SeqAt.EqAt.int_int _ _ _ _, SeqAt.RcAt.int_int _ _ _ _, SeqAt.RcNeAt.int_int _ _ _ _⟩
    | str b => cases (show w = .str b from ry); obtain ⟨t, rfl⟩ := rz; exact ⟨SeqAt.EqAt.int_str _ _ _ _, SeqAt.RcAt.int_str _ _ _ _, SeqAt.RcNeAt.int_str _ _ _ _⟩
    | tup ys => obtain ⟨b, its', rfl, p'⟩ := tup ry rz; exact ⟨SeqAt.EqAt.int_tuple _ _ p' hu, SeqAt.RcAt.int_tuple _ _ p' hu, SeqAt.RcNeAt.int_tuple _ _ p' hu⟩
    | lsv ys => obtain ⟨b, its', rfl, p'⟩ := lst ry rz; exact ⟨SeqAt.EqAt.int_list _ _ p' hu, SeqAt.RcAt.int_list _ _ p' hu, SeqAt.RcNeAt.int_list _ _ p' hu⟩
    | _ => cases hy
  | str c =>
    cases (show v = .str c from rx)
    obtain ⟨t0, rfl⟩ := ru
    cases y with
    | non => cases (show w = .non from ry); cases rz; exact ⟨SeqAt.EqAt.str_none _ _, SeqAt.RcAt.str_none _ _, SeqAt.RcNeAt.str_none _ _⟩
    | bl b => cases (show w = .bl b from ry); cases rz; exact ⟨SeqAt.EqAt.str_bool _ _ _, SeqAt.RcAt.str_bool _ _ _, SeqAt.RcNeAt.str_bool _ _ _⟩
    | int b => cases (show w = .int b from ry); obtain ⟨t, rfl⟩ := rz; exact ⟨SeqAt.EqAt.str_int _ _ _ _, SeqAt.RcAt.str_int _ _ _ _, SeqAt.RcNeAt.str_int _ _ _ _⟩
    | str b => cases (show w = .str b from ry); obtain ⟨t, rfl⟩ := rz; exact ⟨SeqAt.EqAt.str_str _ _ _ _, SeqAt.RcAt.str_str _ _ _ _, SeqAt.RcNeAt.str_str _ _ _ _⟩
    | tup ys => obtain ⟨b, its', rfl, p'⟩ := tup ry rz; exact ⟨SeqAt.EqAt.str_tuple _ _ p' hu, SeqAt.RcAt.str_tuple _ _ p' hu, SeqAt.RcNeAt.str_tuple _ _ p' hu⟩
    | lsv ys => obtain ⟨b, its', rfl, p'⟩ := lst ry rz; exact ⟨SeqAt.EqAt.str_list _ _ p' hu, SeqAt.RcAt.str_list _ _ p' hu, SeqAt.RcNeAt.str_list _ _ p' hu⟩
    | _ => cases hy
  | tup xs =>
    obtain ⟨a, its, rfl, p⟩ := tup rx ru
    cases y with
    | non => cases (show w = .non from ry); cases rz; exact ⟨SeqAt.EqAt.tuple_none p hu, SeqAt.RcAt.tuple_none p hu, SeqAt.RcNeAt.tuple_none p hu⟩
    | bl b => cases (show w = .bl b from ry); cases rz; exact ⟨SeqAt.EqAt.tuple_bool _ p hu, SeqAt.RcAt.tuple_bool _ p hu, SeqAt.RcNeAt.tuple_bool _ p hu⟩
    | int b => cases (show w = .int b from ry); obtain ⟨t, rfl⟩ := rz; exact ⟨SeqAt.EqAt.tuple_int _ _ p hu, SeqAt.RcAt.tuple_int _ _ p hu, SeqAt.RcNeAt.tuple_int _ _ p hu⟩
    | str b => cases (show w = .str b from ry); obtain ⟨t, rfl⟩ := rz; exact ⟨SeqAt.EqAt.tuple_str _ _ p hu, SeqAt.RcAt.tuple_str _ _ p hu, SeqAt.RcNeAt.tuple_str _ _ p hu⟩
    | tup ys => exact (ht _ _ rfl rfl).elim
    | lsv ys => obtain ⟨b, its', rfl, p'⟩ := lst ry rz; exact ⟨SeqAt.EqAt.tuple_list p p' hu, SeqAt.RcAt.tuple_list p p' hu, SeqAt.RcNeAt.tuple_list p p' hu⟩
    | _ => cases hy
  | lsv xs =>
    obtain ⟨a, its, rfl, p⟩ := lst rx ru
    cases y with
    | non => cases (show w = .non from ry); cases rz; exact ⟨SeqAt.EqAt.list_none p hu, SeqAt.RcAt.list_none p hu, SeqAt.RcNeAt.list_none p hu⟩
    | bl b => cases (show w = .bl b from ry); cases rz; exact ⟨SeqAt.EqAt.list_bool _ p hu, SeqAt.RcAt.list_bool _ p hu, SeqAt.RcNeAt.list_bool _ p hu⟩
    | int b => cases (show w = .int b from ry); obtain ⟨t, rfl⟩ := rz; exact ⟨SeqAt.EqAt.list_int _ _ p hu, SeqAt.RcAt.list_int _ _ p hu, SeqAt.RcNeAt.list_int _ _ p hu⟩
    | str b => cases (show w = .str b from ry); obtain ⟨t, rfl⟩ := rz; exact ⟨SeqAt.EqAt.list_str _ _ p hu, SeqAt.RcAt.list_str _ _ p hu, SeqAt.RcNeAt.list_str _ _ p hu⟩
    | tup ys => obtain ⟨b, its', rfl, p'⟩ := tup ry rz; exact ⟨SeqAt.EqAt.list_tuple p p' hu, SeqAt.RcAt.list_tuple p p' hu, SeqAt.RcNeAt.list_tuple p p' hu⟩
    | lsv ys => exact (hl _ _ rfl rfl).elim
    | _ => cases hy
  | _ => cases hx
/-- items of two rows, compared one by one -/
theorem cmp_items (I : Inv X pins σ H s) {A : Around} {n : Nat} (ih : ∀ (x y : Dv) (v w : V) (u z : Value), eqOk n x y = true → Rep X.K H x v → Rep X.K H y w → RelV v u → RelV w z → Cmp A s u z (eqv x y))
    {xs ys : List Dv} {vs ws : List V} {us zs : List Value} (hk : ((xs.zip ys).all fun p => eqOk n p.1 p.2) = true) (rx : RepL X.K H xs vs) (ry : RepL X.K H ys ws) (ru : Vals vs us) (rz : Vals ws zs) :
    ∀ j (h1 : j < us.toArray.size) (h2 : j < zs.toArray.size), SeqAt.EqAt A s us.toArray[j] zs.toArray[j] (pairV xs ys j) := by
  intro j h1 h2
  have h1' : j < us.length := by simpa using h1
  have h2' : j < zs.length := by simpa using h2
  have l1 : xs.length = us.length := rx.length.trans ru.length
  have l2 : ys.length = zs.length := ry.length.trans rz.length
  have ex : xs[j]? = some xs[j] := List.getElem?_eq_getElem (by omega)
  have ey : ys[j]? = some ys[j] := List.getElem?_eq_getElem (by omega)
  obtain ⟨v, ev, rv⟩ := rx.get ex
  obtain ⟨w, ew, rw'⟩ := ry.get ey
  obtain ⟨u, eu, qu⟩ := ru.get ev
  obtain ⟨z, ez, qz⟩ := rz.get ew
  have du : us.toArray[j] = u := by
    have := List.getElem?_eq_getElem h1'
    rw [eu] at this
    simpa using (Option.some.inj this).symm
  have dz : zs.toArray[j] = z := by
    have := List.getElem?_eq_getElem h2'
    rw [ez] at this
    simpa using (Option.some.inj this).symm
  have ep : pairV xs ys j = eqv xs[j] ys[j] := by unfold pairV; rw [ex, ey]
  rw [du, dz, ep]
  refine (ih _ _ v w u z ?_ rv rw' qu qz).eq
  have mem : (xs[j], ys[j]) ∈ xs.zip ys := by
    have : (xs.zip ys)[j]? = some (xs[j], ys[j]) := by rw [List.getElem?_zip_eq_some]; exact ⟨ex, ey⟩
    exact List.mem_of_getElem? this
  exact List.all_eq_true.mp hk _ mem
theorem cmp_data (I : Inv X pins σ H s) : ∀ (n : Nat) (A : Around), A.units + n < cLine → ∀ (x y : Dv) (v w : V) (u z : Value), eqOk n x y = true → Rep X.K H x v → Rep X.K H y w → RelV v u → RelV w z → Cmp A s u z (eqv x y) := by
  intro n
  induction n with
  | zero =>
    intro A hu x y v w u z hk rx ry ru rz
    exact cmp_scal I (eqOk_scal hk).1 (eqOk_scal hk).2 (fun xs ys e1 e2 => by subst e1 e2; cases hk) (fun xs ys e1 e2 => by subst e1 e2; cases hk) rx ry ru rz (by omega)
  | succ n ih =>
    intro A hu x y v w u z hk rx ry ru rz
    have hu0 : A.units < cLine := by omega
    have whole := rep_eqv (K := X.K) (H := H) (fun h h' => I.tuple_inj h h') (fun h h' => I.list_inj h.sq h'.sq) (fun {a xs ys} h h' => by
      obtain ⟨its, _, ⟨o, e, c, _⟩, _⟩ := I.tuple h
      obtain ⟨its', _, ⟨o', n', e', c', _⟩, _⟩ := I.list h'.sq
      rw [e] at e'
      cases e'
      rw [c] at c'
      exact absurd c' (by decide)) (n + 1) x y
    by_cases ht : ∃ xs ys, x = .tup xs ∧ y = .tup ys
    · obtain ⟨xs, ys, rfl, rfl⟩ := ht
      have whole' := fun q => whole v hk rx q
      obtain ⟨a, vs, rfl, h1, g1⟩ := rx
      have ry' := ry
      obtain ⟨b, ws, rfl, h2, g2⟩ := ry
      cases ru
      cases rz
      obtain ⟨us, r1, p1, _⟩ := I.tuple h1
      obtain ⟨zs, r2, p2, _⟩ := I.tuple h2
      have items := cmp_items (A := A.in1) I (fun x y v w u z => ih A.in1 (by show A.units + 1 + n < cLine; omega) x y v w u z) hk g1 g2 r1 r2
      have l1 : us.toArray.size = xs.length := by rw [List.size_toArray]; exact (g1.length.trans r1.length).symm
      have l2 : zs.toArray.size = ys.length := by rw [List.size_toArray]; exact (g2.length.trans r2.length).symm
      have rc := SeqAt.RcAt.tuples (A := A) p1 p2 hu0 items
      have ne := SeqAt.RcNeAt.tuples (A := A) p1 p2 hu0 items
      rw [l1, l2, eqvL_range xs ys] at rc ne
      refine ⟨?_, rc, ne⟩
      by_cases hab : a = b
      · subst hab
        rw [whole' ry']
        exact SeqAt.EqAt.same _
      · exact SeqAt.EqAt.of_refs hab rc
    · by_cases hl : ∃ xs ys, x = .lsv xs ∧ y = .lsv ys
      · obtain ⟨xs, ys, rfl, rfl⟩ := hl
        have whole' := fun q => whole v hk rx q
        obtain ⟨a, vs, rfl, h1, g1⟩ := rx
        have ry' := ry
        obtain ⟨b, ws, rfl, h2, g2⟩ := ry
        cases ru
        cases rz
        obtain ⟨us, r1, p1, _⟩ := I.list h1.sq
        obtain ⟨zs, r2, p2, _⟩ := I.list h2.sq
        have l1 : us.toArray.size = xs.length := by rw [List.size_toArray]; exact (g1.length.trans r1.length).symm
        have l2 : zs.toArray.size = ys.length := by rw [List.size_toArray]; exact (g2.length.trans r2.length).symm
        have both : SeqAt.RcAt A s (.ref a) (.ref b) (eqvL xs ys) ∧ SeqAt.RcNeAt A s (.ref a) (.ref b) (!eqvL xs ys) := by
          by_cases hlen : xs.length = ys.length
          · have hk' : ((xs.length != ys.length) || (xs.zip ys).all fun p => eqOk n p.1 p.2) = true := hk
            rw [hlen, bne_self_eq_false, Bool.false_or] at hk'
            have items := cmp_items (A := A.in1) I (fun x y v w u z => ih A.in1 (by show A.units + 1 + n < cLine; omega) x y v w u z) hk' g1 g2 r1 r2
            have e := eqvL_range xs ys
            rw [hlen, Nat.min_self, beq_self_eq_true, Bool.and_true] at e
            have rc := SeqAt.RcAt.lists (A := A) p1.isList p2.isList (by rw [l1, l2, hlen]) hu0 items
            have ne := SeqAt.RcNeAt.lists (A := A) p1.isList p2.isList (by rw [l1, l2, hlen]) hu0 items
            rw [l1, hlen, e] at rc ne
            exact ⟨rc, ne⟩
          · have f : eqvL xs ys = false := by
              cases e : eqvL xs ys with
              | false => rfl
              | true => exact absurd (eqvL_len e) hlen
            have sz : (us.toArray.size != zs.toArray.size) = true := by rw [l1, l2]; simpa using hlen
            rw [f]
            exact ⟨SeqAt.RcAt.lists_lengths p1.isList p2.isList sz hu0, SeqAt.RcNeAt.lists_lengths p1.isList p2.isList sz hu0⟩
        refine ⟨?_, both.1, both.2⟩
        by_cases hab : a = b
        · subst hab
          show SeqAt.EqAt A s (.ref a) (.ref a) (eqv (.lsv xs) (.lsv ys))
          rw [whole' ry']
          exact SeqAt.EqAt.same _
        · exact SeqAt.EqAt.of_refs hab both.1
      · exact cmp_scal I (eqOk_scal hk).1 (eqOk_scal hk).2 (fun xs ys e1 e2 => ht ⟨xs, ys, e1, e2⟩) (fun xs ys e1 e2 => hl ⟨xs, ys, e1, e2⟩) rx ry ru rz hu0
end
end DL

set_option maxHeartbeats 4000000
namespace DL
open PySem PySem.Spec L2
open PyProof.Rows hiding St
/-- a reading by values as a rule below -/
def lR (K : PySem.W.Frag) (f : D2) : R2 := fun x y H Q => ∃ dx dy Hd Qd, RepH K H Hd ∧ Rep K H dx x ∧ Rep K H dy y ∧ f dx dy Hd Qd ∧ KE K H Hd Qd Q
theorem lR_ok {K : PySem.W.Frag} {f : D2} : R2Ok K (lR K f) f := fun H Hd x y dx dy Q Qd rh rx ry q k => ⟨dx, dy, Hd, Qd, rh, rx, ry, q, k⟩
def fEq (g : Bool → Bool) : D2 := fun x y H Q => match x, y with
  | .ref p, .ref q => ∃ xs ys, H p = some (.lst xs) ∧ H q = some (.lst ys) ∧ (xs.length = ys.length → ((xs.zip ys).all fun r => eqOk 59 r.1 r.2) = true) ∧ Q (.bl (g (eqvL xs ys))) H
  | .ref p, .lsv ys => ∃ xs, H p = some (.lst xs) ∧ (xs.length = ys.length → ((xs.zip ys).all fun r => eqOk 59 r.1 r.2) = true) ∧ Q (.bl (g (eqvL xs ys))) H
  | .lsv xs, .ref q => ∃ ys, H q = some (.lst ys) ∧ (xs.length = ys.length → ((xs.zip ys).all fun r => eqOk 59 r.1 r.2) = true) ∧ Q (.bl (g (eqvL xs ys))) H
  | x, y => eqOk 60 x y = true ∧ Q (.bl (g (eqv x y))) H
section
variable {X : Cx} {a b c : Expr} {ta tb tc : DTE} {pos : Pos}
theorem list_cmp {pins : List (Addr × Obj)} {σ : St} {H : Hp} {s : Shared} (I : Inv X pins σ H s) (hu : X.A.units + 64 < cLine) {p q : Addr} {vs ws : List V} {xs ys : List Dv} (e1 : SqL X.K H p vs) (e2 : SqL X.K H q ws) (l1 : RepL X.K H xs vs) (l2 : RepL X.K H ys ws)
    (hk : xs.length = ys.length → ((xs.zip ys).all fun r => eqOk 59 r.1 r.2) = true) : SeqAt.RcAt X.A s (.ref p) (.ref q) (eqvL xs ys) ∧ SeqAt.RcNeAt X.A s (.ref p) (.ref q) (!eqvL xs ys) := by
  obtain ⟨us, r1, p1, _⟩ := I.list e1
  obtain ⟨zs, r2, p2, _⟩ := I.list e2
  have n1 : us.toArray.size = xs.length := by rw [List.size_toArray]; exact (l1.length.trans r1.length).symm
  have n2 : zs.toArray.size = ys.length := by rw [List.size_toArray]; exact (l2.length.trans r2.length).symm
  have hu0 : X.A.units < cLine := by omega
  by_cases hl : xs.length = ys.length
  · have items := cmp_items (A := X.A.in1) I (fun x y v w u z => cmp_data I 59 X.A.in1 (by show X.A.units + 1 + 59 < cLine; omega) x y v w u z) (hk hl) l1 l2 r1 r2
    have e := eqvL_range xs ys
    have sz : us.toArray.size = zs.toArray.size := by rw [n1, n2, hl]
    have rc := SeqAt.RcAt.lists (A := X.A) p1.isList p2.isList sz hu0 items
    have ne := SeqAt.RcNeAt.lists (A := X.A) p1.isList p2.isList sz hu0 items
    have e3 : (List.range us.toArray.size).all (pairV xs ys) = eqvL xs ys := by
      rw [← e, n1, hl, Nat.min_self, beq_self_eq_true, Bool.and_true]
    rw [e3] at rc ne
    exact ⟨rc, ne⟩
  · have f : eqvL xs ys = false := by
      cases e : eqvL xs ys with
      | false => rfl
      | true => exact absurd (eqvL_len e) hl
    have sz : (us.toArray.size != zs.toArray.size) = true := by rw [n1, n2]; simpa using hl
    rw [f]
    exact ⟨SeqAt.RcAt.lists_lengths p1.isList p2.isList sz hu0, SeqAt.RcNeAt.lists_lengths p1.isList p2.isList sz hu0⟩
theorem op_eqAny (hu : X.A.units + 64 < cLine) : OpR X (compareOp .Eq) (lR X.K (fEq fun k => k)) := by
  intro pins s σ H x y v u Q I rx ry ⟨dx, dy, Hd, Qd, rh, px, py, q, k⟩
  have fin : ∀ b, Qd (.bl b) Hd → EP X pins σ Q (.bool b) s := fun b z => ⟨.bl b, H, I, rfl, k _ H (.bl b) Hd .refl rh rfl z⟩
  unfold fEq at q
  split at q
  · obtain ⟨xs, ys, h1, h2, hk, q⟩ := q
    obtain ⟨vs, e1, l1⟩ := rh _ _ h1
    obtain ⟨ws, e2, l2⟩ := rh _ _ h2
    cases (show x = .ref _ from px)
    cases (show y = .ref _ from py)
    cases rx
    cases ry
    exact (list_cmp I hu (.of e1) (.of e2) l1 l2 hk).1 X.prog X.w X.xe _ (fin _ q)
  · obtain ⟨xs, h1, hk, q⟩ := q
    obtain ⟨vs, e1, l1⟩ := rh _ _ h1
    obtain ⟨b, ws, rfl, e2, l2⟩ := py
    cases (show x = .ref _ from px)
    cases rx
    cases ry
    exact (list_cmp I hu (.of e1) e2.sq l1 l2 hk).1 X.prog X.w X.xe _ (fin _ q)
  · obtain ⟨ys, h1, hk, q⟩ := q
    obtain ⟨ws, e2, l2⟩ := rh _ _ h1
    obtain ⟨b, vs, rfl, e1, l1⟩ := px
    cases (show y = .ref _ from py)
    cases rx
    cases ry
    exact (list_cmp I hu e1.sq (.of e2) l1 l2 hk).1 X.prog X.w X.xe _ (fin _ q)
  · exact (cmp_data I 60 X.A (by omega) dx dy x y v u q.1 px py rx ry).rc X.prog X.w X.xe _ (fin _ q.2)
theorem op_neAny (hu : X.A.units + 64 < cLine) : OpR X (compareOp .NotEq) (lR X.K (fEq fun k => !k)) := by
  intro pins s σ H x y v u Q I rx ry ⟨dx, dy, Hd, Qd, rh, px, py, q, k⟩
  have fin : ∀ b, Qd (.bl b) Hd → EP X pins σ Q (.bool b) s := fun b z => ⟨.bl b, H, I, rfl, k _ H (.bl b) Hd .refl rh rfl z⟩
  unfold fEq at q
  split at q
  · obtain ⟨xs, ys, h1, h2, hk, q⟩ := q
    obtain ⟨vs, e1, l1⟩ := rh _ _ h1
    obtain ⟨ws, e2, l2⟩ := rh _ _ h2
    cases (show x = .ref _ from px)
    cases (show y = .ref _ from py)
    cases rx
    cases ry
    exact (list_cmp I hu (.of e1) (.of e2) l1 l2 hk).2 X.prog X.w X.xe _ (fin _ q)
  · obtain ⟨xs, h1, hk, q⟩ := q
    obtain ⟨vs, e1, l1⟩ := rh _ _ h1
    obtain ⟨b, ws, rfl, e2, l2⟩ := py
    cases (show x = .ref _ from px)
    cases rx
    cases ry
    exact (list_cmp I hu (.of e1) e2.sq l1 l2 hk).2 X.prog X.w X.xe _ (fin _ q)
  · obtain ⟨ys, h1, hk, q⟩ := q
    obtain ⟨ws, e2, l2⟩ := rh _ _ h1
    obtain ⟨b, vs, rfl, e1, l1⟩ := px
    cases (show y = .ref _ from py)
    cases rx
    cases ry
    exact (list_cmp I hu e1.sq (.of e2) l1 l2 hk).2 X.prog X.w X.xe _ (fin _ q)
  · exact (cmp_data I 60 X.A (by omega) dx dy x y v u q.1 px py rx ry).ne X.prog X.w X.xe _ (fin _ q.2)
/-! in, not in -/
def fIn (g : Bool → Bool) : D2 := fun x y H Q => match y with
  | .tup ds => (ds.all fun d => eqOk 59 d x) = true ∧ Q (.bl (g (ds.any fun d => eqv d x))) H
  | .lsv ds => (ds.all fun d => eqOk 59 d x) = true ∧ Q (.bl (g (ds.any fun d => eqv d x))) H
  | .ref p => ∃ ds, H p = some (.lst ds) ∧ (ds.all fun d => eqOk 59 d x) = true ∧ Q (.bl (g (ds.any fun d => eqv d x))) H
  | _ => False
theorem in_items {pins : List (Addr × Obj)} {σ : St} {H : Hp} {s : Shared} (I : Inv X pins σ H s) (hu : X.A.units + 64 < cLine) {x : V} {v : Value} {dx : Dv} (px : Rep X.K H dx x) (rx : RelV x v) {ds : List Dv} {vs : List V} {us : List Value} (l : RepL X.K H ds vs) (r : Vals vs us)
    (hk : (ds.all fun d => eqOk 59 d dx) = true) : ∃ e : Value → Bool, us.toArray.any e = (ds.any fun d => eqv d dx) ∧ ∀ y, y ∈ us.toArray → SeqAt.EqAt X.A.in1 s y v (e y) := by
  classical
  have n : ds.length = us.length := l.length.trans r.length
  have pair : ∀ (j : Nat) (d : Dv) (u : Value), ds[j]? = some d → us[j]? = some u → SeqAt.EqAt X.A.in1 s u v (eqv d dx) := fun j d u e1 e2 => by
    obtain ⟨w, ew, rw'⟩ := l.get e1
    obtain ⟨u', eu, qu⟩ := r.get ew
    rw [e2] at eu
    cases eu
    exact (cmp_data I 59 X.A.in1 (by show X.A.units + 1 + 59 < cLine; omega) d dx w x u v (List.all_eq_true.mp hk d (List.mem_of_getElem? e1)) rw' px qu rx).eq
  refine ⟨fun y => decide (∃ (j : Nat) (d : Dv), us[j]? = some y ∧ ds[j]? = some d ∧ eqv d dx = true), ?_, fun y hy => ?_⟩
  · rw [Bool.eq_iff_iff]
    simp only [List.any_toArray, List.any_eq_true, decide_eq_true_eq]
    constructor
    · rintro ⟨y, _, j, d, _, e2, e3⟩
      exact ⟨d, List.mem_of_getElem? e2, e3⟩
    · rintro ⟨d, hd, e3⟩
      obtain ⟨j, hj, ed⟩ := List.getElem_of_mem hd
      have hj' : j < us.length := by omega
      exact ⟨us[j], List.getElem_mem hj', j, d, List.getElem?_eq_getElem hj', by rw [List.getElem?_eq_getElem hj, ed], e3⟩
  · show SeqAt.EqAt X.A.in1 s y v (decide (∃ (j : Nat) (d : Dv), us[j]? = some y ∧ ds[j]? = some d ∧ eqv d dx = true))
    by_cases h : ∃ (j : Nat) (d : Dv), us[j]? = some y ∧ ds[j]? = some d ∧ eqv d dx = true
    · rw [decide_eq_true h]
      obtain ⟨j, d, e1, e2, e3⟩ := h
      have := pair j d y e2 e1
      rw [e3] at this
      exact this
    · rw [decide_eq_false h]
      obtain ⟨j, hj, ey⟩ := List.getElem_of_mem (show y ∈ us by simpa using hy)
      have e1 : us[j]? = some y := by rw [List.getElem?_eq_getElem hj, ey]
      have e2 : ds[j]? = some ds[j] := List.getElem?_eq_getElem (by omega)
      have := pair j _ y e2 e1
      have f : eqv ds[j] dx = false := by
        cases e : eqv ds[j] dx with
        | false => rfl
        | true => exact absurd ⟨j, _, e1, e2, e⟩ h
      rw [f] at this
      exact this
theorem op_inAny (hu : X.A.units + 64 < cLine) : OpR X (compareOp .In) (lR X.K (fIn fun k => k)) := by
  intro pins s σ H x y v u Q I rx ry ⟨dx, dy, Hd, Qd, rh, px, py, q, k⟩
  have fin : ∀ b, Qd (.bl b) Hd → EP X pins σ Q (.bool b) s := fun b z => ⟨.bl b, H, I, rfl, k _ H (.bl b) Hd .refl rh rfl z⟩
  unfold fIn at q
  split at q
  · obtain ⟨a, vs, rfl, h, l⟩ := py
    cases ry
    obtain ⟨us, r, p, _⟩ := I.tuple h
    obtain ⟨e, e1, e2⟩ := in_items I hu px rx l r q.1
    exact SeqAt.in_tupleAt e p e2 (by rw [e1]; exact fin _ q.2)
  · obtain ⟨a, vs, rfl, h, l⟩ := py
    cases ry
    obtain ⟨us, r, p, _⟩ := I.list h.sq
    obtain ⟨e, e1, e2⟩ := in_items I hu px rx l r q.1
    exact SeqAt.in_listAt e p.isList e2 (by rw [e1]; exact fin _ q.2)
  · obtain ⟨ds, h1, hk, q⟩ := q
    obtain ⟨vs, e1, l⟩ := rh _ _ h1
    cases (show y = .ref _ from py)
    cases ry
    obtain ⟨us, r, p, _⟩ := I.list (.of e1)
    obtain ⟨e, e1, e2⟩ := in_items I hu px rx l r hk
    exact SeqAt.in_listAt e p.isList e2 (by rw [e1]; exact fin _ q)
  · exact q.elim
theorem op_notInAny (hu : X.A.units + 64 < cLine) : OpR X (compareOp .NotIn) (lR X.K (fIn fun k => !k)) := by
  intro pins s σ H x y v u Q I rx ry ⟨dx, dy, Hd, Qd, rh, px, py, q, k⟩
  have fin : ∀ b, Qd (.bl b) Hd → EP X pins σ Q (.bool b) s := fun b z => ⟨.bl b, H, I, rfl, k _ H (.bl b) Hd .refl rh rfl z⟩
  unfold fIn at q
  split at q
  · obtain ⟨a, vs, rfl, h, l⟩ := py
    cases ry
    obtain ⟨us, r, p, _⟩ := I.tuple h
    obtain ⟨e, e1, e2⟩ := in_items I hu px rx l r q.1
    exact SeqAt.notIn_tupleAt e p e2 (by rw [e1]; exact fin _ q.2)
  · obtain ⟨a, vs, rfl, h, l⟩ := py
    cases ry
    obtain ⟨us, r, p, _⟩ := I.list h.sq
    obtain ⟨e, e1, e2⟩ := in_items I hu px rx l r q.1
    exact SeqAt.notIn_listAt e p.isList e2 (by rw [e1]; exact fin _ q.2)
  · obtain ⟨ds, h1, hk, q⟩ := q
    obtain ⟨vs, e1, l⟩ := rh _ _ h1
    cases (show y = .ref _ from py)
    cases ry
    obtain ⟨us, r, p, _⟩ := I.list (.of e1)
    obtain ⟨e, e1, e2⟩ := in_items I hu px rx l r hk
    exact SeqAt.notIn_listAt e p.isList e2 (by rw [e1]; exact fin _ q)
  · exact q.elim
/-! is None, the order of ints -/
def isNonD : Dv → Bool
  | .non => true
  | _ => false
def fIsN (g : Bool → Bool) : D2 := fun x y H Q => match y with
  | .non => Q (.bl (g (isNonD x))) H
  | _ => False
theorem rep_non {K : PySem.W.Frag} {H : Hp} {d : Dv} {v : V} (r : Rep K H d v) : decide (v = .non) = isNonD d := by
  cases d with
  | tup ds => obtain ⟨a, vs, rfl, _⟩ := r; rfl
  | lsv ds => obtain ⟨a, vs, rfl, _⟩ := r; rfl
  | dcv ks ds => obtain ⟨a, vs, rfl, _⟩ := r; rfl
  | _ => cases (show v = _ from r); rfl
abbrev fLt : D2 := dI20 fun i j => .bl (decide (i < j))
abbrev fLe : D2 := dI20 fun i j => .bl (decide (i ≤ j))
abbrev fGt : D2 := dI20 fun i j => .bl (decide (j < i))
abbrev fGe : D2 := dI20 fun i j => .bl (decide (j ≤ i))
abbrev fEqA : D2 := fEq fun k => k
abbrev fNeA : D2 := fEq fun k => !k
abbrev fInA : D2 := fIn fun k => k
abbrev fNotInA : D2 := fIn fun k => !k
abbrev fIsA : D2 := fIsN fun k => k
abbrev fIsNotA : D2 := fIsN fun k => !k
/-- a comparison's operator, its rule below, its reading -/
structure CmpOk (X : Cx) (op : CmpOp) (f : D2) : Prop where
  ex : ∃ r : R2, OpR X (compareOp op) r ∧ R2Ok X.K r f
theorem c_lt : CmpOk X .Lt fLt := ⟨_, op_lt, i20 fun _ _ _ => rfl⟩
theorem c_le : CmpOk X .LtE fLe := ⟨_, op_le, i20 fun _ _ _ => rfl⟩
theorem c_gt : CmpOk X .Gt fGt := ⟨_, op_gt, i20 fun _ _ _ => rfl⟩
theorem c_ge : CmpOk X .GtE fGe := ⟨_, op_ge, i20 fun _ _ _ => rfl⟩
theorem c_eq (hu : X.A.units + 64 < cLine) : CmpOk X .Eq fEqA := ⟨_, op_eqAny hu, lR_ok⟩
theorem c_ne (hu : X.A.units + 64 < cLine) : CmpOk X .NotEq fNeA := ⟨_, op_neAny hu, lR_ok⟩
theorem c_in (hu : X.A.units + 64 < cLine) : CmpOk X .In fInA := ⟨_, op_inAny hu, lR_ok⟩
theorem c_notIn (hu : X.A.units + 64 < cLine) : CmpOk X .NotIn fNotInA := ⟨_, op_notInAny hu, lR_ok⟩
theorem c_is : CmpOk X .Is fIsA := ⟨_, op_isN, by
  intro H Hd x y dx dy Q Qd rh rx ry q k
  simp only [fIsA, fIsNotA, fIsN] at q
  split at q
  · exact ⟨ry, by rw [rep_non rx]; exact k _ H (.bl _) Hd .refl rh rfl q⟩
  · exact q.elim⟩
theorem c_isNot : CmpOk X .IsNot fIsNotA := ⟨_, op_notN, by
  intro H Hd x y dx dy Q Qd rh rx ry q k
  simp only [fIsA, fIsNotA, fIsN] at q
  split at q
  · exact ⟨ry, by rw [rep_non rx]; exact k _ H (.bl _) Hd .refl rh rfl q⟩
  · exact q.elim⟩
theorem de_cmp {op : CmpOp} {f : D2} (ho : CmpOk X op f) (ha : DE X a ta) (hb : DE X b tb) (hm : behindInMarks op b = false) : DE X (.Compare a [op] [b] pos) (dOp f ta tb) := by
  obtain ⟨r, h1, h2⟩ := ho.ex
  exact pe_mono (pe_cmpR h1 ha hb hm) fun _ _ _ h => op2 h2 h
/-- a value as a truth value -/
def dTest (t : DTE) : DTT := fun σ H Q => t σ H fun d H1 => match d with
  | .bl k => Q k H1
  | _ => False
theorem test_of {t : TE} {td : DTE} (h : ∀ σ H Q, lE X.K td σ H Q → t σ H Q) (σ : St) (H : Hp) (Q : Bool → Hp → Prop) (q : lT X.K (dTest td) σ H Q) : t σ H fun x H1 => ∃ k, x = .bl k ∧ Q k H1 := by
  obtain ⟨σd, Hd, Qd, rs, rh, q, k⟩ := q
  refine h σ H _ ⟨σd, Hd, _, rs, rh, q, fun v H1 d Hd1 s1 r1 rv q1 => ?_⟩
  cases d with
  | bl b => exact ⟨b, rv, k b H1 Hd1 s1 r1 q1⟩
  | _ => exact q1.elim
theorem dt_cmp {op : CmpOp} {f : D2} (ho : CmpOk X op f) (ha : DE X a ta) (hb : DE X b tb) (hm : behindInMarks op b = false) : DT X (.Compare a [op] [b] pos) (dTest (dOp f ta tb)) := by
  obtain ⟨r, h1, h2⟩ := ho.ex
  exact pt_mono (pt_cmpR h1 ha hb hm) fun σ H Q h => test_of (fun _ _ _ z => op2 h2 z) σ H Q h
def dChain (f g : D2) (ta tb tc : DTE) : DTE := fun σ H Q => ta σ H fun x H1 => tb σ H1 fun y H2 => f x y H2 fun z H3 => match z with
  | .bl k => (k = true → tc σ H3 fun w H4 => g y w H4 Q) ∧ (k = false → Q (.bl false) H3)
  | _ => False
theorem chain2 {r r' : R2} {f g : D2} (hf : R2Ok X.K r f) (hg : R2Ok X.K r' g) (σ : St) (H : Hp) (Q : VK) (h : lE X.K (dChain f g ta tb tc) σ H Q) : tChain r r' (lE X.K ta) (lE X.K tb) (lE X.K tc) σ H Q := by
  obtain ⟨σd, Hd, Qd, rs, rh, q, k⟩ := h
  refine ⟨σd, Hd, _, rs, rh, q, fun v H1 d Hd1 s1 r1 rv q1 => ⟨σd, Hd1, _, s1.repS rh rs, r1, q1, fun u H2 d2 Hd2 s2 r2 ru q2 => ?_⟩⟩
  refine hf H2 Hd2 v u d d2 _ _ r2 (s2.rep r1 rv) ru q2 fun z H3 dz Hd3 s3 r3 rz q3 => ?_
  cases dz with
  | bl b =>
    refine ⟨b, rz, ?_⟩
    have st := (s1.trans s2).trans s3
    cases b with
    | false => rw [if_neg Bool.false_ne_true]; exact k _ H3 (.bl false) Hd3 st r3 rfl (q3.2 rfl)
    | true =>
      rw [if_pos rfl]
      exact ⟨σd, Hd3, _, st.repS rh rs, r3, q3.1 rfl, fun w H4 dw Hd4 s4 r4 rw' q4 => hg H4 Hd4 u w d2 dw Q Qd r4 ((s3.trans s4).rep r2 ru) rw' q4 (k.at (st.trans s4))⟩
  | _ => exact q3.elim
theorem de_chain {op op' : CmpOp} {f g : D2} (ho : CmpOk X op f) (ho' : CmpOk X op' g) (ha : DE X a ta) (hb : DE X b tb) (hc : DE X c tc) (hm : lastMarks [op, op'] [b, c] = false := by with_unfolding_all rfl) :
    DE X (.Compare a [op, op'] [b, c] pos) (dChain f g ta tb tc) := by
  obtain ⟨r, h1, h2⟩ := ho.ex
  obtain ⟨r', h3, h4⟩ := ho'.ex
  exact pe_mono (pe_chain h1 h3 ha hb hc hm) (chain2 h2 h4)
theorem dt_chain {op op' : CmpOp} {f g : D2} (ho : CmpOk X op f) (ho' : CmpOk X op' g) (ha : DE X a ta) (hb : DE X b tb) (hc : DE X c tc) (hm : lastMarks [op, op'] [b, c] = false := by with_unfolding_all rfl) :
    DT X (.Compare a [op, op'] [b, c] pos) (dTest (dChain f g ta tb tc)) := by
  obtain ⟨r, h1, h2⟩ := ho.ex
  obtain ⟨r', h3, h4⟩ := ho'.ex
  exact pt_mono (pt_chain h1 h3 ha hb hc hm) (test_of (chain2 h2 h4))
end
end DL

set_option maxHeartbeats 4000000
namespace DL
open PySem PySem.Spec L2
open PyProof.Rows hiding St
/-! ## truth, and, or, not -/
section
variable {X : Cx} {a b c e : Expr} {rest : List Expr} {ta tb tc : DTE} {tt uu : DTT} {pos : Pos}
def fTru (d : Dv) (H : DH) (k : Bool → Prop) : Prop := match d with
  | .non => k false
  | .bl b => k b
  | .int i => k (i != 0)
  | .str y => y.length ≤ sizeLine ∧ k ((y.length : Int) != 0)
  | .tup ds => k (!ds.isEmpty)
  | .lsv ds => k (!ds.isEmpty)
  | .ref p => ∃ ds, H p = some (.lst ds) ∧ k (!ds.isEmpty)
  | .dcv _ _ => False
  | .ty _ => False
theorem RepL.empty {K : PySem.W.Frag} {H : Hp} {ds : List Dv} {vs : List V} (h : RepL K H ds vs) : (!ds.isEmpty) = !vs.isEmpty := by
  cases ds with
  | nil => rw [show vs = [] from h]; rfl
  | cons d ds => obtain ⟨v, t, rfl, _⟩ := h; rfl
theorem tru_of {K : PySem.W.Frag} {H : Hp} {Hd : DH} {d : Dv} {v : V} {k : Bool → Prop} (rh : RepH K H Hd) (r : Rep K H d v) (q : fTru d Hd k) : ∃ b, TruV K v H b ∧ k b := by
  cases d with
  | non => cases (show v = _ from r); exact ⟨_, rfl, q⟩
  | bl b => cases (show v = _ from r); exact ⟨_, rfl, q⟩
  | int i => cases (show v = _ from r); exact ⟨_, rfl, q⟩
  | str y => cases (show v = _ from r); exact ⟨_, ⟨q.1, rfl⟩, q.2⟩
  | tup ds => obtain ⟨p, vs, rfl, h, l⟩ := r; exact ⟨_, .inr (.inl ⟨vs, h, rfl⟩), by rw [← l.empty]; exact q⟩
  | lsv ds => obtain ⟨p, vs, rfl, h, l⟩ := r; exact ⟨_, .inl ⟨vs, h.sq, rfl⟩, by rw [← l.empty]; exact q⟩
  | ref p =>
    cases (show v = _ from r)
    obtain ⟨ds, h, q⟩ := q
    obtain ⟨vs, e, l⟩ := rh _ _ h
    exact ⟨_, .inl ⟨vs, .of e, rfl⟩, by rw [← l.empty]; exact q⟩
  | dcv ks ds => exact q.elim
  | ty n => exact q.elim
def dTruth (t : DTE) : DTT := fun σ H Q => t σ H fun d H1 => fTru d H1 fun k => Q k H1
theorem dt_truth (ha : DE X a ta) (he : ∀ whole, isTrue a X.env whole = (do let v ← whole; standAt a.pos; holding [v] (truthy v)) := by intro _; rfl) : DT X a (dTruth ta) :=
  dt_of (pt_truth ha he) fun σ H Q σd Hd Qd rs rh q k => ⟨σd, Hd, _, rs, rh, q, fun v H1 d Hd1 s1 r1 rv q1 => by
    obtain ⟨b, t, q⟩ := tru_of r1 rv q1
    exact ⟨b, t, k b H1 Hd1 s1 r1 q⟩⟩
/-! tests -/
def dAndT (t u : DTT) : DTT := fun σ H Q => t σ H fun c H1 => (c = true → u σ H1 Q) ∧ (c = false → Q false H1)
def dOrT (t u : DTT) : DTT := fun σ H Q => t σ H fun c H1 => (c = true → Q true H1) ∧ (c = false → u σ H1 Q)
def dNotT (t : DTT) : DTT := fun σ H Q => t σ H fun c H1 => Q (!c) H1
theorem dw_and1 (h : DT X a tt) : DW X (.BoolOp .And [a] pos) tt := pw_and1 h
theorem dw_or1 (h : DT X a tt) : DW X (.BoolOp .Or [a] pos) tt := pw_or1 h
theorem dw_and (h : DT X a tt) (h' : DW X (.BoolOp .And (b :: rest) pos) uu) : DW X (.BoolOp .And (a :: b :: rest) pos) (dAndT tt uu) :=
  dw_of (pw_and h h') fun σ H Q σd Hd Qd rs rh q k => ⟨σd, Hd, _, rs, rh, q, fun c H1 Hd1 s1 r1 q1 => by
    cases c with
    | true => rw [if_pos rfl]; exact ⟨σd, Hd1, Qd, s1.repS rh rs, r1, q1.1 rfl, k.at s1⟩
    | false => rw [if_neg Bool.false_ne_true]; exact k _ _ _ s1 r1 (q1.2 rfl)⟩
theorem dw_or (h : DT X a tt) (h' : DW X (.BoolOp .Or (b :: rest) pos) uu) : DW X (.BoolOp .Or (a :: b :: rest) pos) (dOrT tt uu) :=
  dw_of (pw_or h h') fun σ H Q σd Hd Qd rs rh q k => ⟨σd, Hd, _, rs, rh, q, fun c H1 Hd1 s1 r1 q1 => by
    cases c with
    | true => rw [if_pos rfl]; exact k _ _ _ s1 r1 (q1.1 rfl)
    | false => rw [if_neg Bool.false_ne_true]; exact ⟨σd, Hd1, Qd, s1.repS rh rs, r1, q1.2 rfl, k.at s1⟩⟩
theorem dt_w (h : DW X e tt) : DT X e tt := h.pt
theorem dt_not (h : DT X a tt) : DT X (.UnaryOp .Not a pos) (dNotT tt) :=
  dt_of (pt_not h) fun σ H Q σd Hd Qd rs rh q k => ⟨σd, Hd, _, rs, rh, q, fun c H1 Hd1 s1 r1 q1 => k _ _ _ s1 r1 q1⟩
/-! values -/
def dAndV (ta tb : DTE) : DTE := fun σ H Q => ta σ H fun d H1 => fTru d H1 fun c => (c = true → tb σ H1 Q) ∧ (c = false → Q d H1)
def dOrV (ta tb : DTE) : DTE := fun σ H Q => ta σ H fun d H1 => fTru d H1 fun c => (c = true → Q d H1) ∧ (c = false → tb σ H1 Q)
def dNotV (ta : DTE) : DTE := fun σ H Q => ta σ H fun d H1 => fTru d H1 fun c => Q (.bl (!c)) H1
theorem de_one {op} (h : DE X a ta) : DE X (.BoolOp op [a] pos) ta := pe_one h
theorem de_and (h : DE X a ta) (h' : DE X (.BoolOp .And (b :: rest) pos) tb) : DE X (.BoolOp .And (a :: b :: rest) pos) (dAndV ta tb) :=
  de_of (pe_andT h h') fun σ H Q σd Hd Qd rs rh q k => ⟨σd, Hd, _, rs, rh, q, fun v H1 d Hd1 s1 r1 rv q1 => by
    obtain ⟨c, t, q2⟩ := tru_of r1 rv q1
    refine ⟨c, t, ?_⟩
    cases c with
    | true => rw [if_pos rfl]; exact ⟨σd, Hd1, Qd, s1.repS rh rs, r1, q2.1 rfl, k.at s1⟩
    | false => rw [if_neg Bool.false_ne_true]; exact k _ _ _ _ s1 r1 rv (q2.2 rfl)⟩
theorem de_or (h : DE X a ta) (h' : DE X (.BoolOp .Or (b :: rest) pos) tb) : DE X (.BoolOp .Or (a :: b :: rest) pos) (dOrV ta tb) :=
  de_of (pe_orT h h') fun σ H Q σd Hd Qd rs rh q k => ⟨σd, Hd, _, rs, rh, q, fun v H1 d Hd1 s1 r1 rv q1 => by
    obtain ⟨c, t, q2⟩ := tru_of r1 rv q1
    refine ⟨c, t, ?_⟩
    cases c with
    | true => rw [if_pos rfl]; exact k _ _ _ _ s1 r1 rv (q2.1 rfl)
    | false => rw [if_neg Bool.false_ne_true]; exact ⟨σd, Hd1, Qd, s1.repS rh rs, r1, q2.2 rfl, k.at s1⟩⟩
theorem de_not (h : DE X a ta) : DE X (.UnaryOp .Not a pos) (dNotV ta) :=
  de_of (pe_notT h) fun σ H Q σd Hd Qd rs rh q k => ⟨σd, Hd, _, rs, rh, q, fun v H1 d Hd1 s1 r1 rv q1 => by
    obtain ⟨c, t, q2⟩ := tru_of r1 rv q1
    exact ⟨c, t, k _ _ (.bl (!c)) _ s1 r1 rfl q2⟩⟩
def dIfE (t : DTT) (ta tb : DTE) : DTE := fun σ H Q => t σ H fun c H1 => (c = true → ta σ H1 Q) ∧ (c = false → tb σ H1 Q)
theorem de_if (h : DT X c tt) (ha : DE X a ta) (hb : DE X b tb) : DE X (.IfExp c a b pos) (dIfE tt ta tb) :=
  de_of (pe_ifExp h ha hb) fun σ H Q σd Hd Qd rs rh q k => ⟨σd, Hd, _, rs, rh, q, fun c H1 Hd1 s1 r1 q1 => by
    cases c with
    | true => rw [if_pos rfl]; exact ⟨σd, Hd1, Qd, s1.repS rh rs, r1, q1.1 rfl, k.at s1⟩
    | false => rw [if_neg Bool.false_ne_true]; exact ⟨σd, Hd1, Qd, s1.repS rh rs, r1, q1.2 rfl, k.at s1⟩⟩

/-! ## subscripts -/
def fIx : D2 := fun x y H Q => match x, y with
  | .tup ds, .int i => ∃ d, atI ds i = some d ∧ Q d H
  | .lsv ds, .int i => ∃ d, atI ds i = some d ∧ Q d H
  | .ref p, .int i => ∃ ds d, H p = some (.lst ds) ∧ atI ds i = some d ∧ Q d H
  | .str z, .int i => ∃ c, z.length ≤ sizeLine ∧ atI z.cps.toList i = some c ∧ Q (.str ⟨#[c]⟩) H
  | _, _ => False
theorem RepL.atI {K : PySem.W.Frag} {H : Hp} {ds : List Dv} {vs : List V} (h : RepL K H ds vs) {i : Int} {d : Dv} (e : L2.atI ds i = some d) : ∃ v, L2.atI vs i = some v ∧ Rep K H d v := by
  unfold L2.atI at e ⊢
  rw [← h.length]
  cases q : ixN ds.length i with
  | none => rw [q] at e; cases e
  | some j =>
    rw [q] at e
    exact h.get e
theorem de_ix (ha : DE X a ta) (hb : DE X b tb) (hs : PlainIx b := by exact fun _ _ => rfl) : DE X (.Subscript a b pos) (dOp fIx ta tb) :=
  pe_mono (pe_ix ix_seq ha hb hs) fun _ _ _ h => op2 (by
    intro H Hd x y dx dy Q Qd rh rx ry q k
    unfold fIx at q
    split at q
    · obtain ⟨d, e, q⟩ := q
      obtain ⟨p, vs, rfl, h, l⟩ := rx
      obtain ⟨v, e2, r⟩ := l.atI e
      exact .inr (.inl ⟨p, vs, _, v, rfl, ry, h, e2, k v H d Hd .refl rh r q⟩)
    · obtain ⟨d, e, q⟩ := q
      obtain ⟨p, vs, rfl, h, l⟩ := rx
      obtain ⟨v, e2, r⟩ := l.atI e
      exact .inl ⟨p, vs, _, v, rfl, ry, h.sq, e2, k v H d Hd .refl rh r q⟩
    · obtain ⟨ds, d, h, e, q⟩ := q
      obtain ⟨vs, e1, l⟩ := rh _ _ h
      obtain ⟨v, e2, r⟩ := l.atI e
      exact .inl ⟨_, vs, _, v, rx, ry, .of e1, e2, k v H d Hd .refl rh r q⟩
    · obtain ⟨c, z, e, q⟩ := q
      exact .inr (.inr ⟨_, _, c, rx, ry, z, e, k _ H (.str ⟨#[c]⟩) Hd .refl rh rfl q⟩)
    · exact q.elim) h
/-! slices -/
abbrev DTO := DS → DH → (Option Int → DH → Prop) → Prop
def lO (K : PySem.W.Frag) (t : DTO) : TO := fun σ H Q => ∃ σd Hd Qd, RepS K H σd σ ∧ RepH K H Hd ∧ t σd Hd Qd ∧ ∀ o H' Hd', Stp H Hd H' Hd' → RepH K H' Hd' → Qd o Hd' → Q o H'
abbrev DOp (X : Cx) (e : Option Expr) (t : DTO) : Prop := PO X e (lO X.K t)
def dNoPart : DTO := fun _ H Q => Q none H
def dPart (t : DTE) : DTO := fun σ H Q => t σ H fun d H1 => match d with
  | .int i => Q (some i) H1
  | _ => False
theorem do_none : DOp X none dNoPart := ⟨fun p s σ H Q I ⟨σd, Hd, Qd, rs, rh, q, k⟩ => po_none.run p s σ H Q I (k none H Hd .refl rh q)⟩
theorem do_some (h : DE X e ta) : DOp X (some e) (dPart ta) := ⟨fun p s σ H Q I ⟨σd, Hd, Qd, rs, rh, q, k⟩ => (po_some h).run p s σ H Q I
  ⟨σd, Hd, _, rs, rh, q, fun v H1 d Hd1 s1 r1 rv q1 => by
    cases d with
    | int i => exact ⟨i, rv, k _ _ _ s1 r1 q1⟩
    | _ => exact q1.elim⟩⟩
def cutD {α : Type} (ds : List α) (lo hi : Option Int) : List α := (ds.drop (HT.sIx ds.length 0 lo)).take (HT.sIx ds.length ds.length hi - HT.sIx ds.length 0 lo)
theorem RepL.cut {K : PySem.W.Frag} {H : Hp} {ds : List Dv} {vs : List V} (h : RepL K H ds vs) (lo hi : Option Int) : RepL K H (cutD ds lo hi) (cutV vs lo hi) := by
  unfold cutD cutV
  rw [← h.length]
  exact (h.drop _).take _
def fSl (d : Dv) (lo hi : Option Int) (H : DH) (Q : DVK) : Prop := match d with
  | .tup ds => Q (.tup (cutD ds lo hi)) H
  | .lsv ds => ∀ r, H r = none → Q (.ref r) (upD H r (.lst (cutD ds lo hi)))
  | .ref p => ∃ ds, H p = some (.lst ds) ∧ ∀ r, H r = none → Q (.ref r) (upD H r (.lst (cutD ds lo hi)))
  | _ => False
def dSl (t : DTE) (tl th : DTO) : DTE := fun σ H Q => t σ H fun d H1 => tl σ H1 fun l H2 => th σ H2 fun u H3 => fSl d l u H3 Q
theorem de_slice {lo hi : Option Expr} {tl th : DTO} {p2 : Pos} (he : DE X e ta) (hl : DOp X lo tl) (hu : DOp X hi th) : DE X (.Subscript e (.Slice lo hi none p2) pos) (dSl ta tl th) :=
  de_of (pe_slice (SlR.or sl_tupA sl_list) he hl hu) fun σ H Q σd Hd Qd rs rh q k => ⟨σd, Hd, _, rs, rh, q, fun v H1 d Hd1 s1 r1 rv q1 =>
    ⟨σd, Hd1, _, s1.repS rh rs, r1, q1, fun l H2 Hd2 s2 r2 q2 => ⟨σd, Hd2, _, (s1.trans s2).repS rh rs, r2, q2, fun u H3 Hd3 s3 r3 q3 => by
      have st := (s1.trans s2).trans s3
      have rv3 := (s2.trans s3).rep r1 rv
      unfold fSl at q3
      split at q3
      · obtain ⟨p, vs, rfl, h, w⟩ := rv3
        refine .inl ⟨p, vs, rfl, h, fun z => ?_, fun _ r hr => ?_⟩
        · refine k _ _ (.tup _) Hd3 st r3 ⟨p, vs, rfl, h, ?_⟩ q3
          unfold cutD
          rw [w.length, z.1, z.2, List.drop_zero, Nat.sub_zero, ← w.length, List.take_length]
          exact w
        · exact k _ _ (.tup _) Hd3 (st.trans (.lay hr)) (r3.lay hr) ⟨r, _, rfl, .of upd_same, (Stp.lay (Hd := Hd3) hr).repL r3 (w.cut l u)⟩ q3
      · obtain ⟨p, vs, rfl, h, w⟩ := rv3
        exact .inr ⟨p, vs, rfl, h.sq, fun r hr => k _ _ (.ref r) (upD Hd3 r (.lst _)) (st.trans (.layL hr)) (r3.layL hr (w.cut l u)) rfl (q3 r (r3.free hr))⟩
      · obtain ⟨ds, h, q3⟩ := q3
        obtain ⟨vs, e, w⟩ := r3 _ _ h
        exact .inr ⟨_, vs, rv3, .of e, fun r hr => k _ _ (.ref r) (upD Hd3 r (.lst _)) (st.trans (.layL hr)) (r3.layL hr (w.cut l u)) rfl (q3 r (r3.free hr))⟩
      · exact q3.elim⟩⟩⟩
end

/-! [::-1] -/
theorem fm_some {α β : Type} {f : α → Option β} {g : α → β} : ∀ l : List α, (∀ m ∈ l, f m = some (g m)) → l.filterMap f = l.map g
  | [], _ => rfl
  | x :: l, h => by
    rw [List.filterMap_cons, h x List.mem_cons_self, List.map_cons, fm_some l fun m hm => h m (List.mem_cons_of_mem _ hm)]
theorem back_pick (xs : Array Value) : ((List.range xs.size).filterMap fun (m : Nat) => xs[((xs.size : Int) - 1 + (m : Int) * -1).toNat]?).toArray = xs.toList.reverse.toArray := by
  congr 1
  rw [fm_some (g := fun m => (xs.toList.reverse[m]?).getD .none) (List.range xs.size) fun m hm => ?_]
  · apply List.ext_getElem?
    intro i
    by_cases h : i < xs.size
    · rw [List.getElem?_map, List.getElem?_range h]
      have h' : i < xs.toList.reverse.length := by simpa using h
      rw [List.getElem?_eq_getElem h', Option.map_some, List.getElem?_eq_getElem h', Option.getD_some]
    · rw [List.getElem?_eq_none (by simpa using h), List.getElem?_eq_none (by simpa using h)]
  · have h1 : m < xs.size := List.mem_range.mp hm
    have h2 : ((xs.size : Int) - 1 + (m : Int) * -1).toNat = xs.size - 1 - m := by omega
    have h3 : m < xs.toList.reverse.length := by simpa using h1
    rw [h2, Array.getElem?_eq_getElem (by omega), List.getElem?_eq_getElem h3, Option.getD_some, List.getElem_reverse]
    simp
section
variable {prog : Program} {w : World} {A : Around} {E : Value → Shared → Prop} {s : Shared}
theorem sliceApplied_back {sl : Addr} {tk : Tok} {n : Nat} {Q : Int × Int × Nat → Shared → Prop} (hs : s.heap.IsSliceOf sl .none .none (.int (-1) tk)) (h : Q ((n : Int) - 1, -1, n) s) :
    wpAny (model prog w) A (Builtin.Slice.sliceApplied (.ref sl) (pure (n : Int))) Q E s := by
  obtain ⟨os, hos, hcs, hds⟩ := id hs
  unfold Builtin.Slice.sliceApplied Builtin.Slice.sliceFields
  have f0 : os.data = .fields #[.none, .none, .int (-1) tk] := hds
  refine wpAny_bind (wpAny_bind (wpAny_field hos hds (x := .none) rfl ?_))
  refine wpAny_bind (wpAny_field hos hds (x := .none) rfl ?_)
  refine wpAny_bind (wpAny_field hos hds (x := .int (-1) tk) rfl (wpAny_pure ?_))
  refine wpAny_bind (slicePart_int ?_)
  show wpAny _ _ (if ((-1 : Int) == 0) = true then _ else _) _ _ s
  rw [if_neg (by decide)]
  refine wpAny_bind (slicePart_none (wpAny_bind (slicePart_none ?_)))
  refine wpAny_bind (wpAny_pure ?_)
  have adj : Builtin.Slice.sliceAdjust none none (-1) (n : Int) = ((n : Int) - 1, -1) := by
    unfold Builtin.Slice.sliceAdjust
    simp
  have pl : Builtin.Slice.slicePlaces ((n : Int) - 1) (-1) (-1) = n := by
    unfold Builtin.Slice.slicePlaces
    rw [if_neg (by decide)]
    by_cases z : (n : Int) - 1 > -1
    · rw [if_pos z]
      have : -(-1 : Int) = 1 := by decide
      rw [this, Int.ediv_one]
      omega
    · rw [if_neg z]
      omega
  show wpAny _ _ (match Builtin.Slice.sliceAdjust none none (-1) (n : Int) with | (lo, hi) => pure (lo, (-1 : Int), Builtin.Slice.slicePlaces lo hi (-1))) _ _ s
  rw [adj]
  show wpAny _ _ (pure ((n : Int) - 1, (-1 : Int), Builtin.Slice.slicePlaces ((n : Int) - 1) (-1) (-1))) _ _ s
  rw [pl]
  exact wpAny_pure h
theorem getItem_tuple_back {t sl : Addr} {items : Array Value} {tk : Tok} {Q : Value → Shared → Prop} (ht : IsTup s.heap t items) (hs : s.heap.IsSliceOf sl .none .none (.int (-1) tk)) (hsz : items.size ≤ sizeLine)
    (h : Q (.ref s.heap.objs.size) { s with heap := s.heap.push { cls := .type "tuple", data := .seq items.toList.reverse.toArray } }) : wpAny (model prog w) A (getItem (.ref t) (.ref sl)) Q E s := by
  obtain ⟨os, hos, hcs, hds⟩ := id hs
  have isSlice : s.TypeIs (.ref sl) "slice" := ⟨os, hos, hcs⟩
  have ok : sizeOk (.seq items.toList.reverse.toArray) := by
    show items.toList.reverse.toArray.size ≤ sizeLine
    simpa using hsz
  unfold getItem
  try with_reducible refine wpAny_holding ?_
  first | refine wpAny_bind (wpAny_pure ?_) | skip
  refine wpAny_bind (wpAny_sequenceKey ht.typeIs (by decide) (wpAny_bind ?_))
  refine wpAny_callSpecial?_slot (name := Str.ofString "__getitem__") ht.typeIs PyProof.Rows.slot_tuple_getitem ?_
  refine wpAny_call_entry PyProof.Rows.slot_tuple_getitem ht.typeIs entry_tuple_getitem ?_ (args_tuple_getitem _ _)
  show wpAny _ _ (Builtin.Tuple.tupleItemsOf (.ref t) >>= _) _ _ s
  refine wpAny_bind (tupleItemsOf_ ht (wpAny_bind (wpAny_typeOf isSlice ?_)))
  rw [if_pos (by decide)]
  refine wpAny_bind (sliceApplied_back hs ?_)
  have no : ¬ ((((items.size : Int) - 1 == 0) && ((-1 : Int) == 1) && (items.size == items.size)) = true) := by simp
  show wpAny _ _ (if (((items.size : Int) - 1 == 0) && ((-1 : Int) == 1) && (items.size == items.size)) = true then _ else _) _ _ s
  rw [if_neg no, back_pick]
  first
    | exact wpAny_bind (m := Builtin.Tuple.tupleExact _) (wpAny_newObj_type (wpAny_pure ⟨_, rfl, wpAny_pure h⟩) ok)
    | exact wpAny_bind (m := Builtin.Tuple.tupleExact _) (wpAny_newObj_type (wpAny_bind (wpAny_pure (wpAny_pure ⟨_, rfl, wpAny_pure h⟩))) ok)
    | exact wpAny_bind (wpAny_bind (m := Builtin.Tuple.tupleExact _) (wpAny_newObj_type (wpAny_pure (wpAny_pure ⟨_, rfl, wpAny_pure h⟩)) ok))
    | exact wpAny_bind (wpAny_bind (m := Builtin.Tuple.tupleExact _) (wpAny_newObj_type (wpAny_pure ⟨_, rfl, wpAny_pure h⟩) ok))
end
section
variable {X : Cx} {e : Expr} {ta : DTE} {pos : Pos}
def fBack (d : Dv) (H : DH) (Q : DVK) : Prop := match d with
  | .tup ds => Q (.tup ds.reverse) H
  | .lsv ds => ∀ r, H r = none → Q (.ref r) (upD H r (.lst ds.reverse))
  | .ref p => ∃ ds, H p = some (.lst ds) ∧ ∀ r, H r = none → Q (.ref r) (upD H r (.lst ds.reverse))
  | _ => False
def dBack (t : DTE) : DTE := fun σ H Q => t σ H fun d H1 => fBack d H1 Q
theorem de_back {k : Nat} {p1 p2 p3 : Pos} (he : DE X e ta) : DE X (.Subscript e (.Slice none none (some (.UnaryOp .USub (.Constant (.int 1) k p1) p2)) p3) pos) (dBack ta) := by
  refine ⟨fun pins s σ H Q I ⟨σd, Hd, Qd, rs, rh, q, kk⟩ => ?_⟩
  refine Subscript_ (thn (he.run pins s σ H (fun v H1 => ∃ d Hd1, Stp H Hd H1 Hd1 ∧ RepH X.K H1 Hd1 ∧ Rep X.K H1 d v ∧ fBack d Hd1 Qd) I ⟨σd, Hd, _, rs, rh, q, fun v H1 d Hd1 s1 r1 rv q1 => ⟨d, Hd1, s1, r1, rv, q1⟩⟩)
    fun v s1 ⟨x, H1, I1, rx, d, Hd1, st, r1, rv, q1⟩ => ?_)
  have hst : PO X (some (.UnaryOp .USub (.Constant (.int 1) k p1) p2)) (tPart (tUn (rU fun i => .int (-i)) (tC (.int 1)))) := po_some (pe_un un_neg pe_int)
  refine wpAny_Slice (thn (po_none.run pins s1 σ H1 (fun o H2 => o = none ∧ H2 = H1) I1 ⟨rfl, rfl⟩) fun vl s2 ⟨l, H2, I2, pl, el, e2⟩ => ?_)
  subst el e2
  refine thn (po_none.run pins s2 σ H2 (fun o H3 => o = none ∧ H3 = H2) I2 ⟨rfl, rfl⟩) fun vu s3 ⟨u, H3, I3, pu, eu, e3⟩ => ?_
  subst eu e3
  refine thn (hst.run pins s3 σ H3 (fun o H4 => o = some (-1) ∧ H4 = H3) I3 ⟨1, rfl, -1, rfl, rfl, rfl⟩) fun vs s4 ⟨o, H4, I4, ps, eo, e4⟩ => ?_
  subst eo e4
  have I5 : Inv X pins σ H4 { s4 with heap := s4.heap.push { cls := .type "slice", data := .fields #[vl, vu, vs] } } := I4.kept (t' := s4.toks) fun b ob q => Heap.get?_push_of_some _ q
  have fresh := I5.hok.fresh (Nat.le_refl _)
  have tuple : ∀ {a : Addr} {ws : List V}, x = .ref a → SqT X.K H4 a ws → (∀ p, H4 p = none → Q (.ref p) (upd H4 p (.tup ws.reverse))) →
      wpAny (model X.prog X.w) X.A (subscriptTail e (.Slice none none (some (.UnaryOp .USub (.Constant (.int 1) k p1) p2)) p3) v (.ref s4.heap.objs.size)) (EP X pins σ Q) X.xe { s4 with heap := s4.heap.push { cls := .type "slice", data := .fields #[vl, vu, vs] } } := fun {a ws} ex hx qq => by
    subst ex
    cases rx
    cases pl
    cases pu
    obtain ⟨its, r, ht, hz⟩ := I5.tuple hx
    cases ps
    refine tail_any (ops := [.ref a, .ref s4.heap.objs.size]) ht.typeIs (PyProof.Rows.slot_tuple_getitem.lookup) ?_ (by with_unfolding_all rfl)
    refine getItem_tuple_back ht (Heap.IsSliceOf.new _ _ _ _) (by rw [List.size_toArray, ← r.length]; exact hz) ?_
    refine ⟨.ref _, _, I5.laid (t' := s4.toks) (o := .tup ws.reverse) (fun b ob q => Heap.get?_push_of_some _ q) (Nat.le_refl _) ?_, rfl, qq _ fresh⟩
    exact ⟨by rw [List.length_reverse]; exact hz, _, r.reverse, ⟨_, Heap.get?_push_size _ rfl, rfl, _, rfl⟩⟩
  have list : ∀ {a : Addr} {ws : List V}, x = .ref a → SqL X.K H4 a ws → (∀ p, H4 p = none → Q (.ref p) (upd H4 p (.lst ws.reverse))) →
      wpAny (model X.prog X.w) X.A (subscriptTail e (.Slice none none (some (.UnaryOp .USub (.Constant (.int 1) k p1) p2)) p3) v (.ref s4.heap.objs.size)) (EP X pins σ Q) X.xe { s4 with heap := s4.heap.push { cls := .type "slice", data := .fields #[vl, vu, vs] } } := fun {a ws} ex hx qq => by
    subst ex
    cases rx
    obtain ⟨its, r, ht, hz⟩ := I5.list hx
    refine tail_any (ops := [.ref a, .ref s4.heap.objs.size]) ht.isList.typeIs (PySem.slot_list_getitem.lookup) ?_ (by with_unfolding_all rfl)
    refine wpAny_getItem_list_slice ht.isList (Heap.IsSliceOf.new _ vl vu vs) pl pu ps (by decide) ?_ (by rw [List.size_toArray, ← r.length]; exact hz)
    rw [PySem.W.krv_pick]
    refine ⟨.ref _, _, I5.laid (t' := s4.toks) (o := .lst ws.reverse) (fun b ob q => Heap.get?_push_of_some _ q) (Nat.le_refl _) ?_, rfl, qq _ fresh⟩
    exact ⟨by rw [List.length_reverse]; exact hz, _, 0, r.reverse, Heap.get?_push_size _ rfl⟩
  unfold fBack at q1
  split at q1
  · obtain ⟨a, ws, ex, h, w⟩ := rv
    exact tuple ex h fun p hp => kk _ _ (.tup _) Hd1 (st.trans (.lay hp)) (r1.lay hp) ⟨p, _, rfl, .of upd_same, (Stp.lay (Hd := Hd1) hp).repL r1 w.reverse⟩ q1
  · obtain ⟨a, ws, ex, h, w⟩ := rv
    exact list ex h.sq fun p hp => kk _ _ (.ref p) (upD Hd1 p (.lst _)) (st.trans (.layL hp)) (r1.layL hp w.reverse) rfl (q1 p (r1.free hp))
  · obtain ⟨ds, h, q1⟩ := q1
    obtain ⟨ws, e1, w⟩ := r1 _ _ h
    exact list rv (.of e1) fun p hp => kk _ _ (.ref p) (upD Hd1 p (.lst _)) (st.trans (.layL hp)) (r1.layL hp w.reverse) rfl (q1 p (r1.free hp))
  · exact q1.elim
end
end DL

set_option maxHeartbeats 4000000
namespace DL
open PySem PySem.Spec L2
open PyProof.Rows hiding St
/-! ## statements -/
section
variable {X : Cx} {st : Stmt} {rest body : List Stmt} {e c tg : Expr} {te : DTE} {tc : DTT} {t u tb : DTS} {g : DTG} {pos : Pos}
theorem ds_of {t : TS} {td : DTS} (h : PS X st t) (i : ∀ D σ H σd Hd Dd, RepS X.K H σd σ → RepH X.K H Hd → td Dd σd Hd → KS X.K H Hd Dd.nx D.nx → KE X.K H Hd Dd.rt D.rt → KS X.K H Hd Dd.bk D.bk → KS X.K H Hd Dd.ct D.ct → t D σ H) : DSt X st td :=
  ps_mono h fun D σ H ⟨σd, Hd, Dd, rs, rh, q, k1, k2, k3, k4⟩ => i D σ H σd Hd Dd rs rh q k1 k2 k3 k4
def dNext : DTS := fun D σ H => D.nx σ H
def dSeq (t u : DTS) : DTS := fun D σ H => t { D with nx := u D } σ H
theorem dss_nil : DSs X [] dNext := pss_mono pss_nil fun D σ H ⟨σd, Hd, Dd, rs, rh, q, k1, _⟩ => k1 σ H σd Hd .refl rh rs q
theorem dss_cons (h : DSt X st t) (h' : DSs X rest u) : DSs X (st :: rest) (dSeq t u) :=
  pss_mono (pss_cons h h') fun D σ H ⟨σd, Hd, Dd, rs, rh, q, k1, k2, k3, k4⟩ =>
    ⟨σd, Hd, { Dd with nx := u Dd }, rs, rh, q, fun σ' H' σd' Hd' s' r' rs' q' => ⟨σd', Hd', Dd, rs', r', q', k1.at s', k2.at s', k3.at s', k4.at s'⟩, k2, k3, k4⟩
theorem dss_one (h : DSt X st t) : DSs X [st] t := pss_one h
def dBreak : DTS := fun D σ H => D.bk σ H
def dCont : DTS := fun D σ H => D.ct σ H
theorem ds_pass : DSt X (.Pass pos) dNext := ds_of ps_pass fun D σ H σd Hd Dd rs rh q k1 _ _ _ => k1 σ H σd Hd .refl rh rs q
theorem ds_break : DSt X (.Break pos) dBreak := ds_of ps_break fun D σ H σd Hd Dd rs rh q _ _ k3 _ => k3 σ H σd Hd .refl rh rs q
theorem ds_continue : DSt X (.Continue pos) dCont := ds_of ps_continue fun D σ H σd Hd Dd rs rh q _ _ _ k4 => k4 σ H σd Hd .refl rh rs q
theorem ds_doc {x j pos pos'} : DSt X (.Expr (.Constant (.str x) j pos) pos') dNext := ds_of ps_doc fun D σ H σd Hd Dd rs rh q k1 _ _ _ => k1 σ H σd Hd .refl rh rs q
def dDrop (te : DTE) : DTS := fun D σ H => te σ H fun _ H1 => D.nx σ H1
theorem ds_expr (he : DE X e te) (hs : swapsWith e none pos.line X.env = pure false := by rfl) : DSt X (.Expr e pos) (dDrop te) :=
  ds_of (ps_expr he hs) fun D σ H σd Hd Dd rs rh q k1 _ _ _ => ⟨σd, Hd, _, rs, rh, q, fun v H1 d Hd1 s1 r1 _ q1 => k1 σ H1 σd Hd1 s1 r1 (s1.repS rh rs) q1⟩
def dRet (te : DTE) : DTS := fun D σ H => te σ H D.rt
theorem ds_ret (he : DE X e te) : DSt X (.Return (some e) pos) (dRet te) :=
  ds_of (ps_ret he) fun D σ H σd Hd Dd rs rh q _ k2 _ _ => ⟨σd, Hd, _, rs, rh, q, k2⟩
def dRetN : DTS := fun D _ H => D.rt .non H
theorem ds_retN : DSt X (.Return none pos) dRetN := ds_of ps_retN fun D σ H σd Hd Dd rs rh q _ k2 _ _ => k2 _ _ .non _ .refl rh rfl q
def dIf (c : DTT) (t u : DTS) : DTS := fun D σ H => c σ H fun b H1 => (b = true → t D σ H1) ∧ (b = false → u D σ H1)
theorem ds_if {a b : List Stmt} (hc : DT X c tc) (ha : DSs X a t) (hb : DSs X b u) : DSt X (.If c a b pos) (dIf tc t u) :=
  ds_of (ps_if hc ha hb) fun D σ H σd Hd Dd rs rh q k1 k2 k3 k4 => ⟨σd, Hd, _, rs, rh, q, fun k H1 Hd1 s1 r1 q1 => by
    cases k with
    | true => rw [if_pos rfl]; exact ⟨σd, Hd1, Dd, s1.repS rh rs, r1, q1.1 rfl, k1.at s1, k2.at s1, k3.at s1, k4.at s1⟩
    | false => rw [if_neg Bool.false_ne_true]; exact ⟨σd, Hd1, Dd, s1.repS rh rs, r1, q1.2 rfl, k1.at s1, k2.at s1, k3.at s1, k4.at s1⟩⟩
/-- ways joined: what holds behind the statement is said -/
def dCut (t u : DTS) : DTS := fun D σ H => ∃ M : DS → DH → Prop, t { D with nx := M } σ H ∧ ∀ σ' H', M σ' H' → u D σ' H'
theorem dss_cut (h : DSt X st t) (h' : DSs X rest u) : DSs X (st :: rest) (dCut t u) :=
  pss_mono (pss_cons h h') fun D σ H ⟨σd, Hd, Dd, rs, rh, ⟨M, q, m⟩, k1, k2, k3, k4⟩ =>
    ⟨σd, Hd, { Dd with nx := M }, rs, rh, q, fun σ' H' σd' Hd' s' r' rs' q' => ⟨σd', Hd', Dd, rs', r', m _ _ q', k1.at s', k2.at s', k3.at s', k4.at s'⟩, k2, k3, k4⟩
/-- a way that is not gone -/
def dNever : DTS := fun _ _ _ => False
theorem ds_never : DSt X st dNever := ds_of ps_never fun D σ H σd Hd Dd rs rh q _ _ _ _ => q
theorem dss_never {sts : List Stmt} : DSs X sts dNever := pss_mono pss_never fun D σ H ⟨σd, Hd, Dd, rs, rh, q, _⟩ => q

/-! ## targets -/
theorem dg_of {t : TG} {td : DTG} (h : PG X tg t) (i : ∀ v σ H Q d σd Hd Qd, Rep X.K H d v → RepS X.K H σd σ → RepH X.K H Hd → td d σd Hd Qd → KS X.K H Hd Qd Q → t v σ H Q) : DG X tg td :=
  pg_mono h fun v σ H Q ⟨d, σd, Hd, Qd, r, rs, rh, q, k⟩ => i v σ H Q d σd Hd Qd r rs rh q k
def dgName (i : Nat) : DTG := fun d σ H Q => Q (σ.set i (some d)) H
theorem dg_name {i : Nat} (h : PG X tg (gName i)) : DG X tg (dgName i) := dg_of h fun v σ H Q d σd Hd Qd r rs rh q k => k _ H _ Hd .refl rh (rs.set i r) q
abbrev DTGs := List Dv → DS → DH → (DS → DH → Prop) → Prop
def lGs (K : PySem.W.Frag) (g : DTGs) : TGs := fun vs σ H Q => ∃ ds σd Hd Qd, RepL K H ds vs ∧ RepS K H σd σ ∧ RepH K H Hd ∧ g ds σd Hd Qd ∧ KS K H Hd Qd Q
abbrev DGs (X : Cx) (es : List Expr) (t : DTGs) : Prop := PGs X es (lGs X.K t)
theorem pgs_mono {es : List Expr} {t t' : TGs} (h : PGs X es t) (i : ∀ vs σ H Q, t' vs σ H Q → t vs σ H Q) : PGs X es t' := ⟨fun p s σ H v u Q I r q => h.run p s σ H v u Q I r (i v σ H Q q)⟩
def dgNil : DTGs := fun ds σ H Q => ds = [] ∧ Q σ H
def dgCons (t : DTG) (u : DTGs) : DTGs := fun ds σ H Q => match ds with
  | d :: r => t d σ H fun σ' H' => u r σ' H' Q
  | [] => False
theorem dgs_nil : DGs X [] dgNil := pgs_mono pgs_nil fun vs σ H Q ⟨ds, σd, Hd, Qd, rl, rs, rh, ⟨e, q⟩, k⟩ => by
  subst e
  exact ⟨rl, k _ _ _ _ .refl rh rs q⟩
theorem dgs_cons {es : List Expr} {u : DTGs} (h : DG X e g) (h' : DGs X es u) (hs : (assignEach (e :: es) X.env).map (·.2) = assign e X.env :: (assignEach es X.env).map (·.2) := by rfl) : DGs X (e :: es) (dgCons g u) :=
  pgs_mono (pgs_cons h h' hs) fun vs σ H Q ⟨ds, σd, Hd, Qd, rl, rs, rh, q, k⟩ => by
    cases ds with
    | nil => exact q.elim
    | cons d ds =>
      obtain ⟨v, r, rfl, r1, r2⟩ := rl
      exact ⟨v, r, rfl, d, σd, Hd, _, r1, rs, rh, q, fun σ1 H1 σd1 Hd1 s1 rh1 rs1 q1 => ⟨ds, σd1, Hd1, Qd, s1.repL rh r2, rs1, rh1, q1, k.at s1⟩⟩
def dgTup (n : Nat) (u : DTGs) : DTG := fun d σ H Q => match d with
  | .tup ds => ds.length = n ∧ u ds σ H Q
  | _ => False
theorem dg_tup {es : List Expr} {k : Nat} {u : DTGs} {n : Nat} (hc : X.calm = true) (h : DGs X es u) (hn : (assignEach es X.env).length = n := by rfl) (hst : (assignEach es X.env).findIdx? (·.1) = none := by rfl) : DG X (.Tuple es k pos) (dgTup n u) :=
  dg_of (pg_tup hc h hn hst) fun v σ H Q d σd Hd Qd r rs rh q k => by
    cases d with
    | tup ds =>
      obtain ⟨a, vs, rfl, hq, rl⟩ := r
      exact ⟨a, vs, rfl, hq, by rw [← rl.length]; exact q.1, ds, σd, Hd, Qd, rl, rs, rh, q.2, k⟩
    | _ => exact q.elim
/-- l[i] = .. -/
def dgSub (to ti : DTE) : DTG := fun d σ H Q => to σ H fun o H1 => ti σ H1 fun i H2 => match o, i with
  | .ref p, .int k => ∃ ds j, H2 p = some (.lst ds) ∧ ixN ds.length k = some j ∧ Q σ (upD H2 p (.lst (ds.set j d)))
  | _, _ => False
theorem dg_sub {o i : Expr} {to ti : DTE} (ho : DE X o to) (hi : DE X i ti) (ha : ∀ v, assign (.Subscript o i pos) X.env v = (do
      let ov ← holding [v] (eval o X.env)
      let iv ← holding [v, ov] (eval i X.env)
      standAt pos
      holding [v, ov, iv] (setItem ov iv v)
      release [v, ov, iv] []) := by intro _; rfl) : DG X (.Subscript o i pos) (dgSub to ti) :=
  dg_of (pg_sub ho hi set_list ha) fun v σ H Q d σd Hd Qd r rs rh q k => ⟨σd, Hd, _, rs, rh, q, fun x H1 dx Hd1 s1 r1 rx q1 => ⟨σd, Hd1, _, s1.repS rh rs, r1, q1, fun y H2 dy Hd2 s2 r2 ry q2 => by
    have st := s1.trans s2
    split at q2
    · obtain ⟨ds, j, h, hj, q2⟩ := q2
      obtain ⟨vs, e1, l⟩ := r2 _ _ h
      refine ⟨_, vs, _, j, rx, ry, e1, by rw [← l.length]; exact hj, ?_⟩
      have sp : Stp H2 Hd2 (upd H2 _ (.lst (vs.set j v))) (upD Hd2 _ (.lst (ds.set j d))) := Stp.put h
      exact k _ _ _ _ (st.trans sp) (r2.put h (l.set j (st.rep rh r))) ((st.trans sp).repS rh rs) q2
    · exact q2.elim⟩⟩
def dAsg (te : DTE) (g : DTG) : DTS := fun D σ H => te σ H fun d H1 => g d σ H1 D.nx
theorem asg_of {te : DTE} {g : DTG} {D : Ends} {σ : St} {H : Hp} (h : lS X.K (dAsg te g) D σ H) : tAsg (lE X.K te) (lG X.K g) D σ H := by
  obtain ⟨σd, Hd, Dd, rs, rh, q, k1, _⟩ := h
  exact ⟨σd, Hd, _, rs, rh, q, fun v H1 d Hd1 s1 r1 rv q1 => ⟨d, σd, Hd1, _, rv, s1.repS rh rs, r1, q1, k1.at s1⟩⟩
theorem ds_asg (he : DE X e te) (hg : DG X tg g) (hs : swapsWithSole [tg] e pos.line X.env = pure false := by rfl) (hw : swappedStores [tg] e X.env = pure none := by rfl) (h1 : (assignEach [tg] X.env).map (·.2) = [assign tg X.env] := by rfl) :
    DSt X (.Assign [tg] e pos) (dAsg te g) := ps_mono (ps_asg he hg hs hw h1) fun _ _ _ h => asg_of h
def dSet (i : Nat) (te : DTE) : DTS := fun D σ H => te σ H fun d H1 => D.nx (σ.set i (some d)) H1
theorem ds_setOf {i : Nat} {st : Stmt} (h : PS X st (tAsg (lE X.K te) (gName i))) : DSt X st (dSet i te) :=
  ds_of h fun D σ H σd Hd Dd rs rh q k1 _ _ _ => ⟨σd, Hd, _, rs, rh, q, fun v H1 d Hd1 s1 r1 rv q1 => k1 _ _ _ _ s1 r1 ((s1.repS rh rs).set i rv) q1⟩
theorem ds_set {i : Nat} {x : Str} {pos' : Pos} (hN : X.N.Nodup) (hi : X.N[i]? = some x) (hx : Loc X.env.scope x) (he : DE X e te) (hs : swapsWith e (some (.Name x pos')) pos.line X.env = pure false := by rfl)
    (hf : X.fn x = true ∨ X.env.scope.names.lookup x = some .local := by first | exact .inl rfl | exact .inr rfl | assumption) : DSt X (.Assign [.Name x pos'] e pos) (dSet i te) := ds_setOf (ps_set hN hi hx he hs hf)
/-- a, b = x, y; a, b, c = x, y, z with plain local names -/
def dPar (ix : List Nat) (t : DTA) : DTS := fun D σ H => t σ H fun ds H1 => ds.length = ix.length ∧ D.nx ((ix.zip ds).foldl (fun s p => s.set p.1 (some p.2)) σ) H1
theorem ds_par {i j : Nat} {x y : Str} {a b : Expr} {ta : DTA} {px py pt : Pos} {kt k2 pt2} (hc : X.calm = true) (hN : X.N.Nodup) (hi : X.N[i]? = some x) (hj : X.N[j]? = some y) (hij : i ≠ j)
    (hx : X.env.scope.names.lookup x = some .local) (hy : X.env.scope.names.lookup y = some .local) (ha : DA X [a, b] ta)
    (hw : swappedStores [.Tuple [.Name x px, .Name y py] kt pt] (.Tuple [a, b] k2 pt2) X.env = pure (some [x, y]) := by rfl)
    (hs : swapsWithSole [.Tuple [.Name x px, .Name y py] kt pt] (.Tuple [a, b] k2 pt2) pos.line X.env = pure false := by rfl) :
    DSt X (.Assign [.Tuple [.Name x px, .Name y py] kt pt] (.Tuple [a, b] k2 pt2) pos) (dPar [i, j] ta) :=
  ds_of (ps_par hc hN hi hj hij hx hy ha hw hs) fun D σ H σd Hd Dd rs rh q k1 _ _ _ => ⟨σd, Hd, _, rs, rh, q, fun vs H1 ds Hd1 s1 r1 rl ⟨n, q1⟩ => by
    match ds, n, q1, rl with
    | [d1, d2], _, q1, rl =>
      obtain ⟨v, r, rfl, g1, w, r', rfl, g2, g3⟩ := rl
      have g3' : r' = [] := g3
      subst g3'
      exact ⟨v, w, rfl, k1 _ _ _ _ s1 r1 (((s1.repS rh rs).set i g1).set j g2) q1⟩⟩
theorem ds_par3 {i j l : Nat} {x y z : Str} {a b c : Expr} {ta : DTA} {px py pz pt pos : Pos} {kt k2 pt2} (hc : X.calm = true) (hN : X.N.Nodup) (hi : X.N[i]? = some x) (hj : X.N[j]? = some y) (hl : X.N[l]? = some z) (hij : i ≠ j) (hil : i ≠ l) (hjl : j ≠ l)
    (hx : X.env.scope.names.lookup x = some .local) (hy : X.env.scope.names.lookup y = some .local) (hz : X.env.scope.names.lookup z = some .local) (ha : DA X [a, b, c] ta)
    (hw : swappedStores [.Tuple [.Name x px, .Name y py, .Name z pz] kt pt] (.Tuple [a, b, c] k2 pt2) X.env = pure (some [x, y, z]) := by rfl)
    (hs : swapsWithSole [.Tuple [.Name x px, .Name y py, .Name z pz] kt pt] (.Tuple [a, b, c] k2 pt2) pos.line X.env = pure false := by rfl) :
    DSt X (.Assign [.Tuple [.Name x px, .Name y py, .Name z pz] kt pt] (.Tuple [a, b, c] k2 pt2) pos) (dPar [i, j, l] ta) :=
  ds_of (ps_par3 hc hN hi hj hl hij hil hjl hx hy hz ha hw hs) fun D σ H σd Hd Dd rs rh q k1 _ _ _ => ⟨σd, Hd, _, rs, rh, q, fun vs H1 ds Hd1 s1 r1 rl ⟨n, q1⟩ => by
    match ds, n, q1, rl with
    | [d1, d2, d3], _, q1, rl =>
      obtain ⟨u, r, rfl, g1, v, r', rfl, g2, w, r'', rfl, g3, g4⟩ := rl
      have g4' : r'' = [] := g4
      subst g4'
      exact ⟨u, v, w, rfl, k1 _ _ _ _ s1 r1 ((((s1.repS rh rs).set i g1).set j g2).set l g3) q1⟩⟩
/-- x op= e -/
def dAug (i : Nat) (te : DTE) (f : D2) : DTS := fun D σ H => ∃ d, σ[i]? = some (some d) ∧ te σ H fun y H1 => f d y H1 fun z H2 => D.nx (σ.set i (some z)) H2
theorem ds_aug {i : Nat} {x : Str} {op : Operator} {r : R2} {f : D2} {pos' : Pos} (ho : OpR X (inplaceOp op) r) (hf : R2Ok X.K r f) (hN : X.N.Nodup) (hi : X.N[i]? = some x) (hx : Loc X.env.scope x) (he : DE X e te)
    (hl : X.fn x = true ∨ X.env.scope.names.lookup x = some .local := by first | exact .inl rfl | exact .inr rfl | assumption) : DSt X (.AugAssign (.Name x pos') op e pos) (dAug i te f) :=
  ds_of (ps_aug (ti := r) hN hi hx he (fun pins s σ H x y v u Q I rx ry q => ho pins s σ H x y v u Q I rx ry q) hl) fun D σ H σd Hd Dd rs rh ⟨d, e1, q⟩ k1 _ _ _ => by
    obtain ⟨v, e2, r⟩ := rs.2 i d e1
    refine ⟨v, e2, σd, Hd, _, rs, rh, q, fun y H1 dy Hd1 s1 r1 ry q1 => ?_⟩
    exact hf H1 Hd1 v y d dy _ _ r1 (s1.rep rh r) ry q1 fun z H2 dz Hd2 s2 r2 rz q2 => k1 _ _ _ _ (s1.trans s2) r2 (((s1.trans s2).repS rh rs).set i rz) q2
end

/-! ## loops -/
/-- what is walked: n turns, the i-th thing, what must stand meanwhile -/
structure DIt where
  n : Nat
  f : Nat → Dv
  G : DH → Prop
abbrev DTI := DS → DH → (DIt → DH → Prop) → Prop
structure JW (K : PySem.W.Frag) (H0 : Hp) (Hd0 : DH) (J : It) (D : DIt) : Prop where
  go : ∀ H Hd, Stp H0 Hd0 H Hd → RepH K H Hd → D.G Hd → ∀ i, i < D.n → J.go i H
  stop : ∀ H Hd, Stp H0 Hd0 H Hd → RepH K H Hd → D.G Hd → J.stop D.n H
  yld : ∀ H Hd, Stp H0 Hd0 H Hd → RepH K H Hd → D.G Hd → ∀ i x H', i < D.n → J.yld i H x H' → Stp H Hd H' Hd ∧ RepH K H' Hd ∧ Rep K H' (D.f i) x
def lI (K : PySem.W.Frag) (t : DTI) : TI := fun σ H R => ∃ σd Hd Rd, RepS K H σd σ ∧ RepH K H Hd ∧ t σd Hd Rd ∧ ∀ J H' D Hd', Stp H Hd H' Hd' → RepH K H' Hd' → JW K H' Hd' J D → Rd D Hd' → R J H'
abbrev DI (X : Cx) (tg e : Expr) (t : DTI) : Prop := PI X tg e (lI X.K t)
theorem pi_mono {X : Cx} {tg e : Expr} {t t' : TI} (h : PI X tg e t) (i : ∀ σ H R, t' σ H R → t σ H R) : PI X tg e t' := ⟨fun p s σ H R I q => h.run p s σ H R I (i σ H R q)⟩
def dFor (it : DTI) (g : DTG) (tb : DTS) : DTS := fun D σ H => it σ H fun I H1 => ∃ Pv : Nat → DS → DH → Prop, Pv 0 σ H1 ∧ (∀ i σ H, i ≤ I.n → Pv i σ H → I.G H) ∧
  (∀ i σ H, i < I.n → Pv i σ H → g (I.f i) σ H fun σ2 H2 => tb { D with nx := Pv (i + 1), ct := Pv (i + 1), bk := D.nx } σ2 H2) ∧ ∀ σ H, Pv I.n σ H → D.nx σ H
section
variable {X : Cx} {body : List Stmt} {iter tg c : Expr} {it : DTI} {g : DTG} {tb : DTS} {tc : DTT} {pos : Pos}
theorem ds_for (hp : PassesOwn (model X.prog X.w) X.A X.env X.xe) (hc : X.calm = true) (hi : DI X tg iter it) (hg : DG X tg g) (hb : DSs X body tb) (hs : ∀ x, foldedSetIterable iter X.env x = pure x := by intro _; rfl) :
    DSt X (.For tg iter body [] pos) (dFor it g tb) :=
  ds_of (ps_for hp hc hi hg hb hs) fun D σ H σd Hd Dd rs rh q k1 k2 k3 k4 => ⟨σd, Hd, _, rs, rh, q, fun J H1 I Hd1 s1 r1 w ⟨Pv, p0, hG, step, fin⟩ => by
    have base : RepS X.K H1 σd σ := s1.repS rh rs
    refine ⟨fun i m σ' H' => ∃ σd' Hd', m = I.n - i ∧ i ≤ I.n ∧ Stp H1 Hd1 H' Hd' ∧ RepH X.K H' Hd' ∧ RepS X.K H' σd' σ' ∧ Pv i σd' Hd', ⟨_, σd, Hd1, rfl, Nat.zero_le _, .refl, r1, base, p0⟩, ?_⟩
    rintro i m σ' H' ⟨σd', Hd', rfl, hi, s', r', rs', p⟩
    have gg := hG i σd' Hd' hi p
    by_cases hlt : i < I.n
    · refine .inr ⟨w.go H' Hd' s' r' gg i hlt, fun σ2 H2 => ∃ σd2 Hd2, Stp H1 Hd1 H2 Hd2 ∧ RepH X.K H2 Hd2 ∧ RepS X.K H2 σd2 σ2 ∧ Pv (i + 1) σd2 Hd2, ?_, fun x H2 y => ?_⟩
      · rintro σ2 H2 ⟨σd2, Hd2, s2, r2, rs2, p2⟩
        exact ⟨I.n - (i + 1), by omega, σd2, Hd2, rfl, hlt, s2, r2, rs2, p2⟩
      · obtain ⟨s2, r2, rx⟩ := w.yld H' Hd' s' r' gg i x H2 hlt y
        refine ⟨I.f i, σd', Hd', _, rx, s2.repS r' rs', r2, step i σd' Hd' hlt p, fun σ3 H3 σd3 Hd3 s3 r3 rs3 q3 => ?_⟩
        have st : Stp H1 Hd1 H3 Hd3 := (s'.trans s2).trans s3
        have st0 := s1.trans st
        refine ⟨σd3, Hd3, _, rs3, r3, q3, ?_, k2.at st0, k1.at st0, ?_⟩
        · exact fun σ4 H4 σd4 Hd4 s4 r4 rs4 q4 => ⟨σd4, Hd4, st.trans s4, r4, rs4, q4⟩
        · exact fun σ4 H4 σd4 Hd4 s4 r4 rs4 q4 => ⟨σd4, Hd4, st.trans s4, r4, rs4, q4⟩
    · have e : i = I.n := by omega
      subst e
      exact .inl ⟨w.stop H' Hd' s' r' gg, k1 _ _ _ _ (s1.trans s') r' rs' (fin _ _ p)⟩⟩
def dWhile (c : DTT) (tb : DTS) : DTS := fun D σ H => ∃ (Pv : DS → DH → Prop) (μ : DS → DH → Nat), Pv σ H ∧ ∀ σ H, Pv σ H →
  c σ H fun b H1 => (b = true → tb { D with nx := fun σ' H' => Pv σ' H' ∧ μ σ' H' < μ σ H, ct := fun σ' H' => Pv σ' H' ∧ μ σ' H' < μ σ H, bk := D.nx } σ H1) ∧ (b = false → D.nx σ H1)
theorem ds_while (hp : PassesOwn (model X.prog X.w) X.A X.env X.xe) (hc : DT X c tc) (hb : DSs X body tb) : DSt X (.While c body [] pos) (dWhile tc tb) :=
  ds_of (ps_while hp hc hb) fun D σ H σd Hd Dd rs rh ⟨Pv, μ, p0, step⟩ k1 k2 k3 k4 => by
    refine ⟨fun m σ' H' => ∃ σd' Hd', m = μ σd' Hd' ∧ Stp H Hd H' Hd' ∧ RepH X.K H' Hd' ∧ RepS X.K H' σd' σ' ∧ Pv σd' Hd', ⟨_, σd, Hd, rfl, .refl, rh, rs, p0⟩, ?_⟩
    rintro m σ' H' ⟨σd', Hd', rfl, s', r', rs', p⟩
    refine ⟨σd', Hd', _, rs', r', step σd' Hd' p, fun b H1 Hd1 s1 r1 q1 => ?_⟩
    have st := s'.trans s1
    cases b with
    | false => exact iteF (k1 _ _ _ _ st r1 (s1.repS r' rs') (q1.2 rfl))
    | true =>
      refine iteT ⟨fun σ2 H2 => ∃ σd2 Hd2, μ σd2 Hd2 < μ σd' Hd' ∧ Stp H Hd H2 Hd2 ∧ RepH X.K H2 Hd2 ∧ RepS X.K H2 σd2 σ2 ∧ Pv σd2 Hd2, ?_, ?_⟩
      · rintro σ2 H2 ⟨σd2, Hd2, hm, s2, r2, rs2, p2⟩
        exact ⟨_, hm, σd2, Hd2, rfl, s2, r2, rs2, p2⟩
      · refine ⟨σd', Hd1, _, s1.repS r' rs', r1, q1.1 rfl, ?_, k2.at st, k1.at st, ?_⟩
        · exact fun σ4 H4 σd4 Hd4 s4 r4 rs4 q4 => ⟨σd4, Hd4, q4.2, st.trans s4, r4, rs4, q4.1⟩
        · exact fun σ4 H4 σd4 Hd4 s4 r4 rs4 q4 => ⟨σd4, Hd4, q4.2, st.trans s4, r4, rs4, q4.1⟩
end
/-! ## comprehensions -/
def dYes : DTT := fun _ H Q => Q true H
def lTs (K : PySem.W.Frag) (t : DTT) : TT := lT K t
abbrev DTs (X : Cx) (ifs : List Expr) (t : DTT) : Prop := PTs X ifs (lT X.K t)
theorem dts_nil {X : Cx} : DTs X [] dYes := ⟨fun p s σ H Q I ⟨σd, Hd, Qd, rs, rh, q, k⟩ => pts_nil.run p s σ H Q I (k true H Hd .refl rh q)⟩
theorem dts_one {X : Cx} {c : Expr} {t : DTT} (h : DT X c t) : DTs X [c] t := pts_one h
def wipeD (σ : DS) : List Nat → DS
  | [] => σ
  | v :: vs => (wipeD σ vs).set v none
theorem RepS.wipe {K : PySem.W.Frag} {H : Hp} {σd : DS} {σ : St} (h : RepS K H σd σ) : ∀ vs : List Nat, RepS K H (wipeD σd vs) (L2.wipe σ vs)
  | [] => h
  | v :: vs => by
    have ih := h.wipe vs
    refine ⟨by show ((wipeD σd vs).set v none).length = ((L2.wipe σ vs).set v none).length; rw [List.length_set, List.length_set]; exact ih.1, fun i d e => ?_⟩
    have e' : ((wipeD σd vs).set v none)[i]? = some (some d) := e
    by_cases hv : v = i
    · subst hv
      by_cases hl : v < (wipeD σd vs).length
      · rw [List.getElem?_set_self hl] at e'; cases e'
      · rw [List.getElem?_eq_none (by rw [List.length_set]; omega)] at e'; cases e'
    · rw [List.getElem?_set_ne hv] at e'
      obtain ⟨w, q1, q2⟩ := ih.2 i d e'
      exact ⟨w, by show ((L2.wipe σ vs).set v none)[i]? = _; rw [List.getElem?_set_ne hv]; exact q1, q2⟩
/-- the target of a comprehension: only the places vs are stored to -/
def lGc (K : PySem.W.Frag) (vs : List Nat) (g : DTG) : TG := fun v σ H Q => ∃ d σd Hd Qd, Rep K H d v ∧ RepS K H σd σ ∧ RepH K H Hd ∧ g d σd Hd Qd ∧
  ∀ σ' H' σd' Hd', L2.wipe σ' vs = L2.wipe σ vs → Stp H Hd H' Hd' → RepH K H' Hd' → RepS K H' σd' σ' → Qd σd' Hd' → Q σ' H'
def lGcs (K : PySem.W.Frag) (vs : List Nat) (g : DTGs) : TGs := fun xs σ H Q => ∃ ds σd Hd Qd, RepL K H ds xs ∧ RepS K H σd σ ∧ RepH K H Hd ∧ g ds σd Hd Qd ∧
  ∀ σ' H' σd' Hd', L2.wipe σ' vs = L2.wipe σ vs → Stp H Hd H' Hd' → RepH K H' Hd' → RepS K H' σd' σ' → Qd σd' Hd' → Q σ' H'
theorem wipe_at (σ : St) : ∀ (vs : List Nat) (j : Nat), (L2.wipe σ vs)[j]? = if j ∈ vs then σ[j]?.map (fun _ => none) else σ[j]?
  | [], j => by rw [if_neg (List.not_mem_nil)]; rfl
  | v :: vs, j => by
    have ih := wipe_at σ vs j
    show ((L2.wipe σ vs).set v none)[j]? = _
    by_cases h : v = j
    · subst h
      rw [if_pos List.mem_cons_self]
      by_cases hl : v < σ.length
      · rw [List.getElem?_set_self (by rw [wipe_length]; exact hl), List.getElem?_eq_getElem hl]; rfl
      · rw [List.getElem?_eq_none (by rw [List.length_set, wipe_length]; omega), List.getElem?_eq_none (by omega)]; rfl
    · rw [List.getElem?_set_ne h, ih]
      by_cases m : j ∈ vs
      · rw [if_pos m, if_pos (List.mem_cons_of_mem _ m)]
      · rw [if_neg m, if_neg (by simp only [List.mem_cons, not_or]; exact ⟨fun e => h e.symm, m⟩)]
theorem wipe_set (σ : St) {vs : List Nat} {i : Nat} (x : Option V) (h : i ∈ vs) : L2.wipe (σ.set i x) vs = L2.wipe σ vs := by
  apply List.ext_getElem?
  intro j
  rw [wipe_at, wipe_at]
  by_cases e : i = j
  · subst e
    rw [if_pos h, if_pos h]
    by_cases hl : i < σ.length
    · rw [List.getElem?_set_self hl, List.getElem?_eq_getElem hl]; rfl
    · rw [List.getElem?_eq_none (by rw [List.length_set]; omega), List.getElem?_eq_none (by omega)]
  · rw [List.getElem?_set_ne e]
section
variable {X : Cx} {vs : List Nat} {e tg : Expr} {g : DTG} {pos : Pos}
theorem dgc_name {i : Nat} (h : PG X tg (gName i)) (hi : i ∈ vs := by decide) : PG X tg (lGc X.K vs (dgName i)) := pg_mono h fun v σ H Q ⟨d, σd, Hd, Qd, r, rs, rh, q, k⟩ => k _ H _ Hd (wipe_set σ (some v) hi) .refl rh (rs.set i r) q
theorem dgcs_nil : PGs X [] (lGcs X.K vs dgNil) := pgs_mono pgs_nil fun xs σ H Q ⟨ds, σd, Hd, Qd, rl, rs, rh, ⟨e, q⟩, k⟩ => by
  subst e
  exact ⟨rl, k _ _ _ _ rfl .refl rh rs q⟩
theorem dgcs_cons {es : List Expr} {u : DTGs} (h : PG X e (lGc X.K vs g)) (h' : PGs X es (lGcs X.K vs u)) (hs : (assignEach (e :: es) X.env).map (·.2) = assign e X.env :: (assignEach es X.env).map (·.2) := by rfl) : PGs X (e :: es) (lGcs X.K vs (dgCons g u)) :=
  pgs_mono (pgs_cons h h' hs) fun xs σ H Q ⟨ds, σd, Hd, Qd, rl, rs, rh, q, k⟩ => by
    cases ds with
    | nil => exact q.elim
    | cons d ds =>
      obtain ⟨v, r, rfl, r1, r2⟩ := rl
      exact ⟨v, r, rfl, d, σd, Hd, _, r1, rs, rh, q, fun σ1 H1 σd1 Hd1 w1 s1 rh1 rs1 q1 => ⟨ds, σd1, Hd1, Qd, s1.repL rh r2, rs1, rh1, q1, fun σ2 H2 σd2 Hd2 w2 s2 => k σ2 H2 σd2 Hd2 (w2.trans w1) (s1.trans s2)⟩⟩
theorem dgc_tup {es : List Expr} {k : Nat} {u : DTGs} {n : Nat} (hc : X.calm = true) (h : PGs X es (lGcs X.K vs u)) (hn : (assignEach es X.env).length = n := by rfl) (hst : (assignEach es X.env).findIdx? (·.1) = none := by rfl) : PG X (.Tuple es k pos) (lGc X.K vs (dgTup n u)) :=
  pg_mono (pg_tup hc h hn hst) fun v σ H Q ⟨d, σd, Hd, Qd, r, rs, rh, q, k⟩ => by
    cases d with
    | tup ds =>
      obtain ⟨a, vs, rfl, hq, rl⟩ := r
      exact ⟨a, vs, rfl, hq, by rw [← rl.length]; exact q.1, ds, σd, Hd, Qd, rl, rs, rh, q.2, k⟩
    | _ => exact q.elim
end
/-- a comprehension; fin: what comes of the items at the end -/
def dLcG (fin : List Dv → DH → DVK → Prop) (it : DTI) (vs : List Nat) (g : DTG) (tt : DTT) (te : DTE) : DTE := fun σ H Q => it σ H fun I H1 => ∃ Pv : Nat → List Dv → DH → Prop, Pv 0 [] H1 ∧ (∀ i acc H, i ≤ I.n → Pv i acc H → I.G H) ∧
  (∀ i acc H, i < I.n → Pv i acc H → g (I.f i) (wipeD σ vs) H fun σ2 H2 => tt σ2 H2 fun b H3 =>
    (b = true → te σ2 H3 fun y H4 => acc.length < sizeLine ∧ Pv (i + 1) (acc ++ [y]) H4) ∧ (b = false → Pv (i + 1) acc H3)) ∧
  ∀ acc H, Pv I.n acc H → fin acc H Q
abbrev dLc := dLcG fun acc H Q => ∀ p, H p = none → Q (.ref p) (upD H p (.lst acc))
abbrev dLcF := dLcG fun acc H Q => Q (.lsv acc) H
theorem lc_gen {K : PySem.W.Frag} {fn : List Dv → DH → DVK → Prop} {it : DTI} {vs : List Nat} {g : DTG} {tt : DTT} {te : DTE} {σ : St} {H : Hp} {Q : VK} {σd : DS} {Hd : DH} {Qd : DVK} (rs : RepS K H σd σ) (rh : RepH K H Hd) (q : dLcG fn it vs g tt te σd Hd Qd)
    (last : ∀ H' Hd' D acc ws, Stp H Hd H' Hd' → H D = none → RepH K H' Hd' → H' D = some (.lst ws) → Hd' D = none → RepL K H' acc ws → fn acc Hd' Qd → Q (.ref D) H') : tLc (lI K it) (lGc K vs g) (lT K tt) (lE K te) vs σ H Q := by
  refine ⟨σd, Hd, _, rs, rh, q, fun J H1 I Hd1 s1 r1 w ⟨Pv, p0, hG, step, fin⟩ D hD => ?_⟩
  have dD : Hd1 D = none := r1.free hD
  have hD0 : H D = none := by
    cases e : H D with
    | none => rfl
    | some o => exact absurd hD (s1.dom D (by rw [e]; exact fun z => nomatch z))
  refine ⟨fun i m H' => ∃ acc ws Hd', m = I.n - i ∧ i ≤ I.n ∧ Stp H1 Hd1 H' Hd' ∧ RepH K H' Hd' ∧ H' D = some (.lst ws) ∧ Hd' D = none ∧ RepL K H' acc ws ∧ Pv i acc Hd',
    ⟨_, [], [], Hd1, rfl, Nat.zero_le _, .lay hD, r1.lay hD, upd_same, dD, rfl, p0⟩, ?_⟩
  rintro i m H' ⟨acc, ws, Hd', rfl, hi, s', r', eD, nD, rl, p⟩
  have gg := hG i acc Hd' hi p
  -- behind a step from here the list is as it was
  have stay : ∀ {H2 : Hp} {Hd2 : DH}, Stp H' Hd' H2 Hd2 → H2 D = some (.lst ws) ∧ Hd2 D = none := fun {H2 Hd2} s2 => by
    refine ⟨s2.frame D _ eD nD, ?_⟩
    cases e : Hd2 D with
    | none => rfl
    | some o =>
      rcases s2.new D (by rw [e]; exact fun z => nomatch z) with z | z
      · exact absurd nD z
      · rw [eD] at z; cases z
  by_cases hlt : i < I.n
  · refine .inr ⟨w.go H' Hd' s' r' gg i hlt, fun H2 => ∃ acc ws Hd2, Stp H1 Hd1 H2 Hd2 ∧ RepH K H2 Hd2 ∧ H2 D = some (.lst ws) ∧ Hd2 D = none ∧ RepL K H2 acc ws ∧ Pv (i + 1) acc Hd2, ?_, fun x H2 y => ?_⟩
    · rintro H2 ⟨acc2, ws2, Hd2, s2, r2, e2, n2, l2, p2⟩
      exact ⟨I.n - (i + 1), by omega, acc2, ws2, Hd2, rfl, hlt, s2, r2, e2, n2, l2, p2⟩
    · obtain ⟨s2, r2, rx⟩ := w.yld H' Hd' s' r' gg i x H2 hlt y
      have rsw : RepS K H2 (wipeD σd vs) (L2.wipe σ vs) := ((s1.trans (s'.trans s2)).repS rh rs).wipe vs
      refine ⟨I.f i, wipeD σd vs, Hd', _, rx, rsw, r2, step i acc Hd' hlt p, fun σ3 H3 σd3 Hd3 wp s3 r3 rs3 q3 => ⟨?_, σd3, Hd3, _, rs3, r3, q3, fun b H4 Hd4 s4 r4 q4 => ?_⟩⟩
      · rw [wp]
        apply List.ext_getElem?
        intro j
        rw [wipe_at, wipe_at]
        by_cases m : j ∈ vs
        · rw [if_pos m, if_pos m]
          cases σ[j]? <;> rfl
        · rw [if_neg m, if_neg m]
      · have st4 : Stp H' Hd' H4 Hd4 := (s2.trans s3).trans s4
        cases b with
        | false =>
          refine iteF ⟨acc, ws, Hd4, s'.trans st4, r4, (stay st4).1, (stay st4).2, st4.repL r' rl, q4.2 rfl⟩
        | true =>
          refine iteT ⟨σd3, Hd4, _, s4.repS r3 rs3, r4, q4.1 rfl, fun v H5 d Hd5 s5 r5 rv q5 => ?_⟩
          have st5 : Stp H' Hd' H5 Hd5 := st4.trans s5
          have l5 : RepL K H5 acc ws := st5.repL r' rl
          refine ⟨ws, (stay st5).1, by rw [← rl.length]; exact q5.1, ?_⟩
          have r5' : RepH K H5 (upD Hd5 D (.lst acc)) := fun a o e => by
            by_cases z : a = D
            · subst z
              rw [upD_same] at e
              cases e
              exact ⟨ws, (stay st5).1, l5⟩
            · rw [upD_ne z] at e
              exact r5 a o e
          have sp : Stp H5 (upD Hd5 D (.lst acc)) (upd H5 D (.lst (ws ++ [v]))) (upD (upD Hd5 D (.lst acc)) D (.lst (acc ++ [d]))) := Stp.put upD_same
          have l6 : RepL K (upd H5 D (.lst (ws ++ [v]))) (acc ++ [d]) (ws ++ [v]) := (sp.repL r5' l5).append (.one (sp.rep r5' rv))
          refine ⟨acc ++ [d], ws ++ [v], Hd5, ?_, ?_, upd_same, (stay st5).2, l6, q5.2⟩
          · have a := s'.trans st5
            refine ⟨fun b o e n => ?_, fun b e => ?_, a.new⟩
            · rw [upd_ne (ne_of_none e hD)]
              exact a.frame b o e n
            · by_cases z : b = D
              · rw [z, upd_same]; exact fun q => nomatch q
              · rw [upd_ne z]; exact a.dom b e
          · intro b o e
            have z : b ≠ D := fun z => by rw [z, (stay st5).2] at e; cases e
            exact (r5 b o e).keep (Hd := upD Hd5 D (.lst acc)) sp r5' (upd_ne z)
  · have e : i = I.n := by omega
    subst e
    exact .inl ⟨w.stop H' Hd' s' r' gg, last H' Hd' D acc ws (s1.trans s') hD0 r' eD nD rl (fin acc Hd' p)⟩
theorem lc_of {K : PySem.W.Frag} {it : DTI} {vs : List Nat} {g : DTG} {tt : DTT} {te : DTE} {σ : St} {H : Hp} {Q : VK} (h : lE K (dLc it vs g tt te) σ H Q) : tLc (lI K it) (lGc K vs g) (lT K tt) (lE K te) vs σ H Q := by
  obtain ⟨σd, Hd, Qd, rs, rh, q, k⟩ := h
  refine lc_gen rs rh q fun H' Hd' D acc ws st hD r' eD nD rl z => ?_
  refine k (.ref D) H' (.ref D) (upD Hd' D (.lst acc)) ⟨st.frame, st.dom, fun b e => ?_⟩ (fun b o e => ?_) rfl (z D nD)
  · by_cases y : b = D
    · exact .inr (by rw [y]; exact hD)
    · rw [upD_ne y] at e
      exact st.new b e
  · by_cases y : b = D
    · subst y
      rw [upD_same] at e
      cases e
      exact ⟨ws, eD, rl⟩
    · rw [upD_ne y] at e
      exact r' b o e
section
variable {X : Cx} {elt tg iter : Expr} {ifs : List Expr} {scope : Scope} {own : List (Str × Nat)} {it : DTI} {g : DTG} {tt : DTT} {te : DTE} {pos spos : Pos}
theorem de_lc (hc : X.calm = true) (hN : X.N.Nodup) (hi : DI X tg iter it) (ok : BlkOk X.N X.env.scope scope own)
    (hg : ∀ (s : Shared) (H : Hp) (C : Addr) (cl : List (Str × Addr)) (fp : List Addr), PG (X.blk s H scope (compEnvC scope cl C X.env) fp) tg (lGc X.K (own.map (·.2)) g))
    (ht : ∀ (s : Shared) (H : Hp) (C : Addr) (cl : List (Str × Addr)) (fp : List Addr), PTs (X.blk s H scope (compEnvC scope cl C X.env) fp) ifs (lT X.K tt))
    (he : ∀ (s : Shared) (H : Hp) (C : Addr) (cl : List (Str × Addr)) (fp : List Addr), PE (X.blk s H scope (compEnvC scope cl C X.env) fp) elt (lE X.K te)) (hs : ∀ x, foldedSetIterable iter X.env x = pure x := by intro _; rfl) :
    DE X (.ListComp elt [⟨tg, iter, ifs, 0⟩] scope pos) (dLc it (own.map (·.2)) g tt te) := pe_mono (pe_lc hc hN hi ok hg ht he hs) fun _ _ _ h => lc_of h
theorem ds_setLc {i : Nat} {y : Str} {py : Pos} (hc : X.calm = true) (hN : X.N.Nodup) (hy : X.N[i]? = some y) (hyl : X.env.scope.names.lookup y = some .local)
    (hsw : swapsWith (.ListComp elt [⟨tg, iter, ifs, 0⟩] scope pos) (some (.Name y py)) spos.line X.env = pure true) (hi : DI X tg iter it) (ok : BlkOk X.N X.env.scope scope own)
    (hg : ∀ (s : Shared) (H : Hp) (C : Addr) (cl : List (Str × Addr)) (fp : List Addr), PG (X.blk s H scope (compEnvC scope cl C X.env) fp) tg (lGc X.K (own.map (·.2)) g))
    (ht : ∀ (s : Shared) (H : Hp) (C : Addr) (cl : List (Str × Addr)) (fp : List Addr), PTs (X.blk s H scope (compEnvC scope cl C X.env) fp) ifs (lT X.K tt))
    (he : ∀ (s : Shared) (H : Hp) (C : Addr) (cl : List (Str × Addr)) (fp : List Addr), PE (X.blk s H scope (compEnvC scope cl C X.env) fp) elt (lE X.K te)) (hs : ∀ x, foldedSetIterable iter X.env x = pure x := by intro _; rfl) :
    DSt X (.Assign [.Name y py] (.ListComp elt [⟨tg, iter, ifs, 0⟩] scope pos) spos) (dSet i (dLc it (own.map (·.2)) g tt te)) :=
  ds_of (ps_setLc hc hN hy hyl hsw hi ok hg ht he hs) fun D σ H σd Hd Dd rs rh q k1 _ _ _ => lc_of ⟨σd, Hd, fun d H1 => Dd.nx (σd.set i (some d)) H1, rs, rh, q, fun v H1 d Hd1 s1 r1 rv q1 => k1 _ _ _ _ s1 r1 ((s1.repS rh rs).set i rv) q1⟩
end
end DL

set_option maxHeartbeats 4000000
namespace DL
open PySem PySem.Spec L2
open PyProof.Rows hiding St
/-! ## what is walked -/
section
variable {X : Cx} {tg e a b c : Expr} {te : DTE} {t : DTA} {p pos : Pos}
theorem di_of {w : TI} {td : DTI} (h : PI X tg e w) (i : ∀ σ H R σd Hd Rd, RepS X.K H σd σ → RepH X.K H Hd → td σd Hd Rd → (∀ J H' D Hd', Stp H Hd H' Hd' → RepH X.K H' Hd' → JW X.K H' Hd' J D → Rd D Hd' → R J H') → w σ H R) : DI X tg e td :=
  pi_mono h fun σ H R ⟨σd, Hd, Rd, rs, rh, q, k⟩ => i σ H R σd Hd Rd rs rh q k
/-- the i-th item, told for every i -/
def nth (ds : List Dv) (i : Nat) : Dv := ds.getD i .non
theorem nth_at {ds : List Dv} {i : Nat} (h : i < ds.length) : ds[i]? = some (nth ds i) := by
  unfold nth
  rw [List.getD_eq_getElem?_getD, List.getElem?_eq_getElem h]; rfl
/-- a tuple, a list -/
def walkD (d : Dv) (H : DH) (R : DIt → DH → Prop) : Prop := match d with
  | .tup ds => R ⟨ds.length, nth ds, fun _ => True⟩ H
  | .lsv ds => R ⟨ds.length, nth ds, fun _ => True⟩ H
  | .ref p => ∃ ds, H p = some (.lst ds) ∧ R ⟨ds.length, nth ds, fun H' => H' p = some (.lst ds)⟩ H
  | _ => False
def dWalk (t : DTE) : DTI := fun σ H R => t σ H fun d H1 => walkD d H1 R
theorem jw_tup {K : PySem.W.Frag} {H : Hp} {Hd : DH} {a : Addr} {ds : List Dv} {vs : List V} (rh : RepH K H Hd) (h : SqT K H a vs) (l : RepL K H ds vs) : JW K H Hd (Itt K a) ⟨ds.length, nth ds, fun _ => True⟩ where
  go := fun H' Hd' s r _ i hi => by
    obtain ⟨v, e, _⟩ := l.get (nth_at hi)
    exact ⟨vs, v, s.sqT rh h, e⟩
  stop := fun H' Hd' s r _ => ⟨vs, s.sqT rh h, by show vs.length ≤ ds.length; rw [l.length]; exact Nat.le_refl _⟩
  yld := fun H' Hd' s r _ i x H2 hi y => by
    obtain ⟨v, e, q⟩ := l.get (nth_at hi)
    obtain ⟨rfl, y⟩ := y
    have ex : x = v := Option.some.inj ((y vs (s.sqT rh h)).symm.trans e)
    subst ex
    exact ⟨.refl, r, s.rep rh q⟩
theorem jw_fix {K : PySem.W.Frag} {H : Hp} {Hd : DH} {a : Addr} {ds : List Dv} {vs : List V} (rh : RepH K H Hd) (h : FxL K H a vs) (l : RepL K H ds vs) : JW K H Hd (Itl K a) ⟨ds.length, nth ds, fun _ => True⟩ where
  go := fun H' Hd' s r _ i hi => by
    obtain ⟨v, e, _⟩ := l.get (nth_at hi)
    exact ⟨vs, v, (s.fxL rh h).sq, e⟩
  stop := fun H' Hd' s r _ => ⟨vs, (s.fxL rh h).sq, by show vs.length ≤ ds.length; rw [l.length]; exact Nat.le_refl _⟩
  yld := fun H' Hd' s r _ i x H2 hi y => by
    obtain ⟨v, e, q⟩ := l.get (nth_at hi)
    obtain ⟨rfl, y⟩ := y
    have ex : x = v := Option.some.inj ((y vs (s.fxL rh h).sq).symm.trans e)
    subst ex
    exact ⟨.refl, r, s.rep rh q⟩
theorem jw_lst {K : PySem.W.Frag} {H : Hp} {Hd : DH} {a : Addr} {ds : List Dv} : JW K H Hd (Itl K a) ⟨ds.length, nth ds, fun H' => H' a = some (.lst ds)⟩ where
  go := fun H' Hd' s r g i hi => by
    obtain ⟨vs, e1, l⟩ := r _ _ g
    obtain ⟨v, e, _⟩ := l.get (nth_at hi)
    exact ⟨vs, v, .of e1, e⟩
  stop := fun H' Hd' s r g => by
    obtain ⟨vs, e1, l⟩ := r _ _ g
    exact ⟨vs, .of e1, by show vs.length ≤ ds.length; rw [l.length]; exact Nat.le_refl _⟩
  yld := fun H' Hd' s r g i x H2 hi y => by
    obtain ⟨vs, e1, l⟩ := r _ _ g
    obtain ⟨v, e, q⟩ := l.get (nth_at hi)
    obtain ⟨rfl, y⟩ := y
    have ex : x = v := Option.some.inj ((y vs (.of e1)).symm.trans e)
    subst ex
    exact ⟨.refl, r, q⟩
theorem di_walk (he : DE X e te) : DI X tg e (dWalk te) := by
  have both : PI X tg e (fun σ H R => lE X.K te σ H fun x H1 => (∃ a, x = .ref a ∧ (∃ xs, SqL X.K H1 a xs) ∧ R (Itl X.K a) H1) ∨ ∃ a, x = .ref a ∧ (∃ xs, SqT X.K H1 a xs) ∧ R (Itt X.K a) H1) := by
    refine ⟨fun pins s σ H R I h => ?_⟩
    refine thn (he.run pins s σ H _ I h) fun v s1 ⟨x, H1, I1, r1, q1⟩ => ?_
    rcases q1 with ⟨a, rfl, ⟨xs, hq⟩, q⟩ | ⟨a, rfl, ⟨xs, hq⟩, q⟩
    · cases r1
      obtain ⟨its, rv, pl, hz⟩ := I1.list hq
      refine wpAny_pyIter_list pl.isList ⟨s1.heap.objs.size, [s1.heap.objs.size], _, _, H1, rfl, I1.kept (t' := s1.toks) fun b o e => Heap.get?_push_of_some _ e, turn_list a _, ⟨_, Heap.get?_push_size _ rfl, rfl, rfl⟩, fun b hb => ?_, q⟩
      cases (show b = s1.heap.objs.size by simpa using hb)
      exact I1.fpOk (Nat.le_refl _) (I1.hok.fresh (Nat.le_refl _))
    · cases r1
      obtain ⟨its, rv, pl, hz⟩ := I1.tuple hq
      refine wpAny_pyIter_tuple pl ⟨s1.heap.objs.size, [s1.heap.objs.size], _, _, H1, rfl, I1.kept (t' := s1.toks) fun b o e => Heap.get?_push_of_some _ e, turn_tuple a _, ⟨_, Heap.get?_push_size _ rfl, rfl, rfl⟩, fun b hb => ?_, q⟩
      cases (show b = s1.heap.objs.size by simpa using hb)
      exact I1.fpOk (Nat.le_refl _) (I1.hok.fresh (Nat.le_refl _))
  refine di_of both fun σ H R σd Hd Rd rs rh q k => ⟨σd, Hd, _, rs, rh, q, fun v H1 d Hd1 s1 r1 rv q1 => ?_⟩
  cases d with
  | tup ds =>
    obtain ⟨a, vs, rfl, h, l⟩ := rv
    exact .inr ⟨a, rfl, ⟨vs, h⟩, k _ H1 _ Hd1 s1 r1 (jw_tup r1 h l) q1⟩
  | lsv ds =>
    obtain ⟨a, vs, rfl, h, l⟩ := rv
    exact .inl ⟨a, rfl, ⟨vs, h.sq⟩, k _ H1 _ Hd1 s1 r1 (jw_fix r1 h l) q1⟩
  | ref a =>
    obtain ⟨ds, h, q1⟩ := q1
    obtain ⟨vs, e1, l⟩ := r1 _ _ h
    exact .inl ⟨a, rv, ⟨vs, .of e1⟩, k _ H1 _ Hd1 s1 r1 jw_lst q1⟩
  | _ => exact q1.elim
/-! range -/
def rngD (lo : Int) (n : Nat) (c : Int) : DIt := ⟨n, fun i => .int (lo + (i : Nat) * c), fun _ => True⟩
theorem jw_rng {K : PySem.W.Frag} {H : Hp} {Hd : DH} {lo : Int} {n : Nat} : JW K H Hd (Itr lo n) (rngD lo n 1) where
  go := fun _ _ _ _ _ i hi => hi
  stop := fun _ _ _ _ _ => Nat.le_refl _
  yld := fun H' Hd' s r _ i x H2 hi y => by
    obtain ⟨rfl, rfl⟩ := y
    exact ⟨.refl, r, by show V.int _ = V.int _; rw [Int.mul_one]⟩
theorem jw_rngC {K : PySem.W.Frag} {H : Hp} {Hd : DH} {lo c : Int} {n : Nat} : JW K H Hd (Itc lo c n) (rngD lo n c) where
  go := fun _ _ _ _ _ i hi => hi
  stop := fun _ _ _ _ _ => Nat.le_refl _
  yld := fun H' Hd' s r _ i x H2 hi y => by
    obtain ⟨rfl, rfl⟩ := y
    exact ⟨.refl, r, rfl⟩
def dRng1 (te : DTE) : DTI := fun σ H R => te σ H fun d H1 => match d with
  | .int j => (-(2 ^ 62) ≤ j ∧ j < 2 ^ 62) ∧ R (rngD 0 j.toNat 1) H1
  | _ => False
def dRng2 (ta tb : DTE) : DTI := fun σ H R => ta σ H fun d H1 => tb σ H1 fun d' H2 => match d, d' with
  | .int i, .int j => (-(2 ^ 62) ≤ i ∧ i < 2 ^ 62 ∧ -(2 ^ 62) ≤ j ∧ j < 2 ^ 62) ∧ R (rngD i (j - i).toNat 1) H2
  | _, _ => False
def dRng3 (ta tb tc : DTE) : DTI := fun σ H R => ta σ H fun d H1 => tb σ H1 fun d' H2 => tc σ H2 fun d'' H3 => match d, d', d'' with
  | .int i, .int j, .int c => ∃ n, RgC i j c n ∧ R (rngD i n c) H3
  | _, _, _ => False
variable {ta tb tc : DTE}
theorem di_range1 (hg : Gl X "range") (hm : X.mg "range" = none) (ha : DE X a ta) (hs : starEach [a] X.env = [(false, eval a X.env)] := by rfl) : DI X tg (.Call (.Name "range" p) [a] [] pos) (dRng1 ta) :=
  di_of (pi_range1 hg hm (pa_cons ha pa_nil hs) hs) fun σ H R σd Hd Rd rs rh q k => ⟨σd, Hd, _, rs, rh, q, fun v H1 d Hd1 s1 r1 rv q1 => by
    split at q1
    · exact ⟨_, by rw [show v = _ from rv], q1.1.1, q1.1.2, k _ H1 _ Hd1 s1 r1 jw_rng q1.2⟩
    · exact q1.elim⟩
theorem di_range2 (hg : Gl X "range") (hm : X.mg "range" = none) (ha : DE X a ta) (hb : DE X b tb) (hs : starEach [a, b] X.env = [(false, eval a X.env), (false, eval b X.env)] := by rfl) (hs2 : starEach [b] X.env = [(false, eval b X.env)] := by rfl) :
    DI X tg (.Call (.Name "range" p) [a, b] [] pos) (dRng2 ta tb) :=
  di_of (pi_range2 hg hm (pa_cons ha (pa_cons hb pa_nil hs2) (by rw [hs, hs2])) hs hs2) fun σ H R σd Hd Rd rs rh q k => ⟨σd, Hd, _, rs, rh, q, fun v H1 d Hd1 s1 r1 rv q1 =>
    ⟨σd, Hd1, _, s1.repS rh rs, r1, q1, fun u H2 d2 Hd2 s2 r2 ru q2 => by
      split at q2
      · exact ⟨_, _, by rw [show v = _ from rv, show u = _ from ru], q2.1, k _ H2 _ Hd2 (s1.trans s2) r2 jw_rng q2.2⟩
      · exact q2.elim⟩⟩
theorem di_range3 (hg : Gl X "range") (hm : X.mg "range" = none) (ha : DE X a ta) (hb : DE X b tb) (hc : DE X c tc) (hs : starEach [a, b, c] X.env = (false, eval a X.env) :: starEach [b, c] X.env := by rfl)
    (hs2 : starEach [b, c] X.env = (false, eval b X.env) :: starEach [c] X.env := by rfl) (hs3 : starEach [c] X.env = [(false, eval c X.env)] := by rfl) (hpl : (backTo pos (starEach [b, c] X.env)).any (·.1) = false := by rfl) :
    DI X tg (.Call (.Name "range" p) [a, b, c] [] pos) (dRng3 ta tb tc) :=
  di_of (pi_range3 hg hm (pa_cons ha (pa_cons hb (pa_cons hc pa_nil hs3) hs2) hs) hs hpl) fun σ H R σd Hd Rd rs rh q k => ⟨σd, Hd, _, rs, rh, q, fun v H1 d Hd1 s1 r1 rv q1 =>
    ⟨σd, Hd1, _, s1.repS rh rs, r1, q1, fun u H2 d2 Hd2 s2 r2 ru q2 => ⟨σd, Hd2, _, (s1.trans s2).repS rh rs, r2, q2, fun w H3 d3 Hd3 s3 r3 rw' q3 => by
      split at q3
      · obtain ⟨n, q4, q5⟩ := q3
        exact ⟨_, _, _, n, by rw [show v = _ from rv, show u = _ from ru, show w = _ from rw'], q4, k _ H3 _ Hd3 ((s1.trans s2).trans s3) r3 jw_rngC q5⟩
      · exact q3.elim⟩⟩⟩
end
/-! ## enumerate, zip: over a tuple or a list -/
section
variable {prog : Program} {w : World} {A : Around} {E : Value → Shared → Prop} {s : Shared}
set_option maxHeartbeats 4000000 in
theorem meets_enum_of {v : Value} {o : Obj} {H : Heap → Prop} (B : Begins v o H) :
    Meets (Builtin.«enumerate.__new__» ⟨[.type "enumerate", v], []⟩) (fun _ R s => H s.heap ∧
      R (.ok (.ret (.ref (s.heap.push o).objs.size))) { s with heap := (s.heap.push o).push { cls := .type "enumerate", data := .fields #[.none, .bool false, .ref s.heap.objs.size, rawInt 0, .none, .none] } }) :=
  .of_wp fun prog w A R s h => by
    obtain ⟨hp, g, d, tk, os⟩ := s
    obtain ⟨h1, h⟩ := h
    have sub := sub_enumerate
    have begin_ : ∀ {A' : Around} {E : Value → Shared → Prop} {Q : Value → Shared → Prop}, Q (.ref hp.objs.size) ⟨hp.push o, g, d, tk, os⟩ → wpAny (model prog w) A' (pyIter v) Q E ⟨hp, g, d, tk, os⟩ := fun q => B.iter prog w _ _ ⟨hp, g, d, tk, os⟩ _ h1 q
    wp_walk using begin_
    refine wpAny_stack_any fun st => wpAny_pure ?_
    split
    · rename_i c _ _ _ _ _
      cases (c == Value.type "enumerate") <;> (wp_walk using begin_; exact ⟨_, rfl, h⟩)
    · wp_walk using begin_
      exact ⟨_, rfl, h⟩
theorem enum_of {v : Value} {o : Obj} {H : Heap → Prop} {Q : Value → Shared → Prop} (B : Begins v o H) (h1 : H s.heap)
    (h : ∀ h', IsEnum h' (s.heap.objs.size + 1) s.heap.objs.size 0 .none → h'.get? s.heap.objs.size = some o → (∀ b o, s.heap.get? b = some o → h'.get? b = some o) → Q (.ref (s.heap.objs.size + 1)) { s with heap := h' }) :
    wpAny (model prog w) A (call (.type "enumerate") [v]) Q E s := by
  refine callType_new F.called_enumerate (by decide) (F.typeCall_enumerate_1 _) (F.newCall_enumerate_1 _) (fun obj => F.args_object_init_2 obj _) F.entry_enumerate_new (meets_enum_of B) ⟨h1, ?_⟩
  have size : (s.heap.push o).objs.size = s.heap.objs.size + 1 := Heap.size_push ..
  show _ ∧ _
  rw [size]
  have there : IsEnum ((s.heap.push o).push { cls := .type "enumerate", data := .fields #[.none, .bool false, .ref s.heap.objs.size, rawInt 0, .none, .none] }) (s.heap.objs.size + 1) s.heap.objs.size 0 .none := by
    have z := Heap.get?_push_size (s.heap.push o) (o := { cls := .type "enumerate", data := .fields #[.none, .bool false, .ref s.heap.objs.size, rawInt 0, .none, .none] }) rfl
    rw [size] at z
    exact z
  exact ⟨⟨_, there, rfl⟩, h _ there (Heap.get?_push_of_some _ (Heap.get?_push_size _ B.free)) fun b ob x => Heap.get?_push_of_some _ (Heap.get?_push_of_some _ x)⟩
end
/-- the tuple at a, its items in new pairs with their numbers -/
def IteT (K : PySem.W.Frag) (a : Addr) : It :=
  ⟨fun i H => ∃ (xs : List V) (x : V), SqT K H a xs ∧ xs[i]? = some x, fun i H v H' => ∃ T x, v = .ref T ∧ H T = none ∧ H' = upd H T (.tup [.int (i : Nat), x]) ∧ ∀ xs, SqT K H a xs → xs[i]? = some x, fun i H => ∃ xs : List V, SqT K H a xs ∧ xs.length = i⟩
theorem turn_enumT {P : Program} {w : World} {K : PySem.W.Frag} {elts : List Expr} {kk : Nat} {tpos : Pos} (a e it : Addr) (hit : it ≠ a) (hea : e ≠ a) :
    Turn P w K (.Tuple elts kk tpos) (IteT K a) [e, it] e (fun i h => (∃ old, IsEnum h e it ((i : Nat) : Int) old) ∧ h.IsTupleIter it a i ∧ e ≠ it) where
  mem := by simp
  obj := fun i h st b hb => by
    obtain ⟨⟨old, he⟩, ⟨o, ho, hc, hd⟩, _⟩ := st
    rcases (show b = e ∨ b = it by simpa using hb) with z | z
    · exact ⟨_, by rw [z]; exact he, fun v q => by cases (show Data.fields _ = Data.cell v from q)⟩
    · exact ⟨o, by rw [z]; exact ho, fun v q => by rw [hd] at q; cases q⟩
  keep := fun i h h' st k => by
    obtain ⟨⟨old, he⟩, hi, hne⟩ := st
    exact ⟨⟨old, k e (by simp) _ he⟩, hi.at fun o q => k it (by simp) o q, hne⟩
  item := by
    intro X hP hw hK hc i pins s σ H E I hf st hg
    subst hP hw hK
    obtain ⟨⟨old, he⟩, hti, hne⟩ := st
    obtain ⟨xs, x, hq, hx⟩ := hg
    obtain ⟨its, rv, pt, hz⟩ := I.tuple hq
    obtain ⟨u, hu, ru⟩ := rv.get hx
    have hil : i < its.toArray.size := by
      have := (List.getElem?_eq_some_iff.mp hu).1
      simpa using this
    have lt_e : e < s.heap.objs.size := Heap.lt_size he
    have lt_i : it < s.heap.objs.size := by obtain ⟨_, q, _⟩ := hti; exact Heap.lt_size q
    have D : Draws X.prog X.w X.A.in1 it [it, a] its.toArray.size _ _ := Draws.tuple (A := X.A.in1) (I.ok.hd hc) it a (Ne.symm hit) its.toArray
    refine wpAny_pyNext_enum_itemD D he ⟨hti, pt⟩ hil hne (by simp [hne, hea]) fun y h' tk hy ho st' hT hsz hk => ?_
    have ey : y = u := by
      have z : its.toArray[i]? = some u := by simpa using hu
      exact Option.some.inj (hy.symm.trans z)
    subst ey
    refine ⟨_, rfl, wpAny_letOwnedTupleGo_enum (s := { s with heap := h', toks := tk + 1 }) ho fun h'' he' sb => ?_⟩
    have hT2 : h''.get? s.heap.objs.size = some { cls := .type "tuple", data := .seq #[.int i tk, y] } := (sb.2 _ (Nat.ne_of_gt lt_e)).trans hT
    have new : ObjOk X.prog X.w (upd H s.heap.objs.size (.tup [.int (i : Nat), x])) h'' s.heap.objs.size (.tup [.int (i : Nat), x]) :=
      ⟨by show 2 ≤ sizeLine; decide, [.int i tk, y], .cons ⟨_, rfl⟩ (.cons ru .nil), ⟨_, hT2, rfl, _, rfl⟩⟩
    have I1 : Inv X pins σ (upd H s.heap.objs.size (.tup [.int (i : Nat), x])) { s with heap := h'', toks := tk + 1 } :=
      I.turnedNew (ch := [e, it]) (fun b ob hb q => (sb.2 b (fun z => hb (by simp [z]))).trans (hk b ob (fun z => hb (by simp [z])) (fun z => hb (by simp [z])) q)) hf (Nat.le_refl _) new
    refine ⟨.ref s.heap.objs.size, _, I1, rfl, ⟨_, x, rfl, I.hok.fresh (Nat.le_refl _), rfl, fun ys hy => by rw [I.tuple_inj hy hq]; exact hx⟩, ⟨⟨y, ?_⟩, st'.1.at fun o q => (sb.2 it (Ne.symm hne)).trans q, hne⟩, fun b hb => ?_⟩
    · have e1 : ((i + 1 : Nat) : Int) = (i : Int) + 1 := by omega
      rw [e1]; exact he'
    · have hb' : b < s.heap.objs.size := by
        rcases (show b = e ∨ b = it by simpa using hb) with z | z
        · rw [z]; exact lt_e
        · rw [z]; exact lt_i
      rw [upd_ne (Nat.ne_of_lt hb')]
      exact (hf b hb).1
  done := by
    intro X hP hw hK hc i pins s σ H E I hf st hg
    subst hP hw hK
    obtain ⟨⟨old, he⟩, hti, hne⟩ := st
    obtain ⟨xs, hq, hx⟩ := hg
    obtain ⟨its, rv, pt, hz⟩ := I.tuple hq
    obtain ⟨f0, f1, f2, f3, f4, f5⟩ := hf it (by simp)
    have hl := rv.length
    have hn : its.toArray.size = i := by rw [List.size_toArray, ← hl]; exact hx
    have D : Draws X.prog X.w X.A.in1 it [it, a] its.toArray.size _ _ := Draws.tuple (A := X.A.in1) (I.ok.hd hc) it a (Ne.symm hit) its.toArray
    rw [hn] at D
    exact wpAny_pyNext_enum_endD D he ⟨hti, pt⟩ fun h' eb => ⟨rfl, I.turned (t' := s.toks) (fun b o hb q => eb b o hb q) f0 f1 f3 f4 f5⟩
  self := fun A i s Q E st h => by
    obtain ⟨⟨_, he⟩, _⟩ := st
    exact wpAny_pyIter_enum he h
end DL

set_option maxHeartbeats 4000000
namespace DL
open PySem PySem.Spec L2
open PyProof.Rows hiding St
/-! ## enumerate as what is walked -/
section
variable {X : Cx} {e : Expr} {te : DTE} {p pos tpos : Pos} {elts : List Expr} {kk : Nat}
def iEnumA (K : PySem.W.Frag) (ta : TA) : TI := fun σ H R => ta σ H fun vs H1 => ∃ a, vs = [.ref a] ∧ ((∃ xs, SqL K H1 a xs ∧ R (Ite K a) H1) ∨ ∃ xs, SqT K H1 a xs ∧ R (IteT K a) H1)
theorem pi_enumA {ta : TA} (hg : Gl X "enumerate") (hm : X.mg "enumerate" = none) (ha : PA X [e] ta) (hs : starEach [e] X.env = [(false, eval e X.env)] := by rfl) : PI X (.Tuple elts kk tpos) (.Call (.Name "enumerate" p) [e] [] pos) (iEnumA X.K ta) := by
  refine ⟨fun pins s σ H R I h => Call_ (ld_blt I hg hm boot_enumerate (PyProof.Rows.callWith_type1 (thn (ha.run pos pins s σ H _ I h) fun us s1 h1 => ?_) hs rfl))⟩
  obtain ⟨vs, H1, I1, r1, a, ex, q⟩ := h1
  subst ex
  obtain ⟨u, eu, r⟩ := vals1 r1
  subst eu
  cases r
  have two : ∀ {b : Addr}, b ∈ [s1.heap.objs.size + 1, s1.heap.objs.size] → s1.heap.objs.size ≤ b := fun {b} hb => by
    rcases (show b = s1.heap.objs.size + 1 ∨ b = s1.heap.objs.size by simpa using hb) with z | z
    · rw [z]; exact Nat.le_add_right _ _
    · rw [z]; exact Nat.le_refl _
  rcases q with ⟨xs, hq, q⟩ | ⟨xs, hq, q⟩
  · obtain ⟨its, rv, pl, hz⟩ := I1.list hq
    refine enum_of (begins_list a its.toArray) pl.isList fun h' he hit hk => wpAny_pyIter_enum he ?_
    have I2 : Inv X pins σ H1 { s1 with heap := h' } := I1.kept (t' := s1.toks) hk
    exact ⟨s1.heap.objs.size + 1, [s1.heap.objs.size + 1, s1.heap.objs.size], _, _, H1, rfl, I2, turn_enum a _ _, ⟨⟨.none, he⟩, ⟨_, hit, rfl, rfl⟩, Nat.succ_ne_self _⟩, fun b hb => I1.fpOk (two hb) (I1.hok.fresh (two hb)), q⟩
  · obtain ⟨its, rv, pl, hz⟩ := I1.tuple hq
    have lt : a < s1.heap.objs.size := pl.lt
    refine enum_of (begins_tuple a its.toArray) pl fun h' he hit hk => wpAny_pyIter_enum he ?_
    have I2 : Inv X pins σ H1 { s1 with heap := h' } := I1.kept (t' := s1.toks) hk
    exact ⟨s1.heap.objs.size + 1, [s1.heap.objs.size + 1, s1.heap.objs.size], _, _, H1, rfl, I2, turn_enumT a _ _ (Nat.ne_of_gt lt) (Nat.ne_of_gt (Nat.lt_succ_of_lt lt)), ⟨⟨.none, he⟩, ⟨_, hit, rfl, rfl⟩, Nat.succ_ne_self _⟩, fun b hb => I1.fpOk (two hb) (I1.hok.fresh (two hb)), q⟩
/-- the pairs of numbers and items -/
def enD (ds : List Dv) (G : DH → Prop) : DIt := ⟨ds.length, fun i => .tup [.int (i : Nat), nth ds i], G⟩
def enumD (d : Dv) (H : DH) (R : DIt → DH → Prop) : Prop := match d with
  | .tup ds => R (enD ds fun _ => True) H
  | .lsv ds => R (enD ds fun _ => True) H
  | .ref p => ∃ ds, H p = some (.lst ds) ∧ R (enD ds fun H' => H' p = some (.lst ds)) H
  | _ => False
def dEnum (t : DTE) : DTI := fun σ H R => t σ H fun d H1 => enumD d H1 R
theorem pair_new {K : PySem.W.Frag} {H : Hp} {Hd : DH} {T : Addr} {x y : V} {dx dy : Dv} (rh : RepH K H Hd) (hT : H T = none) (rx : Rep K H dx x) (ry : Rep K H dy y) :
    Stp H Hd (upd H T (.tup [x, y])) Hd ∧ RepH K (upd H T (.tup [x, y])) Hd ∧ Rep K (upd H T (.tup [x, y])) (.tup [dx, dy]) (.ref T) :=
  ⟨.lay hT, rh.lay hT, T, [x, y], rfl, .of upd_same, x, [y], rfl, (Stp.lay (Hd := Hd) hT).rep rh rx, y, [], rfl, (Stp.lay (Hd := Hd) hT).rep rh ry, rfl⟩
theorem jw_enT {K : PySem.W.Frag} {H : Hp} {Hd : DH} {a : Addr} {ds : List Dv} {vs : List V} (rh : RepH K H Hd) (h : SqT K H a vs) (l : RepL K H ds vs) : JW K H Hd (IteT K a) (enD ds fun _ => True) where
  go := fun H' Hd' s r _ i hi => by
    obtain ⟨v, e, _⟩ := l.get (nth_at hi)
    exact ⟨vs, v, s.sqT rh h, e⟩
  stop := fun H' Hd' s r _ => ⟨vs, s.sqT rh h, l.length.symm⟩
  yld := fun H' Hd' s r _ i x H2 hi y => by
    obtain ⟨v, e, q⟩ := l.get (nth_at hi)
    obtain ⟨T, z, rfl, hT, rfl, y⟩ := y
    have ez : z = v := Option.some.inj ((y vs (s.sqT rh h)).symm.trans e)
    subst ez
    exact pair_new r hT (show Rep K H' (.int (i : Nat)) (.int (i : Nat)) from rfl) (s.rep rh q)
theorem jw_enF {K : PySem.W.Frag} {H : Hp} {Hd : DH} {a : Addr} {ds : List Dv} {vs : List V} (rh : RepH K H Hd) (h : FxL K H a vs) (l : RepL K H ds vs) : JW K H Hd (Ite K a) (enD ds fun _ => True) where
  go := fun H' Hd' s r _ i hi => by
    obtain ⟨v, e, _⟩ := l.get (nth_at hi)
    exact ⟨vs, v, (s.fxL rh h).sq, e⟩
  stop := fun H' Hd' s r _ => ⟨vs, (s.fxL rh h).sq, Nat.le_of_eq l.length.symm⟩
  yld := fun H' Hd' s r _ i x H2 hi y => by
    obtain ⟨v, e, q⟩ := l.get (nth_at hi)
    obtain ⟨T, z, rfl, hT, rfl, y⟩ := y
    have ez : z = v := Option.some.inj ((y vs (s.fxL rh h).sq).symm.trans e)
    subst ez
    exact pair_new r hT (show Rep K H' (.int (i : Nat)) (.int (i : Nat)) from rfl) (s.rep rh q)
theorem jw_enL {K : PySem.W.Frag} {H : Hp} {Hd : DH} {a : Addr} {ds : List Dv} : JW K H Hd (Ite K a) (enD ds fun H' => H' a = some (.lst ds)) where
  go := fun H' Hd' s r g i hi => by
    obtain ⟨vs, e1, l⟩ := r _ _ g
    obtain ⟨v, e, _⟩ := l.get (nth_at hi)
    exact ⟨vs, v, .of e1, e⟩
  stop := fun H' Hd' s r g => by
    obtain ⟨vs, e1, l⟩ := r _ _ g
    exact ⟨vs, .of e1, Nat.le_of_eq l.length.symm⟩
  yld := fun H' Hd' s r g i x H2 hi y => by
    obtain ⟨vs, e1, l⟩ := r _ _ g
    obtain ⟨v, e, q⟩ := l.get (nth_at hi)
    obtain ⟨T, z, rfl, hT, rfl, y⟩ := y
    have ez : z = v := Option.some.inj ((y vs (.of e1)).symm.trans e)
    subst ez
    exact pair_new r hT (show Rep K H' (.int (i : Nat)) (.int (i : Nat)) from rfl) q
theorem di_enum (hg : Gl X "enumerate") (hm : X.mg "enumerate" = none) (he : DE X e te) (hs : starEach [e] X.env = [(false, eval e X.env)] := by rfl) : DI X (.Tuple elts kk tpos) (.Call (.Name "enumerate" p) [e] [] pos) (dEnum te) :=
  di_of (pi_enumA hg hm (pa_cons he pa_nil hs) hs) fun σ H R σd Hd Rd rs rh q k => ⟨σd, Hd, _, rs, rh, q, fun v H1 d Hd1 s1 r1 rv q1 => by
    cases d with
    | tup ds =>
      obtain ⟨a, vs, rfl, h, l⟩ := rv
      exact ⟨a, rfl, .inr ⟨vs, h, k _ H1 _ Hd1 s1 r1 (jw_enT r1 h l) q1⟩⟩
    | lsv ds =>
      obtain ⟨a, vs, rfl, h, l⟩ := rv
      exact ⟨a, rfl, .inl ⟨vs, h.sq, k _ H1 _ Hd1 s1 r1 (jw_enF r1 h l) q1⟩⟩
    | ref a =>
      obtain ⟨ds, h, q1⟩ := q1
      obtain ⟨vs, e1, l⟩ := r1 _ _ h
      exact ⟨a, by rw [show v = _ from rv], .inl ⟨vs, .of e1, k _ H1 _ Hd1 s1 r1 jw_enL q1⟩⟩
    | _ => exact q1.elim⟩
end

/-! ## built-ins by name -/
theorem len_one {K : PySem.W.Frag} {H : Hp} {d : Dv} {vs : List V} (h : RepL K H [d] vs) : ∃ v, vs = [v] ∧ Rep K H d v := by
  obtain ⟨v, r, rfl, h1, h2⟩ := h
  have : r = [] := h2
  subst this
  exact ⟨v, rfl, h1⟩
theorem len_two {K : PySem.W.Frag} {H : Hp} {d d' : Dv} {vs : List V} (h : RepL K H [d, d'] vs) : ∃ v w, vs = [v, w] ∧ Rep K H d v ∧ Rep K H d' w := by
  obtain ⟨v, r, rfl, h1, h2⟩ := h
  obtain ⟨w, rfl, h3⟩ := len_one h2
  exact ⟨v, w, rfl, h1, h3⟩
theorem len_three {K : PySem.W.Frag} {H : Hp} {d d' d'' : Dv} {vs : List V} (h : RepL K H [d, d', d''] vs) : ∃ v w z, vs = [v, w, z] ∧ Rep K H d v ∧ Rep K H d' w ∧ Rep K H d'' z := by
  obtain ⟨v, r, rfl, h1, h2⟩ := h
  obtain ⟨w, z, rfl, h3, h4⟩ := len_two h2
  exact ⟨v, w, z, rfl, h1, h3, h4⟩
abbrev DF := List Dv → DH → DVK → Prop
def CallOk (K : PySem.W.Frag) (r : List V → Hp → VK → Prop) (f : DF) : Prop := ∀ H Hd vs ds Q Qd, RepH K H Hd → RepL K H ds vs → f ds Hd Qd → KE K H Hd Qd Q → r vs H Q
def dFn (f : DF) (t : DTA) : DTE := fun σ H Q => t σ H fun ds H1 => f ds H1 Q
section
variable {X : Cx} {x : Str} {p pos : Pos} {e : Expr} {es : List Expr} {t : DTA} {bid T : String} {r : List V → Hp → VK → Prop} {f : DF}
theorem de_callB (hc : CallR X (.builtin bid) r) (hf : CallOk X.K r f) (hg : Gl X x) (hm : X.mg x = none) (hv : bootBuiltins x = some (.builtin bid)) (ha : DA X (e :: es) t) (hn : x ≠ "__name__" := by decide) (hdb : (x == ("__debug__" : Str)) = false := by decide)
    (he : starEach (e :: es) X.env = (false, eval e X.env) :: starEach es X.env := by rfl) (hpl : (backTo pos (starEach es X.env)).any (·.1) = false := by rfl) : DE X (.Call (.Name x p) (e :: es) [] pos) (dFn f t) :=
  de_of (pe_callB hc hg hm hv ha hn hdb he hpl) fun σ H Q σd Hd Qd rs rh q k => ⟨σd, Hd, _, rs, rh, q, fun vs H1 ds Hd1 s1 r1 rl q1 => hf H1 Hd1 vs ds Q Qd r1 rl q1 (k.at s1)⟩
theorem de_callTy (hc : CallR X (.type T) r) (hf : CallOk X.K r f) (hg : Gl X x) (hm : X.mg x = none) (hv : bootBuiltins x = some (.type T)) (ha : DA X (e :: es) t) (hn : x ≠ "__name__" := by decide) (hdb : (x == ("__debug__" : Str)) = false := by decide)
    (he : starEach (e :: es) X.env = (false, eval e X.env) :: starEach es X.env := by rfl) (hpl : (backTo pos (starEach es X.env)).any (·.1) = false := by rfl) : DE X (.Call (.Name x p) (e :: es) [] pos) (dFn f t) :=
  de_of (pe_callTy hc hg hm hv ha hn hdb he hpl) fun σ H Q σd Hd Qd rs rh q k => ⟨σd, Hd, _, rs, rh, q, fun vs H1 ds Hd1 s1 r1 rl q1 => hf H1 Hd1 vs ds Q Qd r1 rl q1 (k.at s1)⟩
/-! len, abs, isinstance -/
def fLen : DF := fun ds H Q => match ds with
  | [.tup xs] => Q (.int xs.length) H
  | [.lsv xs] => Q (.int xs.length) H
  | [.ref a] => ∃ xs, H a = some (.lst xs) ∧ Q (.int xs.length) H
  | [.str z] => z.length ≤ sizeLine ∧ Q (.int z.length) H
  | _ => False
theorem ok_len {K : PySem.W.Frag} : CallOk K (fun xs H Q => ∃ x n, xs = [x] ∧ LenV K x H n ∧ Q (.int n) H) fLen := by
  intro H Hd vs ds Q Qd rh rl q k
  unfold fLen at q
  split at q
  · obtain ⟨v, rfl, r⟩ := len_one rl
    obtain ⟨a, ws, rfl, h, l⟩ := r
    exact ⟨_, ws.length, rfl, .inr ⟨ws, h, rfl⟩, by rw [← l.length]; exact k _ H (.int _) Hd .refl rh rfl q⟩
  · obtain ⟨v, rfl, r⟩ := len_one rl
    obtain ⟨a, ws, rfl, h, l⟩ := r
    exact ⟨_, ws.length, rfl, .inl ⟨ws, h.sq, rfl⟩, by rw [← l.length]; exact k _ H (.int _) Hd .refl rh rfl q⟩
  · obtain ⟨v, rfl, r⟩ := len_one rl
    obtain ⟨xs, h, q⟩ := q
    obtain ⟨ws, e1, l⟩ := rh _ _ h
    cases (show v = _ from r)
    exact ⟨_, ws.length, rfl, .inl ⟨ws, .of e1, rfl⟩, by rw [← l.length]; exact k _ H (.int _) Hd .refl rh rfl q⟩
  · obtain ⟨v, rfl, r⟩ := len_one rl
    cases (show v = _ from r)
    exact ⟨_, _, rfl, ⟨q.1, rfl⟩, k _ H (.int _) Hd .refl rh rfl q.2⟩
  · exact q.elim
def fAbs : DF := fun ds H Q => match ds with
  | [.int i] => Q (.int i.natAbs) H
  | _ => False
theorem ok_abs {K : PySem.W.Frag} : CallOk K (fun xs H Q => ∃ i, xs = [.int i] ∧ Q (.int (if i < 0 then -i else i)) H) fAbs := by
  intro H Hd vs ds Q Qd rh rl q k
  unfold fAbs at q
  split at q
  · rename_i i
    obtain ⟨v, rfl, r⟩ := len_one rl
    cases (show v = _ from r)
    refine ⟨i, rfl, ?_⟩
    have e : (if i < 0 then -i else i) = ((i.natAbs : Nat) : Int) := by
      split <;> omega
    rw [e]
    exact k _ H (.int _) Hd .refl rh rfl q
  · exact q.elim
/-- by kind -/
def isI (n : String) : Dv → Bool
  | .bl _ => n == "bool" || n == "int"
  | .int _ => n == "int"
  | .str _ => n == "str"
  | .tup _ => n == "tuple"
  | .lsv _ => n == "list"
  | .ref _ => n == "list"
  | _ => false
def fIsi : DF := fun ds H Q => match ds with
  | [.ref a, .ty n] => (n == "bool" || n == "int" || n == "str" || n == "tuple" || n == "list") = true ∧ ∃ xs, H a = some (.lst xs) ∧ Q (.bl (isI n (.ref a))) H
  | [.ty _, _] => False
  | [d, .ty n] => (n == "bool" || n == "int" || n == "str" || n == "tuple" || n == "list") = true ∧ Q (.bl (isI n d)) H
  | _ => False
theorem ok_isi {K : PySem.W.Frag} : CallOk K (rIsi K) fIsi := by
  intro H Hd vs ds Q Qd rh rl q k
  have fin : ∀ {x : V} {n : String} {t : String} {b : Bool}, (n == "bool" || n == "int" || n == "str" || n == "tuple" || n == "list") = true → TyX K H x (.type t) → (∀ n, n = "bool" ∨ n = "int" ∨ n = "str" ∨ n = "tuple" ∨ n = "list" → kitB t n = some (match t with | "bool" => n == "bool" || n == "int" | t => n == t)) →
      b = (match t with | "bool" => n == "bool" || n == "int" | t => n == t) → Q (.bl b) H → rIsi K [x, .ty n] H Q := fun {x n t b} hn ty kk e qq => by
    have hn' : n = "bool" ∨ n = "int" ∨ n = "str" ∨ n = "tuple" ∨ n = "list" := by
      simp only [Bool.or_eq_true, beq_iff_eq] at hn
      rcases hn with (((h | h) | h) | h) | h
      · exact .inl h
      · exact .inr (.inl h)
      · exact .inr (.inr (.inl h))
      · exact .inr (.inr (.inr (.inl h)))
      · exact .inr (.inr (.inr (.inr h)))
    exact ⟨x, .ty n, .type t, .type n, b, rfl, .ty n, ty, by rw [e]; exact kit_ty (kk n hn'), qq⟩
  have tab : ∀ t : String, t = "NoneType" ∨ t = "bool" ∨ t = "int" ∨ t = "str" ∨ t = "tuple" ∨ t = "list" ∨ t = "dict" → ∀ n, n = "bool" ∨ n = "int" ∨ n = "str" ∨ n = "tuple" ∨ n = "list" → kitB t n = some (match t with | "bool" => n == "bool" || n == "int" | t => n == t) := by
    intro t ht n hn
    rcases ht with rfl | rfl | rfl | rfl | rfl | rfl | rfl <;> rcases hn with rfl | rfl | rfl | rfl | rfl <;> decide +kernel
  unfold fIsi at q
  split at q
  · obtain ⟨v, w, rfl, rv, rw'⟩ := len_two rl
    obtain ⟨hn, xs, h, q⟩ := q
    cases (show v = _ from rv)
    cases (show w = _ from rw')
    obtain ⟨ws, e1, l⟩ := rh _ _ h
    exact fin hn (.base (.lst e1)) (tab "list" (by simp)) rfl (k _ H (.bl _) Hd .refl rh rfl q)
  · exact q.elim
  · rename_i d n nr nt
    obtain ⟨v, w, rfl, rv, rw'⟩ := len_two rl
    obtain ⟨hn, q⟩ := q
    cases (show w = _ from rw')
    have q' := k _ H (.bl (isI n d)) Hd .refl rh rfl q
    cases d with
    | non =>
      cases (show v = _ from rv)
      refine fin hn (.base .non) (tab "NoneType" (by simp)) ?_ q'
      simp only [Bool.or_eq_true, beq_iff_eq] at hn
      rcases hn with (((h | h) | h) | h) | h <;> subst h <;> decide
    | bl b => cases (show v = _ from rv); exact fin hn (.base (.bl _)) (tab "bool" (by simp)) rfl q'
    | int b => cases (show v = _ from rv); exact fin hn (.base (.int _)) (tab "int" (by simp)) rfl q'
    | str b => cases (show v = _ from rv); exact fin hn (.base (.str _)) (tab "str" (by simp)) rfl q'
    | tup xs =>
      obtain ⟨a, ws, rfl, h, l⟩ := rv
      have ty : TyX K H (.ref a) (.type "tuple") := by
        rcases h with (h | ⟨o, h⟩) | ⟨o, its, m, h1, h2, _⟩
        · exact .base (.tup h)
        · exact .fTuple h
        · exact .kTuple h1 h2
      exact fin hn ty (tab "tuple" (by simp)) rfl q'
    | lsv xs =>
      obtain ⟨a, ws, rfl, h, l⟩ := rv
      have ty : TyX K H (.ref a) (.type "list") := by
        rcases h with ⟨o, h⟩ | ⟨o, its, m, h1, h2, _⟩
        · exact .base (.frz h)
        · exact .kList h1 h2
      exact fin hn ty (tab "list" (by simp)) rfl q'
    | dcv ks ds =>
      obtain ⟨a, ws, rfl, ⟨o, kvs, h, _, _⟩, l⟩ := rv
      refine fin hn (.fDict h) (tab "dict" (by simp)) ?_ q'
      simp only [Bool.or_eq_true, beq_iff_eq] at hn
      rcases hn with (((h | h) | h) | h) | h <;> subst h <;> simp [isI]
    | ref a => exact absurd rfl (nr a)
    | ty m => exact absurd rfl (nt m)
  · exact q.elim
/-! int(..), list(..), tuple(..) -/
def fInt : DF := fun ds H Q => match ds with
  | [.int i] => Q (.int i) H
  | [.bl b] => Q (.int (if b then 1 else 0)) H
  | _ => False
theorem ok_int {K : PySem.W.Frag} : CallOk K (fun xs H Q => (∃ i, xs = [.int i] ∧ Q (.int i) H) ∨ ∃ k, xs = [.bl k] ∧ Q (.int (if k then 1 else 0)) H) fInt := by
  intro H Hd vs ds Q Qd rh rl q k
  unfold fInt at q
  split at q
  · obtain ⟨v, rfl, r⟩ := len_one rl
    cases (show v = _ from r)
    exact .inl ⟨_, rfl, k _ H (.int _) Hd .refl rh rfl q⟩
  · obtain ⟨v, rfl, r⟩ := len_one rl
    cases (show v = _ from r)
    exact .inr ⟨_, rfl, k _ H (.int _) Hd .refl rh rfl q⟩
  · exact q.elim
def fList : DF := fun ds H Q => match ds with
  | [.tup xs] => ∀ p, H p = none → Q (.ref p) (upD H p (.lst xs))
  | [.lsv xs] => ∀ p, H p = none → Q (.ref p) (upD H p (.lst xs))
  | [.ref a] => ∃ xs, H a = some (.lst xs) ∧ ∀ p, H p = none → Q (.ref p) (upD H p (.lst xs))
  | _ => False
theorem ok_list {K : PySem.W.Frag} : CallOk K (fun xs H Q => ∃ p ys, xs = [.ref p] ∧ (SqL K H p ys ∨ SqT K H p ys) ∧ ∀ l, H l = none → Q (.ref l) (upd H l (.lst ys))) fList := by
  intro H Hd vs ds Q Qd rh rl q k
  unfold fList at q
  split at q
  · obtain ⟨v, rfl, r⟩ := len_one rl
    obtain ⟨a, ws, rfl, h, l⟩ := r
    exact ⟨a, ws, rfl, .inr h, fun p hp => k _ _ (.ref p) (upD Hd p (.lst _)) (.layL hp) (rh.layL hp l) rfl (q p (rh.free hp))⟩
  · obtain ⟨v, rfl, r⟩ := len_one rl
    obtain ⟨a, ws, rfl, h, l⟩ := r
    exact ⟨a, ws, rfl, .inl h.sq, fun p hp => k _ _ (.ref p) (upD Hd p (.lst _)) (.layL hp) (rh.layL hp l) rfl (q p (rh.free hp))⟩
  · obtain ⟨v, rfl, r⟩ := len_one rl
    obtain ⟨xs, h, q⟩ := q
    obtain ⟨ws, e1, l⟩ := rh _ _ h
    cases (show v = _ from r)
    exact ⟨_, ws, rfl, .inl (.of e1), fun p hp => k _ _ (.ref p) (upD Hd p (.lst _)) (.layL hp) (rh.layL hp l) rfl (q p (rh.free hp))⟩
  · exact q.elim
def fTuple : DF := fun ds H Q => match ds with
  | [.tup xs] => Q (.tup xs) H
  | [.lsv xs] => Q (.tup xs) H
  | [.ref a] => ∃ xs, H a = some (.lst xs) ∧ Q (.tup xs) H
  | _ => False
theorem ok_tuple {K : PySem.W.Frag} : CallOk K (fun xs H Q => ∃ p ys, xs = [.ref p] ∧ ((SqL K H p ys ∧ ∀ l, H l = none → Q (.ref l) (upd H l (.tup ys))) ∨ (SqT K H p ys ∧ Q (.ref p) H))) fTuple := by
  intro H Hd vs ds Q Qd rh rl q k
  have new : ∀ {ws : List V} {xs : List Dv} {p : Addr}, H p = none → RepL K H xs ws → Qd (.tup xs) Hd → Q (.ref p) (upd H p (.tup ws)) := fun {ws xs p} hp l qq =>
    k _ _ (.tup xs) Hd (.lay hp) (rh.lay hp) ⟨p, ws, rfl, .of upd_same, (Stp.lay (Hd := Hd) hp).repL rh l⟩ qq
  unfold fTuple at q
  split at q
  · obtain ⟨v, rfl, r⟩ := len_one rl
    obtain ⟨a, ws, rfl, h, l⟩ := r
    exact ⟨a, ws, rfl, .inr ⟨h, k _ H (.tup _) Hd .refl rh ⟨a, ws, rfl, h, l⟩ q⟩⟩
  · obtain ⟨v, rfl, r⟩ := len_one rl
    obtain ⟨a, ws, rfl, h, l⟩ := r
    exact ⟨a, ws, rfl, .inl ⟨h.sq, fun p hp => new hp l q⟩⟩
  · obtain ⟨v, rfl, r⟩ := len_one rl
    obtain ⟨xs, h, q⟩ := q
    obtain ⟨ws, e1, l⟩ := rh _ _ h
    cases (show v = _ from r)
    exact ⟨_, ws, rfl, .inl ⟨.of e1, fun p hp => new hp l q⟩⟩
  · exact q.elim
/-! max, min of two, all, any, sum -/
def fMax2 : DF := fun ds H Q => match ds with
  | [.int i, .int j] => Q (.int (if j > i then j else i)) H
  | _ => False
def fMin2 : DF := fun ds H Q => match ds with
  | [.int i, .int j] => Q (.int (if j < i then j else i)) H
  | _ => False
theorem ok_max2 {K : PySem.W.Frag} : CallOk K (fun xs H Q => ∃ i j, xs = [.int i, .int j] ∧ Q (.int (if j > i then j else i)) H) fMax2 := by
  intro H Hd vs ds Q Qd rh rl q k
  unfold fMax2 at q
  split at q
  · obtain ⟨v, w, rfl, r1, r2⟩ := len_two rl
    cases (show v = _ from r1)
    cases (show w = _ from r2)
    exact ⟨_, _, rfl, k _ H (.int _) Hd .refl rh rfl q⟩
  · exact q.elim
theorem ok_min2 {K : PySem.W.Frag} : CallOk K (fun xs H Q => ∃ i j, xs = [.int i, .int j] ∧ Q (.int (if j < i then j else i)) H) fMin2 := by
  intro H Hd vs ds Q Qd rh rl q k
  unfold fMin2 at q
  split at q
  · obtain ⟨v, w, rfl, r1, r2⟩ := len_two rl
    cases (show v = _ from r1)
    cases (show w = _ from r2)
    exact ⟨_, _, rfl, k _ H (.int _) Hd .refl rh rfl q⟩
  · exact q.elim
theorem RepL.bls {K : PySem.W.Frag} {H : Hp} : ∀ {bs : List Bool} {vs : List V}, RepL K H (bs.map Dv.bl) vs → vs = bs.map V.bl
  | [], _, h => h
  | b :: bs, _, h => by
    obtain ⟨v, r, rfl, h1, h2⟩ := h
    rw [show v = _ from h1, RepL.bls h2]; rfl
theorem RepL.nums {K : PySem.W.Frag} {H : Hp} : ∀ {bs : List Int} {vs : List V}, RepL K H (bs.map Dv.int) vs → vs = bs.map V.int
  | [], _, h => h
  | b :: bs, _, h => by
    obtain ⟨v, r, rfl, h1, h2⟩ := h
    rw [show v = _ from h1, RepL.nums h2]; rfl
def fAll : DF := fun ds H Q => match ds with
  | [.lsv xs] => ∃ bs : List Bool, xs = bs.map .bl ∧ Q (.bl (bs.all id)) H
  | [.ref a] => ∃ bs : List Bool, H a = some (.lst (bs.map .bl)) ∧ Q (.bl (bs.all id)) H
  | _ => False
def fAny : DF := fun ds H Q => match ds with
  | [.lsv xs] => ∃ bs : List Bool, xs = bs.map .bl ∧ Q (.bl (bs.any id)) H
  | [.ref a] => ∃ bs : List Bool, H a = some (.lst (bs.map .bl)) ∧ Q (.bl (bs.any id)) H
  | _ => False
def fSum : DF := fun ds H Q => match ds with
  | [.lsv xs] => ∃ ns : List Int, xs = ns.map .int ∧ Q (.int ns.sum) H
  | [.ref a] => ∃ ns : List Int, H a = some (.lst (ns.map .int)) ∧ Q (.int ns.sum) H
  | _ => False
theorem ok_all {K : PySem.W.Frag} : CallOk K (rAll K) fAll := by
  intro H Hd vs ds Q Qd rh rl q k
  unfold fAll at q
  split at q
  · obtain ⟨v, rfl, r⟩ := len_one rl
    obtain ⟨bs, e, q⟩ := q
    obtain ⟨a, ws, rfl, h, l⟩ := r
    subst e
    exact ⟨_, bs, rfl, by rw [← l.bls]; exact h.sq, k _ H (.bl _) Hd .refl rh rfl q⟩
  · obtain ⟨v, rfl, r⟩ := len_one rl
    obtain ⟨bs, h, q⟩ := q
    obtain ⟨ws, e1, l⟩ := rh _ _ h
    cases (show v = _ from r)
    exact ⟨_, bs, rfl, .of (by rw [← l.bls]; exact e1), k _ H (.bl _) Hd .refl rh rfl q⟩
  · exact q.elim
theorem ok_any {K : PySem.W.Frag} : CallOk K (rAny K) fAny := by
  intro H Hd vs ds Q Qd rh rl q k
  unfold fAny at q
  split at q
  · obtain ⟨v, rfl, r⟩ := len_one rl
    obtain ⟨bs, e, q⟩ := q
    obtain ⟨a, ws, rfl, h, l⟩ := r
    subst e
    exact ⟨_, bs, rfl, by rw [← l.bls]; exact h.sq, k _ H (.bl _) Hd .refl rh rfl q⟩
  · obtain ⟨v, rfl, r⟩ := len_one rl
    obtain ⟨bs, h, q⟩ := q
    obtain ⟨ws, e1, l⟩ := rh _ _ h
    cases (show v = _ from r)
    exact ⟨_, bs, rfl, .of (by rw [← l.bls]; exact e1), k _ H (.bl _) Hd .refl rh rfl q⟩
  · exact q.elim
theorem ok_sum {K : PySem.W.Frag} : CallOk K (rSum K) fSum := by
  intro H Hd vs ds Q Qd rh rl q k
  unfold fSum at q
  split at q
  · obtain ⟨v, rfl, r⟩ := len_one rl
    obtain ⟨bs, e, q⟩ := q
    obtain ⟨a, ws, rfl, h, l⟩ := r
    subst e
    exact ⟨_, bs, rfl, by rw [← l.nums]; exact h.sq, k _ H (.int _) Hd .refl rh rfl q⟩
  · obtain ⟨v, rfl, r⟩ := len_one rl
    obtain ⟨bs, h, q⟩ := q
    obtain ⟨ws, e1, l⟩ := rh _ _ h
    cases (show v = _ from r)
    exact ⟨_, bs, rfl, .of (by rw [← l.nums]; exact e1), k _ H (.int _) Hd .refl rh rfl q⟩
  · exact q.elim
end
/-! ## methods of lists -/
abbrev DM := Dv → List Dv → DH → DVK → Prop
def MtOk (K : PySem.W.Frag) (r : V → List V → Hp → VK → Prop) (f : DM) : Prop := ∀ H Hd x vs d ds Q Qd, RepH K H Hd → Rep K H d x → RepL K H ds vs → f d ds Hd Qd → KE K H Hd Qd Q → r x vs H Q
def isL (d : Dv) (H : DH) : Prop := match d with
  | .ref p => ∃ ds, H p = some (.lst ds)
  | .lsv _ => True
  | _ => False
def dMt0 (f : DM) (to : DTE) : DTE := fun σ H Q => to σ H fun d H1 => isL d H1 ∧ f d [] H1 Q
def dMt (f : DM) (to : DTE) (t : DTA) : DTE := fun σ H Q => to σ H fun d H1 => isL d H1 ∧ t σ H1 fun ds H2 => f d ds H2 Q
theorem ty_list {K : PySem.W.Frag} {H : Hp} {Hd : DH} {d : Dv} {v : V} (rh : RepH K H Hd) (r : Rep K H d v) (h : isL d Hd) : tyV K "list" v H := by
  cases d with
  | ref p =>
    cases (show v = _ from r)
    obtain ⟨ds, h⟩ := h
    obtain ⟨vs, e, _⟩ := rh _ _ h
    exact .inl ⟨rfl, vs, .of e⟩
  | lsv ds =>
    obtain ⟨a, vs, rfl, h, l⟩ := r
    exact .inl ⟨rfl, vs, h.sq⟩
  | _ => exact h.elim
section
variable {X : Cx} {o e : Expr} {es : List Expr} {to : DTE} {t : DTA} {name : Str} {apos cpos : Pos} {id : String} {r : V → List V → Hp → VK → Prop} {f : DM}
theorem de_mt0 (slot : Slot "list" name id) (hty : typeOf (.builtin id) = pure (.type "method_descriptor")) (hm : MtR X id r) (hf : MtOk X.K r f) (ho : DE X o to)
    (hbase : attributeBase o name X.env (eval o X.env) = eval o X.env := by rfl) (hline : (apos.endLine == cpos.line) = true := by rfl) : DE X (.Call (.Attribute o name apos) [] [] cpos) (dMt0 f to) :=
  de_of (pe_bm0 PySem.F.plainAttrs_list slot hty hm ho hbase hline) fun σ H Q σd Hd Qd rs rh q k => ⟨σd, Hd, _, rs, rh, q, fun v H1 d Hd1 s1 r1 rv q1 =>
    ⟨ty_list r1 rv q1.1, hf H1 Hd1 v [] d [] Q Qd r1 rv rfl q1.2 (k.at s1)⟩⟩
theorem de_mt (slot : Slot "list" name id) (hty : typeOf (.builtin id) = pure (.type "method_descriptor")) (hm : MtR X id r) (hf : MtOk X.K r f) (ho : DE X o to) (ha : DA X (e :: es) t)
    (hbase : attributeBase o name X.env (eval o X.env) = eval o X.env := by rfl)
    (hfew : ((backTo cpos (starEach (e :: es) X.env)).all (fun x => !x.1) && (backToKw cpos (keywordEach [] X.env)).all (fun x => x.1.isSome)
      && decide ((e :: es).length + ([] : List Keyword).length + (if ([] : List Keyword).isEmpty then 0 else 1) < 30)) = true := by rfl)
    (hline : (apos.endLine == cpos.line) = true := by rfl) (hs : starEach (e :: es) X.env = (false, eval e X.env) :: starEach es X.env := by rfl) (hplain : (backTo cpos (starEach es X.env)).any (·.1) = false := by rfl) :
    DE X (.Call (.Attribute o name apos) (e :: es) [] cpos) (dMt f to t) :=
  de_of (pe_bm PySem.F.plainAttrs_list slot hty hm ho ha hbase hfew hline hs hplain) fun σ H Q σd Hd Qd rs rh q k => ⟨σd, Hd, _, rs, rh, q, fun v H1 d Hd1 s1 r1 rv q1 =>
    ⟨ty_list r1 rv q1.1, σd, Hd1, _, s1.repS rh rs, r1, q1.2, fun vs H2 ds Hd2 s2 r2 rl q2 => hf H2 Hd2 v vs d ds Q Qd r2 (s2.rep r1 rv) rl q2 (k.at (s1.trans s2))⟩⟩
def fAppend : DM := fun d ds H Q => match d, ds with
  | .ref p, [y] => ∃ xs, H p = some (.lst xs) ∧ xs.length < sizeLine ∧ Q .non (upD H p (.lst (xs ++ [y])))
  | _, _ => False
theorem ok_append {K : PySem.W.Frag} : MtOk K rAppend fAppend := by
  intro H Hd x vs d ds Q Qd rh rx rl q k
  unfold fAppend at q
  split at q
  · obtain ⟨v, rfl, r⟩ := len_one rl
    obtain ⟨xs, h, hz, q⟩ := q
    obtain ⟨ws, e1, l⟩ := rh _ _ h
    refine ⟨_, ws, v, rx, rfl, e1, by rw [← l.length]; exact hz, ?_⟩
    exact k _ _ .non _ (.put h) (rh.put h (l.append (.one r))) rfl q
  · exact q.elim
def fExtend : DM := fun d ds H Q => match d, ds with
  | .ref p, [.ref b] => ∃ xs zs, H p = some (.lst xs) ∧ H b = some (.lst zs) ∧ xs.length + zs.length ≤ sizeLine ∧ Q .non (upD H p (.lst (xs ++ zs)))
  | _, _ => False
theorem ok_extend {K : PySem.W.Frag} : MtOk K rExtend fExtend := by
  intro H Hd x vs d ds Q Qd rh rx rl q k
  unfold fExtend at q
  split at q
  · obtain ⟨v, rfl, r⟩ := len_one rl
    obtain ⟨xs, zs, h, h', hz, q⟩ := q
    obtain ⟨ws, e1, l⟩ := rh _ _ h
    obtain ⟨us, e2, l2⟩ := rh _ _ h'
    cases (show v = _ from r)
    refine ⟨_, _, ws, us, rx, rfl, e1, e2, by rw [← l.length, ← l2.length]; exact hz, ?_⟩
    exact k _ _ .non _ (.put h) (rh.put h (l.append l2)) rfl q
  · exact q.elim
def fPop : DM := fun d ds H Q => match d, ds with
  | .ref p, [] => ∃ xs y, H p = some (.lst xs) ∧ xs[xs.length - 1]? = some y ∧ Q y (upD H p (.lst xs.dropLast))
  | _, _ => False
theorem RepL.dropLast {K : PySem.W.Frag} {H : Hp} {ds : List Dv} {vs : List V} (h : RepL K H ds vs) : RepL K H ds.dropLast vs.dropLast := by
  rw [List.dropLast_eq_take, List.dropLast_eq_take, h.length]
  exact h.take _
theorem ok_pop {K : PySem.W.Frag} : MtOk K rPop fPop := by
  intro H Hd x vs d ds Q Qd rh rx rl q k
  unfold fPop at q
  split at q
  · have e : vs = [] := rl
    subst e
    obtain ⟨xs, y, h, hy, q⟩ := q
    obtain ⟨ws, e1, l⟩ := rh _ _ h
    obtain ⟨v, e2, r⟩ := l.get hy
    refine ⟨_, ws, v, rx, rfl, e1, by rw [← l.length]; exact e2, ?_⟩
    exact k _ _ y _ (.put h) (rh.put h l.dropLast) ((Stp.put (H := H) (Hd := Hd) (u' := .lst xs.dropLast) h).rep rh r) q
  · exact q.elim
def fPopAt : DM := fun d ds H Q => match d, ds with
  | .ref p, [.int i] => ∃ xs j y, H p = some (.lst xs) ∧ -(2 ^ 63) ≤ i ∧ i < 2 ^ 63 ∧ seqIndex? i xs.length = some j ∧ xs[j]? = some y ∧ Q y (upD H p (.lst (xs.eraseIdx j)))
  | _, _ => False
theorem ok_popAt {K : PySem.W.Frag} : MtOk K rPopAt fPopAt := by
  intro H Hd x vs d ds Q Qd rh rx rl q k
  unfold fPopAt at q
  split at q
  · obtain ⟨w, rfl, r⟩ := len_one rl
    cases (show w = _ from r)
    obtain ⟨xs, j, y, h, h1, h2, h3, hy, q⟩ := q
    obtain ⟨ws, e1, l⟩ := rh _ _ h
    obtain ⟨v, e2, r⟩ := l.get hy
    refine ⟨_, ws, _, j, v, rx, rfl, e1, h1, h2, by rw [← l.length]; exact h3, e2, ?_⟩
    exact k _ _ y _ (.put h) (rh.put h (l.erase j)) ((Stp.put (H := H) (Hd := Hd) (u' := .lst (xs.eraseIdx j)) h).rep rh r) q
  · exact q.elim
end
/-! ## calls of the text's own defs -/
/-- a def's promise by values -/
abbrev DSp := List Dv → DH → DVK → Prop
def lSp (K : PySem.W.Frag) (sp : DSp) : Sp := fun vs H Q _ => ∃ ds Hd Qd, RepL K H ds vs ∧ RepH K H Hd ∧ sp ds Hd Qd ∧ KE K H Hd Qd Q
section
variable {X : Cx} {k : Nat} {f : Addr} {fd : FuncData} {ps ks : List Str} {sp : DSp} {dvs : List V} {dds : List Dv} {ds : List Value} {x : Str} {p pos : Pos} {e : Expr} {es : List Expr} {kws : List Keyword} {t tk : DTA}
abbrev dCall (sp : DSp) (dds : List Dv) (t : DTA) : DTE := fun σ H Q => t σ H fun xs H1 => sp (xs ++ dds) H1 Q
theorem de_call {CX : CXT} (F : FnOk X.prog X.w X.K X.mg X.base CX k f fd ps (lSp X.K sp)) (hr : Room k X.A) (hg : Gl X x) (hm : X.mg x = some (.ref f)) (hk : PySem.W.keepIn X.K (.ref f) = true) (hb : Binds X.K fd ps ds) (hd : Vals dvs ds) (hdd : ∀ H, RepL X.K H dds dvs) (hx : Passes CX X E0)
    (ha : DA X (e :: es) t) (hdb : (x == ("__debug__" : Str)) = false := by decide) (he : starEach (e :: es) X.env = (false, eval e X.env) :: starEach es X.env := by rfl) (hpl : (backTo pos (starEach es X.env)).any (·.1) = false := by rfl) :
    DE X (.Call (.Name x p) (e :: es) [] pos) (dCall sp dds t) :=
  de_of (pe_call F hr hg hm hk hb hd hx ha hdb he hpl) fun σ H Q σd Hd Qd rs rh q k => ⟨σd, Hd, _, rs, rh, q, fun vs H1 xs Hd1 s1 r1 rl q1 => ⟨xs ++ dds, Hd1, Qd, rl.append (hdd H1), r1, q1, k.at s1⟩⟩
theorem de_call0 {CX : CXT} (F : FnOk X.prog X.w X.K X.mg X.base CX k f fd ps (lSp X.K sp)) (hr : Room k X.A) (hg : Gl X x) (hm : X.mg x = some (.ref f)) (hk : PySem.W.keepIn X.K (.ref f) = true) (hb : Binds X.K fd ps ds) (hd : Vals dvs ds) (hdd : ∀ H, RepL X.K H dds dvs) (hx : Passes CX X E0)
    (hdb : (x == ("__debug__" : Str)) = false := by decide) : DE X (.Call (.Name x p) [] [] pos) (dCall sp dds dNil) :=
  de_of (pe_call0 F hr hg hm hk hb hd hx hdb) fun σ H Q σd Hd Qd rs rh q k => ⟨dds, Hd, Qd, hdd H, rh, q, k⟩
/-- f(k = e): keywords alone, in the parameters' order -/
structure KwOk (K : PySem.W.Frag) (fd : FuncData) (ps ks : List Str) : Prop where
  to : ∀ (s : Shared) (ws : List Value), K.In s.heap → ws.length = ks.length → BindsTo s fd ⟨[], ks.zip ws⟩ (ps.zip ws)
  len : ks.length = ps.length
abbrev DK (X : Cx) (kws : List Keyword) (t : DTA) : Prop := PK X kws (lA X.K t)
theorem dk_nil : DK X [] dNil := ⟨fun o pins s σ H Q I ⟨σd, Hd, Qd, rs, rh, q, k⟩ => pk_nil.run o pins s σ H Q I (k [] H [] Hd .refl rh rfl q)⟩
theorem dk_cons {te : DTE} {nm : Option Str} {kpos : Pos} (ha : DE X e te) (hr : DK X kws t) : DK X (⟨nm, e, kpos⟩ :: kws) (dCons te t) := ⟨fun o pins s σ H Q I ⟨σd, Hd, Qd, rs, rh, q, k⟩ => (pk_cons ha hr).run o pins s σ H Q I
  ⟨σd, Hd, _, rs, rh, q, fun v H1 d Hd1 s1 r1 rv q1 => ⟨σd, Hd1, _, s1.repS rh rs, r1, q1, fun vs H2 xs Hd2 s2 r2 rvs q2 => k (v :: vs) H2 (d :: xs) Hd2 (s1.trans s2) r2 ⟨v, vs, rfl, s2.rep r1 rv, rvs⟩ q2⟩⟩⟩
theorem de_callK {CX : CXT} (F : FnOk X.prog X.w X.K X.mg X.base CX k f fd ps (lSp X.K sp)) (hr : Room k X.A) (hg : Gl X x) (hm : X.mg x = some (.ref f)) (hk : PySem.W.keepIn X.K (.ref f) = true) (hb : KwOk X.K fd ps ks) (hx : Passes CX X E0)
    (hkw : DK X kws tk) (hall : (backToKw pos (keywordEach kws X.env)).all (·.1.isSome) = true := by rfl) (hks : (backToKw pos (keywordEach kws X.env)).filterMap (·.1) = ks := by rfl)
    (hdb : (x == ("__debug__" : Str)) = false := by decide) (hpl : ((backTo pos (starEach [] X.env)).any (·.1) || (backToKw pos (keywordEach kws X.env)).any (·.1.isNone)) = false := by rfl) :
    DE X (.Call (.Name x p) [] kws pos) (dCall sp [] tk) := by
  refine ⟨fun pins s σ H Q I ⟨σd, Hd, Qd, rs, rh, q, kk⟩ => ?_⟩
  refine wpAny_Call_Name_kw (ld_glob I hg hm ?_ hdb)
  refine PySem.W.callWith_KW0 (h₀ := X.base) I.ok.mod.kin hk hall ?_ hpl
  refine thn (hkw.run pos pins s σ H (fun vs H1 => ∃ xs Hd1, Stp H Hd H1 Hd1 ∧ RepH X.K H1 Hd1 ∧ RepL X.K H1 xs vs ∧ sp (xs ++ []) Hd1 Qd) I ⟨σd, Hd, _, rs, rh, q, fun vs H1 xs Hd1 s1 r1 rl q1 => ⟨xs, Hd1, s1, r1, rl, q1⟩⟩)
    fun ws s2 ⟨zs, H2, I2, rz, xs, Hd1, s1, r1, rl, q1⟩ => ⟨I2.kIn, ?_⟩
  rw [List.append_nil] at q1
  rw [hks]
  have want : lSp X.K sp zs H2 Q E0 := ⟨xs, Hd1, Qd, rl, r1, q1, kk.at s1⟩
  have hl : ws.length = ps.length := by rw [← rz.length]; exact F.len _ _ _ _ want
  refine wpAny_call (codeAny_mono (F.run X.A X.stack s2 H2 ⟨[], ks.zip ws⟩ ws zs Q E0 hr I2.env0 (hb.to s2 ws I2.kIn (by rw [hl, hb.len])) rz want) fun r s' hq => ?_)
  cases r with
  | error e => exact hx pins σ H2 s2 e s' I2 hq
  | ok fl =>
    cases fl with
    | ret u => exact I2.after hq
    | next => exact False.elim hq
    | brk => exact False.elim hq
    | cont => exact False.elim hq
end
/-- the slots at a def's entry -/
def startD (n : Nat) (ds : List Dv) : DS := ds.map some ++ List.replicate (n - ds.length) none
theorem repS_start {K : PySem.W.Frag} {H : Hp} {ds : List Dv} {vs : List V} (N : List Str) (h : RepL K H ds vs) : RepS K H (startD N.length ds) (L2.start N vs) := by
  refine ⟨by unfold startD L2.start; rw [List.length_append, List.length_append, List.length_map, List.length_map, List.length_replicate, List.length_replicate, h.length], fun i d e => ?_⟩
  unfold startD at e
  unfold L2.start
  by_cases hi : i < ds.length
  · rw [List.getElem?_append_left (by rw [List.length_map]; exact hi), List.getElem?_map, List.getElem?_eq_getElem hi] at e
    cases e
    obtain ⟨v, e2, r⟩ := h.get (List.getElem?_eq_getElem hi)
    exact ⟨v, by rw [List.getElem?_append_left (by rw [List.length_map, ← h.length]; exact hi), List.getElem?_map, e2]; rfl, r⟩
  · rw [List.getElem?_append_right (by rw [List.length_map]; omega)] at e
    have := List.mem_of_getElem? e
    rw [List.mem_replicate] at this
    cases this.2
/-- what a def's body must reach: its value in a part of the heap -/
def outD (Q : DVK) : DEnds := { nx := fun _ Hf => ∃ Hg, Sub Hg Hf ∧ Q .non Hg, rt := fun d Hf => ∃ Hg, Sub Hg Hf ∧ Q d Hg }
/-- THE RULE for a def that lets nothing out -/
theorem Fun.okD {P : Program} {w : World} {K : PySem.W.Frag} {mg : Str → Option Value} {base : Heap} {x qual : Str} {st : Stmt} {f : Addr} {fd : FuncData} {N ps : List Str} {k : Nat} {sp : DSp} {td : DTS} (F : L2.Fun K x qual st f fd) (S : FnScope N ps (defScope st))
    (len : ∀ ds H Q, sp ds H Q → ds.length = ps.length)
    (hbody : ∀ (cdv : Value) (A : Around) (outer : List Env) (s : Shared) (H : Hp) (E : XK), Room k (A.deeper (envOfC qual (defScope st) s.heap.objs.size f cdv)) → DSs (cxOf CX0 P w K mg base N qual (defScope st) f cdv A outer s H E).nox (defBody st) td)
    (rd : ∀ ds H Q, sp ds H Q → td (outD Q) (startD N.length ds) H) : FnOk P w K mg base CX0 (k + 1) f fd ps (lSp K sp) := by
  refine F.ok S (fun vs H Q E ⟨ds, Hd, Qd, rl, _, q, _⟩ => by rw [← rl.length]; exact len _ _ _ q) (fun cdv A outer s H vs Q E hr ⟨ds, Hd, Qd, rl, rh, q, kk⟩ => ⟨_, hbody cdv A outer s H E hr, ?_⟩)
  refine ⟨startD N.length ds, Hd, outD Qd, repS_start N rl, rh, rd ds Hd Qd q, fun σ' H' σd' Hd' s' r' rs' ⟨Hg, sb, q'⟩ => ?_, fun v H' d Hd' s' r' rv ⟨Hg, sb, q'⟩ => ?_, fun _ _ _ _ _ _ _ q => q.elim, fun _ _ _ _ _ _ _ q => q.elim⟩
  · exact kk _ _ .non Hg (s'.sub sb) (r'.sub sb) rfl q'
  · exact kk _ _ d Hg (s'.sub sb) (r'.sub sb) rv q'
end DL

set_option maxHeartbeats 4000000
namespace DL
open PySem PySem.Spec L2
open PyProof.Rows hiding St
/-! ## lists that nobody changes: a new list is locked at once and carried by value -/
def tFrz (t : TE) : TE := fun σ H Q => t σ H fun v H1 => ∃ p xs, H1 p = some (.lst xs) ∧ ∀ od, Q v (upd H1 p (.frz od (.lst xs)))
section
variable {X : Cx} {e : Expr} {es : List Expr} {pos : Pos}
theorem pe_fz {t : TE} (h : PE X e t) : PE X e (tFrz t) := ⟨fun pins s σ H Q I q => thn (h.run pins s σ H _ I q) fun v s1 ⟨x, H1, I1, r1, p, xs, e2, q1⟩ => by
  obtain ⟨od, I2⟩ := I1.lock e2 trivial
  exact ⟨x, _, I2, r1, q1 od⟩⟩
theorem frz_rep {K : PySem.W.Frag} {H : Hp} {Hd : DH} {p : Addr} {od : Obj} {ds : List Dv} {vs : List V} (rh : RepH K H Hd) (hp : H p = none) (l : RepL K H ds vs) : Rep K (upd H p (.frz od (.lst vs))) (.lsv ds) (.ref p) :=
  ⟨p, vs, rfl, .inl ⟨od, upd_same⟩, (Stp.lay (Hd := Hd) hp).repL rh l⟩
/-- what comes of a new list, locked -/
theorem fz_end {K : PySem.W.Frag} {H : Hp} {Hd : DH} {Qd : DVK} {Q : VK} (k : KE K H Hd Qd Q) (rh : RepH K H Hd) {p : Addr} {ds : List Dv} {vs : List V} (hp : H p = none) (l : RepL K H ds vs) (q : Qd (.lsv ds) Hd) :
    ∃ a xs, (upd H p (.lst vs)) a = some (.lst xs) ∧ ∀ od, Q (.ref p) (upd (upd H p (.lst vs)) a (.frz od (.lst xs))) :=
  ⟨p, vs, upd_same, fun od => by rw [upd_upd]; exact k _ _ (.lsv ds) Hd (.lay hp) (rh.lay hp) (frz_rep rh hp l) q⟩
def dLstF (t : DTA) : DTE := fun σ H Q => t σ H fun ds H1 => ds.length ≤ sizeLine ∧ Q (.lsv ds) H1
theorem de_lstF {t : DTA} (h : DA X es t) : DE X (.List es pos) (dLstF t) := de_of (pe_fz (pe_lst h)) fun σ H Q σd Hd Qd rs rh q k => ⟨σd, Hd, _, rs, rh, q, fun vs H1 ds Hd1 s1 r1 rl ⟨z, q1⟩ =>
  ⟨by rw [← rl.length]; exact z, fun p hp => fz_end (k.at s1) r1 hp rl q1⟩⟩
/-! + -/
def seqL (d : Dv) (H : DH) (k : List Dv → Prop) : Prop := match d with
  | .lsv ds => k ds
  | .ref p => ∃ ds, H p = some (.lst ds) ∧ k ds
  | _ => False
theorem seqL_of {K : PySem.W.Frag} {H : Hp} {Hd : DH} {d : Dv} {v : V} {k : List Dv → Prop} (rh : RepH K H Hd) (r : Rep K H d v) (q : seqL d Hd k) : ∃ a vs ds, v = .ref a ∧ SqL K H a vs ∧ RepL K H ds vs ∧ k ds := by
  cases d with
  | lsv ds => obtain ⟨a, vs, rfl, h, l⟩ := r; exact ⟨a, vs, ds, rfl, h.sq, l, q⟩
  | ref p =>
    obtain ⟨ds, h, q⟩ := q
    obtain ⟨vs, e, l⟩ := rh _ _ h
    exact ⟨p, vs, ds, r, .of e, l, q⟩
  | _ => exact q.elim
def rCatS (K : PySem.W.Frag) : R2 := fun x y H Q => ∃ a b xs ys, x = .ref a ∧ y = .ref b ∧ SqL K H a xs ∧ SqL K H b ys ∧ xs.length + ys.length ≤ sizeLine ∧ ∀ p od, H p = none → Q (.ref p) (upd H p (.frz od (.lst (xs ++ ys))))
theorem op_catS : OpR X (binaryOp .Add) (rCatS X.K) := by
  intro pins s σ H x y v u Q I rx ry ⟨a, b, xs, ys, ex, ey, ha, hb, hz, q⟩
  subst ex ey
  cases rx
  cases ry
  obtain ⟨us, r1, ⟨⟨c1, d1, t1, sl1⟩, n1, o1, k1, _, m1⟩, _⟩ := I.list ha
  obtain ⟨ws, r2, ⟨⟨c2, d2, t2, sl2⟩, n2, o2, k2, _, m2⟩, _⟩ := I.list hb
  simp only at k1 m1 k2 m2
  subst k1 m1 k2 m2
  have size : us.length + ws.length ≤ sizeLine := by rw [← r1.length, ← r2.length]; exact hz
  have join : us.toArray ++ ws.toArray = (us ++ ws).toArray := by simp
  refine concat_meets ⟨_, o1, rfl⟩ ⟨_, o2, rfl⟩ noFill_list_add seq_list_add PySem.F.slot_list_add PySem.F.entry_list_add (PySem.F.args_list_add_2 _ _)
    (list_addW a b us.toArray ws.toArray n1 n2 d1 d2 sl1 sl2 (by simpa using size)) ⟨o1, o2, ?_⟩
  rw [join]
  have fresh := I.hok.fresh (Nat.le_refl s.heap.objs.size)
  have made : Inv X pins σ (upd H s.heap.objs.size (.lst (xs ++ ys))) { s with heap := s.heap.push { cls := .type "list", data := .seq (us ++ ws).toArray } } :=
    I.laid (t' := s.toks) (a := s.heap.objs.size) (o := .lst (xs ++ ys)) (fun b ob e => Heap.get?_push_of_some _ e) (Nat.le_refl _) ⟨by rw [List.length_append]; exact hz, _, 0, r1.append r2, Heap.get?_push_size _ rfl⟩
  obtain ⟨od, kept⟩ := made.lock upd_same trivial
  rw [upd_upd] at kept
  exact ⟨.ref s.heap.objs.size, _, kept, rfl, q _ od fresh⟩
def fAddF : D2 := fun x y H Q => match x, y with
  | .int i, .int j => Q (.int (i + j)) H
  | .tup xs, .tup ys => xs.length + ys.length ≤ sizeLine ∧ Q (.tup (xs ++ ys)) H
  | .str i, .str j => i.length + j.length ≤ sizeLine ∧ Q (.str (i ++ j)) H
  | .lsv xs, .lsv ys => xs.length + ys.length ≤ sizeLine ∧ Q (.lsv (xs ++ ys)) H
  | .ref p, .lsv ys => ∃ xs, H p = some (.lst xs) ∧ xs.length + ys.length ≤ sizeLine ∧ Q (.lsv (xs ++ ys)) H
  | .lsv xs, .ref p => ∃ ys, H p = some (.lst ys) ∧ xs.length + ys.length ≤ sizeLine ∧ Q (.lsv (xs ++ ys)) H
  | .ref p, .ref q => ∃ xs ys, H p = some (.lst xs) ∧ H q = some (.lst ys) ∧ xs.length + ys.length ≤ sizeLine ∧ Q (.lsv (xs ++ ys)) H
  | _, _ => False
theorem ok_addF : R2Ok X.K (fun x y H Q => rAddAll X.K x y H Q ∨ rCatS X.K x y H Q) fAddF := by
  intro H Hd x y dx dy Q Qd rh rx ry q k
  have cat : ∀ {a b : Addr} {vs ws : List V} {xs ys : List Dv}, x = .ref a → y = .ref b → SqL X.K H a vs → SqL X.K H b ws → RepL X.K H xs vs → RepL X.K H ys ws → xs.length + ys.length ≤ sizeLine → Qd (.lsv (xs ++ ys)) Hd → rCatS X.K x y H Q :=
    fun {a b vs ws xs ys} ex ey h1 h2 l1 l2 hz qq => ⟨a, b, vs, ws, ex, ey, h1, h2, by rw [← l1.length, ← l2.length]; exact hz, fun p od hp => k _ _ (.lsv (xs ++ ys)) Hd (.lay hp) (rh.lay hp) (frz_rep rh hp (l1.append l2)) qq⟩
  unfold fAddF at q
  split at q
  · exact .inl (.inl ⟨_, _, rx, ry, k _ H (.int _) Hd .refl rh rfl q⟩)
  · rename_i xs ys
    obtain ⟨p, vs, rfl, hx, lx⟩ := rx
    obtain ⟨p', us, rfl, hy, ly⟩ := ry
    refine .inl (.inr (.inl ⟨p, p', vs, us, rfl, rfl, hx, hy, by rw [← lx.length, ← ly.length]; exact q.1, fun e => ?_, fun _ e => ?_, fun _ _ r hr => ?_⟩))
    · subst e
      have e' : xs = [] := List.eq_nil_of_length_eq_zero lx.length
      subst e'
      exact k _ H (.tup ys) Hd .refl rh ⟨p', us, rfl, hy, ly⟩ q.2
    · subst e
      have e' : ys = [] := List.eq_nil_of_length_eq_zero ly.length
      subst e'
      exact k _ H (.tup (xs ++ [])) Hd .refl rh ⟨p, vs, rfl, hx, by rw [List.append_nil]; exact lx⟩ q.2
    · exact k _ _ (.tup (xs ++ ys)) Hd (.lay hr) (rh.lay hr) ⟨r, _, rfl, .of upd_same, (Stp.lay (Hd := Hd) hr).repL rh (lx.append ly)⟩ q.2
  · exact .inl (.inr (.inr (.inl ⟨_, _, rx, ry, q.1, k _ H (.str _) Hd .refl rh rfl q.2⟩)))
  · obtain ⟨p, vs, e1, h1, l1⟩ := rx
    obtain ⟨p', us, e2, h2, l2⟩ := ry
    exact .inr (cat e1 e2 h1.sq h2.sq l1 l2 q.1 q.2)
  · obtain ⟨xs, h, q⟩ := q
    obtain ⟨vs, h1, l1⟩ := rh _ _ h
    obtain ⟨p', us, e2, h2, l2⟩ := ry
    exact .inr (cat rx e2 (.of h1) h2.sq l1 l2 q.1 q.2)
  · obtain ⟨ys, h, q⟩ := q
    obtain ⟨us, h2, l2⟩ := rh _ _ h
    obtain ⟨p, vs, e1, h1, l1⟩ := rx
    exact .inr (cat e1 ry h1.sq (.of h2) l1 l2 q.1 q.2)
  · obtain ⟨xs, ys, h, h', q⟩ := q
    obtain ⟨vs, h1, l1⟩ := rh _ _ h
    obtain ⟨us, h2, l2⟩ := rh _ _ h'
    exact .inr (cat rx ry (.of h1) (.of h2) l1 l2 q.1 q.2)
  · exact q.elim
theorem de_addF {a b : Expr} {ta tb : DTE} (ha : DE X a ta) (hb : DE X b tb) : DE X (.BinOp a .Add b pos) (dOp fAddF ta tb) := de_op (OpR.or op_addAll op_catS) ok_addF ha hb
/-! comprehensions, list(..), slices -/
theorem de_fz {t tf : DTE} (h : DE X e t) (i : ∀ σ H Q, tf σ H Q → t σ H fun d H1 => ∃ H2 p ds, H2 p = none ∧ d = .ref p ∧ H1 = upD H2 p (.lst ds) ∧ Q (.lsv ds) H2) : DE X e tf :=
  de_of (pe_fz h) fun σ H Q σd Hd Qd rs rh q k => ⟨σd, Hd, _, rs, rh, i σd Hd Qd q, fun v H1 d Hd1 s1 r1 rv ⟨H2, p, ds, hp, ed, eH, q1⟩ => by
    subst ed eH
    cases (show v = _ from rv)
    obtain ⟨vs, e1, l⟩ := r1 p _ upD_same
    refine ⟨p, vs, e1, fun od => ?_⟩
    -- the list is locked: it is no more among what may change
    have st : Stp H1 (upD H2 p (.lst ds)) (upd H1 p (.frz od (.lst vs))) H2 := ⟨fun a o e n => by
        have z : a ≠ p := fun z => by rw [z, upD_same] at n; cases n
        rw [upd_ne z]; exact e, fun a e => by
        by_cases z : a = p
        · rw [z, upd_same]; exact fun q => nomatch q
        · rw [upd_ne z]; exact e, fun a e => by
        have z : a ≠ p := fun z => by rw [z, hp] at e; exact e rfl
        exact .inl (by rw [upD_ne z]; exact e)⟩
    have tr : ∀ {d : Dv} {v : V}, Rep X.K H1 d v → Rep X.K (upd H1 p (.frz od (.lst vs))) d v := fun {d v} r => st.rep r1 r
    refine k _ _ (.lsv ds) H2 (s1.trans st) (fun a o e => ?_) ⟨p, vs, rfl, .inl ⟨od, upd_same⟩, st.repL r1 l⟩ q1
    have z : a ≠ p := fun z => by rw [z, hp] at e; cases e
    exact (r1 a o (by rw [upD_ne z]; exact e)).keep st r1 (upd_ne z)⟩
end
section
variable {X : Cx} {elt tg iter : Expr} {ifs : List Expr} {scope : Scope} {own : List (Str × Nat)} {it : DTI} {g : DTG} {tt : DTT} {te : DTE} {pos spos : Pos}
/-- the end of a locked list -/
theorem lock_end {K : PySem.W.Frag} {H H' : Hp} {Hd Hd' : DH} {D : Addr} {od : Obj} {acc : List Dv} {ws : List V} {Qd : DVK} {Q : VK} (k : KE K H Hd Qd Q) (st : Stp H Hd H' Hd') (hD : H D = none) (r : RepH K H' Hd') (eD : H' D = some (.lst ws)) (nD : Hd' D = none) (rl : RepL K H' acc ws)
    (q : Qd (.lsv acc) Hd') : Q (.ref D) (upd H' D (.frz od (.lst ws))) := by
  -- as a list that may change, which is then no more among them
  have r1 : RepH K H' (upD Hd' D (.lst acc)) := fun b o e => by
    by_cases y : b = D
    · subst y
      rw [upD_same] at e
      cases e
      exact ⟨ws, eD, rl⟩
    · rw [upD_ne y] at e
      exact r b o e
  have s1 : Stp H Hd H' (upD Hd' D (.lst acc)) := ⟨st.frame, st.dom, fun b e => by
    by_cases y : b = D
    · exact .inr (by rw [y]; exact hD)
    · rw [upD_ne y] at e
      exact st.new b e⟩
  have s2 : Stp H' (upD Hd' D (.lst acc)) (upd H' D (.frz od (.lst ws))) Hd' := ⟨fun a o e n => by
      have z : a ≠ D := fun z => by rw [z, upD_same] at n; cases n
      rw [upd_ne z]; exact e, fun a e => by
      by_cases z : a = D
      · rw [z, upd_same]; exact fun q => nomatch q
      · rw [upd_ne z]; exact e, fun a e => by
      have z : a ≠ D := fun z => by rw [z, nD] at e; exact e rfl
      exact .inl (by rw [upD_ne z]; exact e)⟩
  refine k _ _ (.lsv acc) Hd' (s1.trans s2) (fun a o e => ?_) ⟨D, ws, rfl, .inl ⟨od, upd_same⟩, s2.repL r1 rl⟩ q
  have z : a ≠ D := fun z => by rw [z, nD] at e; cases e
  exact (r1 a o (by rw [upD_ne z]; exact e)).keep s2 r1 (upd_ne z)
theorem lcF_of {K : PySem.W.Frag} {vs : List Nat} {σ : St} {H : Hp} {Q : VK} (h : lE K (dLcF it vs g tt te) σ H Q) : tFrz (tLc (lI K it) (lGc K vs g) (lT K tt) (lE K te) vs) σ H Q := by
  obtain ⟨σd, Hd, Qd, rs, rh, q, k⟩ := h
  exact lc_gen rs rh q fun H' Hd' D acc ws st hD r' eD nD rl z => ⟨D, ws, eD, fun od => lock_end k st hD r' eD nD rl z⟩
theorem de_lcF (hc : X.calm = true) (hN : X.N.Nodup) (hi : DI X tg iter it) (ok : BlkOk X.N X.env.scope scope own)
    (hg : ∀ (s : Shared) (H : Hp) (C : Addr) (cl : List (Str × Addr)) (fp : List Addr), PG (X.blk s H scope (compEnvC scope cl C X.env) fp) tg (lGc X.K (own.map (·.2)) g))
    (ht : ∀ (s : Shared) (H : Hp) (C : Addr) (cl : List (Str × Addr)) (fp : List Addr), PTs (X.blk s H scope (compEnvC scope cl C X.env) fp) ifs (lT X.K tt))
    (he : ∀ (s : Shared) (H : Hp) (C : Addr) (cl : List (Str × Addr)) (fp : List Addr), PE (X.blk s H scope (compEnvC scope cl C X.env) fp) elt (lE X.K te)) (hs : ∀ x, foldedSetIterable iter X.env x = pure x := by intro _; rfl) :
    DE X (.ListComp elt [⟨tg, iter, ifs, 0⟩] scope pos) (dLcF it (own.map (·.2)) g tt te) := pe_mono (pe_fz (pe_lc hc hN hi ok hg ht he hs)) fun _ _ _ h => lcF_of h
end
/-- a statement that stores a new list under a name: the list is locked as soon as it is stored -/
theorem ps_fzSet {X : Cx} {st : Stmt} {i : Nat} {t : TE} (h : PS X st (tAsg t (gName i))) : PS X st (tAsg (tFrz t) (gName i)) := ⟨fun pins s σ H D I q => by
  refine thn (h.run pins s σ H { D with nx := fun σ' H1 => ∃ p xs, H1 p = some (.lst xs) ∧ ∀ od, D.nx σ' (upd H1 p (.frz od (.lst xs))) } I q) fun f s1 z => ?_
  cases f with
  | next =>
    obtain ⟨σ', H1, I1, p, xs, e, q1⟩ := z
    obtain ⟨od, I2⟩ := I1.lock e trivial
    exact ⟨σ', _, I2, q1 od⟩
  | ret v => exact z
  | brk => exact z
  | cont => exact z⟩
section
variable {X : Cx} {elt tg iter : Expr} {ifs : List Expr} {scope : Scope} {own : List (Str × Nat)} {it : DTI} {g : DTG} {tt : DTT} {te : DTE} {pos spos : Pos}
theorem ds_setLcF {i : Nat} {y : Str} {py : Pos} (hc : X.calm = true) (hN : X.N.Nodup) (hy : X.N[i]? = some y) (hyl : X.env.scope.names.lookup y = some .local)
    (hsw : swapsWith (.ListComp elt [⟨tg, iter, ifs, 0⟩] scope pos) (some (.Name y py)) spos.line X.env = pure true) (hi : DI X tg iter it) (ok : BlkOk X.N X.env.scope scope own)
    (hg : ∀ (s : Shared) (H : Hp) (C : Addr) (cl : List (Str × Addr)) (fp : List Addr), PG (X.blk s H scope (compEnvC scope cl C X.env) fp) tg (lGc X.K (own.map (·.2)) g))
    (ht : ∀ (s : Shared) (H : Hp) (C : Addr) (cl : List (Str × Addr)) (fp : List Addr), PTs (X.blk s H scope (compEnvC scope cl C X.env) fp) ifs (lT X.K tt))
    (he : ∀ (s : Shared) (H : Hp) (C : Addr) (cl : List (Str × Addr)) (fp : List Addr), PE (X.blk s H scope (compEnvC scope cl C X.env) fp) elt (lE X.K te)) (hs : ∀ x, foldedSetIterable iter X.env x = pure x := by intro _; rfl) :
    DSt X (.Assign [.Name y py] (.ListComp elt [⟨tg, iter, ifs, 0⟩] scope pos) spos) (dSet i (dLcF it (own.map (·.2)) g tt te)) :=
  ds_of (ps_fzSet (ps_setLc hc hN hy hyl hsw hi ok hg ht he hs)) fun D σ H σd Hd Dd rs rh q k1 _ _ _ => lcF_of ⟨σd, Hd, fun d H1 => Dd.nx (σd.set i (some d)) H1, rs, rh, q, fun v H1 d Hd1 s1 r1 rv q1 => k1 _ _ _ _ s1 r1 ((s1.repS rh rs).set i rv) q1⟩
end
section
variable {X : Cx} {a b e o : Expr} {es : List Expr} {ta tb te : DTE} {t : DTA} {x : Str} {p pos : Pos}
def fListF : DF := fun ds H Q => match ds with
  | [.tup xs] => Q (.lsv xs) H
  | [d] => seqL d H fun xs => Q (.lsv xs) H
  | _ => False
theorem de_listF (hg : Gl X x) (hm : X.mg x = none) (hv : bootBuiltins x = some (.type "list")) (ha : DA X (e :: es) t) (hn : x ≠ "__name__" := by decide) (hdb : (x == ("__debug__" : Str)) = false := by decide)
    (he : starEach (e :: es) X.env = (false, eval e X.env) :: starEach es X.env := by rfl) (hpl : (backTo pos (starEach es X.env)).any (·.1) = false := by rfl) : DE X (.Call (.Name x p) (e :: es) [] pos) (dFn fListF t) :=
  de_of (pe_fz (pe_callTy call_list_of hg hm hv ha hn hdb he hpl)) fun σ H Q σd Hd Qd rs rh q k => ⟨σd, Hd, _, rs, rh, q, fun vs H1 ds Hd1 s1 r1 rl q1 => by
    unfold fListF at q1
    split at q1
    · obtain ⟨v, rfl, r⟩ := len_one rl
      obtain ⟨a, ws, rfl, h, l⟩ := r
      exact ⟨a, ws, rfl, .inr h, fun p hp => fz_end (k.at s1) r1 hp l q1⟩
    · obtain ⟨v, rfl, r⟩ := len_one rl
      obtain ⟨a, ws, xs, rfl, h, l, q1⟩ := seqL_of r1 r q1
      exact ⟨a, ws, rfl, .inl h, fun p hp => fz_end (k.at s1) r1 hp l q1⟩
    · exact q1.elim⟩
def fSlF (d : Dv) (lo hi : Option Int) (H : DH) (Q : DVK) : Prop := match d with
  | .tup ds => Q (.tup (cutD ds lo hi)) H
  | .lsv ds => Q (.lsv (cutD ds lo hi)) H
  | .ref p => ∃ ds, H p = some (.lst ds) ∧ Q (.lsv (cutD ds lo hi)) H
  | _ => False
def dSlF (t : DTE) (tl th : DTO) : DTE := fun σ H Q => t σ H fun d H1 => tl σ H1 fun l H2 => th σ H2 fun u H3 => fSlF d l u H3 Q
theorem SlR.fz {r : V → Option Int → Option Int → Hp → VK → Prop} (h : SlR X r) : SlR X (fun x lo hi H Q => r x lo hi H fun v H1 => ∃ p xs, H1 p = some (.lst xs) ∧ ∀ od, Q v (upd H1 p (.frz od (.lst xs)))) := by
  intro pins s σ H x v vl vu lo hi sl Q I rx hs pl pu q
  obtain ⟨T, id', h1, h2, h3⟩ := h pins s σ H x v vl vu lo hi sl _ I rx hs pl pu q
  refine ⟨T, id', h1, h2, thn h3 fun u s1 ⟨z, H1, I1, r1, p, xs, e, q1⟩ => ?_⟩
  obtain ⟨od, I2⟩ := I1.lock e trivial
  exact ⟨z, _, I2, r1, q1 od⟩
theorem CallR.fz {f : Value} {r : List V → Hp → VK → Prop} (h : CallR X f r) : CallR X f (fun vs H Q => r vs H fun v H1 => ∃ p xs, H1 p = some (.lst xs) ∧ ∀ od, Q v (upd H1 p (.frz od (.lst xs)))) := by
  intro pins s σ H vs us Q I r1 q
  refine thn (h pins s σ H vs us _ I r1 q) fun u s1 ⟨z, H1, I1, r2, p, xs, e, q1⟩ => ?_
  obtain ⟨od, I2⟩ := I1.lock e trivial
  exact ⟨z, _, I2, r2, q1 od⟩
theorem OpR.fz {f : Value → Value → Sem Value} {r : R2} (h : OpR X f r) : OpR X f (fun x y H Q => r x y H fun v H1 => ∃ p xs, H1 p = some (.lst xs) ∧ ∀ od, Q v (upd H1 p (.frz od (.lst xs)))) := by
  intro pins s σ H x y v u Q I rx ry q
  refine thn (h pins s σ H x y v u _ I rx ry q) fun u s1 ⟨z, H1, I1, r2, p, xs, e, q1⟩ => ?_
  obtain ⟨od, I2⟩ := I1.lock e trivial
  exact ⟨z, _, I2, r2, q1 od⟩
theorem de_sliceF {lo hi : Option Expr} {tl th : DTO} {p2 : Pos} (he : DE X e ta) (hl : DOp X lo tl) (hu : DOp X hi th) : DE X (.Subscript e (.Slice lo hi none p2) pos) (dSlF ta tl th) :=
  de_of (pe_slice (SlR.or sl_tupA (SlR.fz sl_list)) he hl hu) fun σ H Q σd Hd Qd rs rh q k => ⟨σd, Hd, _, rs, rh, q, fun v H1 d Hd1 s1 r1 rv q1 =>
    ⟨σd, Hd1, _, s1.repS rh rs, r1, q1, fun l H2 Hd2 s2 r2 q2 => ⟨σd, Hd2, _, (s1.trans s2).repS rh rs, r2, q2, fun u H3 Hd3 s3 r3 q3 => by
      have st := (s1.trans s2).trans s3
      have rv3 := (s2.trans s3).rep r1 rv
      unfold fSlF at q3
      split at q3
      · obtain ⟨p, vs, rfl, h, w⟩ := rv3
        refine .inl ⟨p, vs, rfl, h, fun z => ?_, fun _ r hr => ?_⟩
        · refine k _ _ (.tup _) Hd3 st r3 ⟨p, vs, rfl, h, ?_⟩ q3
          unfold cutD
          rw [w.length, z.1, z.2, List.drop_zero, Nat.sub_zero, ← w.length, List.take_length]
          exact w
        · exact k _ _ (.tup _) Hd3 (st.trans (.lay hr)) (r3.lay hr) ⟨r, _, rfl, .of upd_same, (Stp.lay (Hd := Hd3) hr).repL r3 (w.cut l u)⟩ q3
      · obtain ⟨p, vs, rfl, h, w⟩ := rv3
        exact .inr ⟨p, vs, rfl, h.sq, fun r hr => fz_end (k.at st) r3 hr (w.cut l u) q3⟩
      · obtain ⟨ds, h, q3⟩ := q3
        obtain ⟨vs, e, w⟩ := r3 _ _ h
        exact .inr ⟨_, vs, rv3, .of e, fun r hr => fz_end (k.at st) r3 hr (w.cut l u) q3⟩
      · exact q3.elim⟩⟩⟩
/-- list * int, locked -/
def fMulF : D2 := fun x y H Q => match x, y with
  | .int i, .int j => CMulW i j ∧ Q (.int (i * j)) H
  | .tup xs, .int k => xs ≠ [] ∧ 2 ≤ k ∧ xs.length * k.toNat ≤ sizeLine ∧ Q (.tup (List.replicate k.toNat xs).flatten) H
  | .ref p, .int k => ∃ xs, H p = some (.lst xs) ∧ -(2 ^ 63) ≤ k ∧ k < 2 ^ 63 ∧ xs.length * k.toNat ≤ sizeLine ∧ Q (.lsv (List.replicate k.toNat xs).flatten) H
  | _, _ => False
abbrev rMulF (K : PySem.W.Frag) : R2 := fun x y H Q => rI CMulW (fun i j => .int (i * j)) x y H Q ∨ (rTimesT K x y H Q ∨ rRep x y H fun v H1 => ∃ p xs, H1 p = some (.lst xs) ∧ ∀ od, Q v (upd H1 p (.frz od (.lst xs))))
theorem op_mulF : OpR X (binaryOp .Mult) (rMulF X.K) := OpR.or op_mulW (OpR.or op_timesT (OpR.fz op_rep))
theorem ok_mulF : R2Ok X.K (rMulF X.K) fMulF := by
  intro H Hd x y dx dy Q Qd rh rx ry q k
  unfold fMulF at q
  split at q
  · exact .inl ⟨_, _, rx, ry, q.1, k _ H (.int _) Hd .refl rh rfl q.2⟩
  · rename_i xs n
    obtain ⟨p, vs, rfl, hx, lx⟩ := rx
    obtain ⟨q1, q2, q3, q4⟩ := q
    refine .inr (.inl ⟨p, n, vs, rfl, ry, hx, fun e => q1 (List.eq_nil_of_length_eq_zero (by rw [lx.length, e]; rfl)), q2, by rw [← lx.length]; exact q3, fun r hr => ?_⟩)
    exact k _ _ (.tup _) Hd (.lay hr) (rh.lay hr) ⟨r, _, rfl, .of upd_same, (Stp.lay (Hd := Hd) hr).repL rh (lx.rep n.toNat)⟩ q4
  · rename_i p n
    obtain ⟨xs, h1, q1, q2, q3, q4⟩ := q
    obtain ⟨vs, e1, l1⟩ := rh _ _ h1
    exact .inr (.inr ⟨p, n, vs, rx, ry, e1, q1, q2, by rw [← l1.length]; exact q3, fun r hr => fz_end k rh hr (l1.rep n.toNat) q4⟩)
  · exact q.elim
theorem de_mulF {a b : Expr} {ta tb : DTE} (ha : DE X a ta) (hb : DE X b tb) : DE X (.BinOp a .Mult b pos) (dOp fMulF ta tb) := de_op op_mulF ok_mulF ha hb
/-! str(..) -/
def lRC (K : PySem.W.Frag) (f : DF) : List V → Hp → VK → Prop := fun vs H Q => ∃ ds Hd Qd, RepH K H Hd ∧ RepL K H ds vs ∧ f ds Hd Qd ∧ KE K H Hd Qd Q
theorem lRC_ok {K : PySem.W.Frag} {f : DF} : CallOk K (lRC K f) f := fun H Hd vs ds Q Qd rh rl q k => ⟨ds, Hd, Qd, rh, rl, q, k⟩
def fStr : DF := fun ds H Q => match ds with
  | [.int i] => i.natAbs.log2 < 1920 ∧ Q (.str (toString i)) H
  | [.bl b] => Q (.str (if b then "True" else "False")) H
  | [.non] => Q (.str "None") H
  | [.str x] => Q (.str x) H
  | _ => False
theorem call_strA : CallR X (.type "str") (lRC X.K fStr) := by
  intro pins s σ H vs us Q I r1 ⟨ds, Hd, Qd, rh, rl, q, k⟩
  have fin : ∀ (s' : Shared) (x : Str) (t : Tok), Inv X pins σ H s' → Qd (.str x) Hd → EP X pins σ Q (.str x t) s' := fun s' x t I' z => ⟨.str x, H, I', ⟨t, rfl⟩, k _ H (.str x) Hd .refl rh rfl z⟩
  unfold fStr at q
  split at q
  · obtain ⟨v, rfl, r⟩ := len_one rl
    cases (show v = _ from r)
    obtain ⟨u, rfl, t, rfl⟩ := vals1 r1
    exact PySem.P.str_of_int q.1 (fin _ _ _ (I.tok _) q.2)
  · obtain ⟨v, rfl, r⟩ := len_one rl
    cases (show v = _ from r)
    obtain ⟨u, rfl, r2⟩ := vals1 r1
    cases r2
    refine PySem.P.str_of_bool (fin _ _ _ (I.tok _) ?_)
    rename_i b
    cases b <;> exact q
  · obtain ⟨v, rfl, r⟩ := len_one rl
    cases (show v = _ from r)
    obtain ⟨u, rfl, r2⟩ := vals1 r1
    cases r2
    exact PySem.P.str_of_none (fin _ _ _ (I.tok _) q)
  · obtain ⟨v, rfl, r⟩ := len_one rl
    cases (show v = _ from r)
    obtain ⟨u, rfl, t, rfl⟩ := vals1 r1
    exact PySem.P.str_of_str (fin _ _ _ I q)
  · exact q.elim
theorem ok_str {K : PySem.W.Frag} : CallOk K (lRC K fStr) fStr := lRC_ok
end
end DL

set_option maxHeartbeats 4000000
namespace DL
open PySem PySem.Spec L2
open PyProof.Rows hiding St
/-! ## kinds -/
theorem isI_bool_non : isI "bool" (Dv.non) = false := by simp [isI]
theorem isI_bool_bl {b : Bool} : isI "bool" (Dv.bl b) = true := by simp [isI]
theorem isI_bool_int {i : Int} : isI "bool" (Dv.int i) = false := by simp [isI]
theorem isI_bool_str {x : Str} : isI "bool" (Dv.str x) = false := by simp [isI]
theorem isI_bool_tup {ds : List Dv} : isI "bool" (Dv.tup ds) = false := by simp [isI]
theorem isI_bool_lsv {ds : List Dv} : isI "bool" (Dv.lsv ds) = false := by simp [isI]
theorem isI_bool_ref {a : Addr} : isI "bool" (Dv.ref a) = false := by simp [isI]
theorem isI_int_non : isI "int" (Dv.non) = false := by simp [isI]
theorem isI_int_bl {b : Bool} : isI "int" (Dv.bl b) = true := by simp [isI]
theorem isI_int_int {i : Int} : isI "int" (Dv.int i) = true := by simp [isI]
theorem isI_int_str {x : Str} : isI "int" (Dv.str x) = false := by simp [isI]
theorem isI_int_tup {ds : List Dv} : isI "int" (Dv.tup ds) = false := by simp [isI]
theorem isI_int_lsv {ds : List Dv} : isI "int" (Dv.lsv ds) = false := by simp [isI]
theorem isI_int_ref {a : Addr} : isI "int" (Dv.ref a) = false := by simp [isI]
theorem isI_str_non : isI "str" (Dv.non) = false := by simp [isI]
theorem isI_str_bl {b : Bool} : isI "str" (Dv.bl b) = false := by simp [isI]
theorem isI_str_int {i : Int} : isI "str" (Dv.int i) = false := by simp [isI]
theorem isI_str_str {x : Str} : isI "str" (Dv.str x) = true := by simp [isI]
theorem isI_str_tup {ds : List Dv} : isI "str" (Dv.tup ds) = false := by simp [isI]
theorem isI_str_lsv {ds : List Dv} : isI "str" (Dv.lsv ds) = false := by simp [isI]
theorem isI_str_ref {a : Addr} : isI "str" (Dv.ref a) = false := by simp [isI]
theorem isI_tuple_non : isI "tuple" (Dv.non) = false := by simp [isI]
theorem isI_tuple_bl {b : Bool} : isI "tuple" (Dv.bl b) = false := by simp [isI]
theorem isI_tuple_int {i : Int} : isI "tuple" (Dv.int i) = false := by simp [isI]
theorem isI_tuple_str {x : Str} : isI "tuple" (Dv.str x) = false := by simp [isI]
theorem isI_tuple_tup {ds : List Dv} : isI "tuple" (Dv.tup ds) = true := by simp [isI]
theorem isI_tuple_lsv {ds : List Dv} : isI "tuple" (Dv.lsv ds) = false := by simp [isI]
theorem isI_tuple_ref {a : Addr} : isI "tuple" (Dv.ref a) = false := by simp [isI]
theorem isI_list_non : isI "list" (Dv.non) = false := by simp [isI]
theorem isI_list_bl {b : Bool} : isI "list" (Dv.bl b) = false := by simp [isI]
theorem isI_list_int {i : Int} : isI "list" (Dv.int i) = false := by simp [isI]
theorem isI_list_str {x : Str} : isI "list" (Dv.str x) = false := by simp [isI]
theorem isI_list_tup {ds : List Dv} : isI "list" (Dv.tup ds) = false := by simp [isI]
theorem isI_list_lsv {ds : List Dv} : isI "list" (Dv.lsv ds) = true := by simp [isI]
theorem isI_list_ref {a : Addr} : isI "list" (Dv.ref a) = true := by simp [isI]
/-! ## isinstance by kind -/
inductive Kd where
  | bool | int | str | tup | list
def Kd.ty : Kd → String
  | .bool => "bool"
  | .int => "int"
  | .str => "str"
  | .tup => "tuple"
  | .list => "list"
def isK : Kd → Dv → Bool
  | .bool, .bl _ => true
  | .int, .bl _ => true
  | .int, .int _ => true
  | .str, .str _ => true
  | .tup, .tup _ => true
  | .list, .lsv _ => true
  | .list, .ref _ => true
  | _, _ => false
def okK (d : Dv) (H : DH) : Prop := match d with
  | .ref a => ∃ xs, H a = some (.lst xs)
  | .ty _ => False
  | _ => True
def dIs (k : Kd) (te : DTE) : DTE := fun σ H Q => te σ H fun d H1 => okK d H1 ∧ Q (.bl (isK k d)) H1
theorem isI_isK (k : Kd) (d : Dv) : isI k.ty d = isK k d := by
  cases k <;> cases d <;> simp [isI, Kd.ty, isK]
theorem dIs_eq (k : Kd) (te : DTE) : dIs k te = dFn fIsi (dCons te (dCons (dC (.ty k.ty)) dNil)) := by
  funext σ H Q
  show te σ H _ = te σ H _
  congr 1
  funext d H1
  have hk : (k.ty == "bool" || k.ty == "int" || k.ty == "str" || k.ty == "tuple" || k.ty == "list") = true := by cases k <;> decide +kernel
  show (okK d H1 ∧ Q (.bl (isK k d)) H1) = fIsi [d, .ty k.ty] H1 Q
  rw [← isI_isK]
  unfold fIsi okK
  cases d <;> simp [hk]
theorem de_isi {X : Cx} {a b : Expr} {p pos : Pos} {te : DTE} (k : Kd) (hg : Gl X "isinstance") (hm : X.mg "isinstance" = none) (ha : DE X a te) (hb : DE X b (dC (.ty k.ty)))
    (he : starEach [a, b] X.env = (false, eval a X.env) :: starEach [b] X.env := by rfl) (hpl : (backTo pos (starEach [b] X.env)).any (·.1) = false := by rfl) (hs : starEach [b] X.env = (false, eval b X.env) :: starEach [] X.env := by rfl) : DE X (.Call (.Name "isinstance" p) [a, b] [] pos) (dIs k te) := by
  rw [dIs_eq]
  exact de_callB call_isi ok_isi hg hm (by decide +kernel) (da_cons ha (da_cons hb da_nil hs) he) (by decide) (by decide) he hpl
/-! ## places -/
theorem atI_0 {α : Type} {a : α} {xs : List α} : atI (a :: xs) 0 = some a := by
  unfold atI ixN
  rw [if_pos (Int.le_refl 0), if_pos (by rw [List.length_cons]; omega)]; rfl
theorem atI_1 {α : Type} {a b : α} {xs : List α} : atI (a :: b :: xs) 1 = some b := by
  unfold atI ixN
  rw [if_pos (by decide), if_pos (by rw [List.length_cons, List.length_cons]; omega)]; rfl
theorem atI_2 {α : Type} {a b c : α} {xs : List α} : atI (a :: b :: c :: xs) 2 = some c := by
  unfold atI ixN
  rw [if_pos (by decide), if_pos (by rw [List.length_cons, List.length_cons, List.length_cons]; omega)]; rfl
theorem atI_3 {α : Type} {a b c d : α} {xs : List α} : atI (a :: b :: c :: d :: xs) 3 = some d := by
  unfold atI ixN
  rw [if_pos (by decide), if_pos (by rw [List.length_cons, List.length_cons, List.length_cons, List.length_cons]; omega)]; rfl
theorem atI_at {α : Type} {xs : List α} {i : Nat} : atI xs (i : Int) = xs[i]? := by
  unfold atI ixN
  rw [if_pos (by omega)]
  by_cases h : i < xs.length
  · rw [if_pos (by omega)]; rfl
  · rw [if_neg (by omega), List.getElem?_eq_none (by omega)]; rfl
theorem atI_nth {xs : List Dv} {i : Int} (h : 0 ≤ i) (h' : i.toNat < xs.length) : atI xs i = some (nth xs i.toNat) := by
  have e : i = (i.toNat : Int) := by omega
  rw [e, atI_at]
  exact nth_at h'
/-! ## data without addresses -/
mutual
def pureD : Dv → Bool
  | .ref _ => false
  | .dcv _ _ => false
  | .ty _ => false
  | .tup ds => pureL ds
  | .lsv ds => pureL ds
  | _ => true
def pureL : List Dv → Bool
  | [] => true
  | d :: ds => pureD d && pureL ds
end
theorem pureL_all : ∀ ds : List Dv, pureL ds = ds.all pureD
  | [] => rfl
  | d :: ds => by rw [pureL, List.all_cons, pureL_all ds]
theorem pureD_ok {d : Dv} (h : pureD d = true) : okS d = true := by
  cases d <;> first | rfl | cases h
theorem pureL_mem {ds : List Dv} (h : pureL ds = true) {d : Dv} (m : d ∈ ds) : pureD d = true := by
  rw [pureL_all] at h
  exact List.all_eq_true.mp h d m
theorem pureL_nth {ds : List Dv} (h : pureL ds = true) {i : Nat} (hi : i < ds.length) : pureD (nth ds i) = true :=
  pureL_mem h (List.mem_of_getElem? (nth_at hi))
theorem pureL_append {ds es : List Dv} : pureL (ds ++ es) = (pureL ds && pureL es) := by
  rw [pureL_all, pureL_all, pureL_all, List.all_append]
theorem pureL_sub {ds es : List Dv} (h : pureL ds = true) (s : ∀ d ∈ es, d ∈ ds) : pureL es = true := by
  rw [pureL_all, List.all_eq_true]
  exact fun d m => pureL_mem h (s d m)
theorem pureL_cut {ds : List Dv} (h : pureL ds = true) (lo hi : Option Int) : pureL (cutD ds lo hi) = true :=
  pureL_sub h fun d m => List.mem_of_mem_drop (List.mem_of_mem_take m)
theorem pureL_ints (ns : List Int) : pureL (ns.map .int) = true := by
  rw [pureL_all, List.all_eq_true]
  intro d m
  obtain ⟨n, _, rfl⟩ := List.mem_map.mp m
  rfl
theorem fIsi_ok {d : Dv} {n : String} {H : DH} {Q : DVK} (h : okS d = true) (hn : (n == "bool" || n == "int" || n == "str" || n == "tuple" || n == "list") = true) : fIsi [d, .ty n] H Q = Q (.bl (isI n d)) H := by
  unfold fIsi
  cases d <;> first | exact propext ⟨fun q => q.2, fun q => ⟨hn, q⟩⟩ | cases h
theorem fIsi_int {d : Dv} {H : DH} {Q : DVK} (h : okS d = true) : fIsi [d, .ty "int"] H Q = Q (.bl (isI "int" d)) H := fIsi_ok h (by decide +kernel)
theorem fIsi_bool {d : Dv} {H : DH} {Q : DVK} (h : okS d = true) : fIsi [d, .ty "bool"] H Q = Q (.bl (isI "bool" d)) H := fIsi_ok h (by decide +kernel)
theorem fIsi_str {d : Dv} {H : DH} {Q : DVK} (h : okS d = true) : fIsi [d, .ty "str"] H Q = Q (.bl (isI "str" d)) H := fIsi_ok h (by decide +kernel)
theorem fIsi_tup {d : Dv} {H : DH} {Q : DVK} (h : okS d = true) : fIsi [d, .ty "tuple"] H Q = Q (.bl (isI "tuple" d)) H := fIsi_ok h (by decide +kernel)
theorem fIsi_list {d : Dv} {H : DH} {Q : DVK} (h : okS d = true) : fIsi [d, .ty "list"] H Q = Q (.bl (isI "list" d)) H := fIsi_ok h (by decide +kernel)
theorem startD1 {a : Dv} : startD 1 [a] = [some a] := rfl
theorem okK_of {d : Dv} {H : DH} (h : okS d = true) : okK d H := by cases d <;> first | trivial | cases h
/-! reading step by step -/
section
variable {D : DEnds} {σ : DS} {H : DH} {t u : DTS} {c : DTT}
theorem rd_seq (h : t { D with nx := u D } σ H) : dSeq t u D σ H := h
theorem rd_out {Q : DVK} {d : Dv} {H : DH} (q : Q d H) : (outD Q).rt d H := ⟨H, .refl H, q⟩
theorem rd_bl {Q : DVK} {b : Bool} {H : DH} (q : Q (.bl b) H) : ∀ c, c = b → (outD Q).rt (.bl c) H := fun c e => by rw [e]; exact rd_out q
theorem rd_outN {Q : DVK} {σ : DS} {H : DH} (q : Q .non H) : (outD Q).nx σ H := ⟨H, .refl H, q⟩
/-- a test without effect -/
theorem rd_if (b : Bool) (h : ∀ Q : Bool → DH → Prop, Q b H → c σ H Q) (h1 : b = true → t D σ H) (h2 : b = false → u D σ H) : dIf c t u D σ H := h _ ⟨h1, h2⟩
theorem rd_cut (M : DS → DH → Prop) (h : t { D with nx := M } σ H) (h' : ∀ σ' H', M σ' H' → u D σ' H') : dCut t u D σ H := ⟨M, h, h'⟩
end
end DL

set_option maxHeartbeats 4000000
namespace DL
open PySem PySem.Spec L2
open PyProof.Rows hiding St
/-! ## the script comes in -/
theorem end_sp {K : PySem.W.Frag} {sp : DSp} (h : ∀ ns : List Int, ns.length ≤ 63 → sp [.lsv (ns.map .int)] (fun _ => none) fun d _ => d = .bl true) {H : Hp} {a : Addr} {ns : List Int} (hl : ns.length ≤ 63) (hO : Only H) (hS : SqL K H a (ns.map V.int)) : lSp K sp [.ref a] H (fun v _ => v = .bl true) fun _ _ _ => False := by
  have fx : FxL K H a (ns.map V.int) := by
    rcases hS with (h1 | h1) | h1
    · rcases hO a with z | ⟨o, xs, z⟩
      · rw [h1] at z; cases z
      · rw [h1] at z; cases z
    · exact .inl h1
    · exact .inr h1
  refine ⟨[.lsv (ns.map .int)], fun _ => none, fun d _ => d = .bl true, ⟨_, [], rfl, ⟨a, _, rfl, fx, .ints ns⟩, rfl⟩, (fun _ _ e => nomatch e), h ns hl, fun v H' d Hd' _ _ r e => ?_⟩
  subst e
  exact r
end DL

set_option maxHeartbeats 4000000
namespace DL
open PySem PySem.Spec L2
open PyProof.Rows hiding St
/-! ## dicts by value: keys and values side by side -/
def keyD : Dv → Option Key
  | .int i => some (.inl i)
  | .str x => some (.inr x)
  | _ => none
def kD : Key → Dv
  | .inl i => .int i
  | .inr x => .str x
theorem keyD_rep {K : PySem.W.Frag} {H : Hp} {d : Dv} {v : V} {k : Key} (h : keyD d = some k) (r : Rep K H d v) : v = kV k := by
  cases d <;> simp only [keyD, Option.some.injEq, reduceCtorEq] at h <;> (subst h; exact r)
theorem kD_rep {K : PySem.W.Frag} {H : Hp} (k : Key) : Rep K H (kD k) (kV k) := by cases k <;> rfl
def getK : List Key → List Dv → Key → Option Dv
  | k :: ks, d :: ds, x => if k = x then some d else getK ks ds x
  | _, _, _ => none
def replK : List Key → List Dv → Key → Dv → List Dv
  | k :: ks, d :: ds, x, y => (if k = x then y else d) :: replK ks ds x y
  | _, _, _, _ => []
/-- the keys and the values behind d[x] = y -/
def hasK (ks : List Key) (x : Key) : Bool := ks.any fun k => decide (k = x)
def putKs (ks : List Key) (x : Key) : List Key := if hasK ks x = true then ks else ks ++ [x]
def putDs (ks : List Key) (ds : List Dv) (x : Key) (y : Dv) : List Dv := if hasK ks x = true then replK ks ds x y else ds ++ [y]
section
variable {K : PySem.W.Frag} {H : Hp}
theorem getK_of : ∀ {kvs : List (Key × V)} {ks : List Key} {ds : List Dv}, kvs.map (·.1) = ks → RepL K H ds (kvs.map (·.2)) → ∀ x : Key, (∀ d, getK ks ds x = some d → ∃ v, valV kvs x = some v ∧ Rep K H d v) ∧ (getK ks ds x = none → valV kvs x = none)
  | [], ks, ds, e, l, x => by
    subst e
    exact ⟨fun d h => by simp [getK] at h, fun _ => rfl⟩
  | (k, v) :: kvs, ks, [], e, l, x => by
    have l' : v :: kvs.map (·.2) = [] := l
    cases l'
  | (k, v) :: kvs, ks, d :: ds, e, l, x => by
    subst e
    obtain ⟨v', t, e1, r1, r2⟩ := l
    have e1' : v :: kvs.map (·.2) = v' :: t := e1
    cases e1'
    obtain ⟨i1, i2⟩ := getK_of (kvs := kvs) rfl r2 x
    show (∀ d', (if k = x then some d else getK (kvs.map (·.1)) ds x) = some d' → _) ∧ ((if k = x then some d else getK (kvs.map (·.1)) ds x) = none → _)
    by_cases h : k = x
    · rw [if_pos h, valV_pos (p := (k, v)) (r := kvs) h]
      exact ⟨fun d' z => ⟨v, rfl, by cases z; exact r1⟩, fun z => nomatch z⟩
    · rw [if_neg h, valV_neg (p := (k, v)) (r := kvs) h]
      exact ⟨i1, i2⟩
theorem any_has (x : Key) (kvs : List (Key × V)) : (kvs.any fun kv => decide (kv.1 = x)) = hasK (kvs.map (·.1)) x := by
  unfold hasK
  rw [List.any_map]; rfl
theorem repl_of (x : Key) {y : Dv} {v : V} (r : Rep K H y v) : ∀ {kvs : List (Key × V)} {ds : List Dv}, RepL K H ds (kvs.map (·.2)) → RepL K H (replK (kvs.map (·.1)) ds x y) ((kvs.map fun kv => if kv.1 = x then (kv.1, v) else kv).map (·.2))
  | [], ds, l => by
    have : ds = [] := List.eq_nil_of_length_eq_zero l.length
    subst this; exact rfl
  | (k, u) :: kvs, [], l => by
    have l' : u :: kvs.map (·.2) = [] := l
    cases l'
  | (k, u) :: kvs, d :: ds, l => by
    obtain ⟨v', t, e1, r1, r2⟩ := l
    have e1' : u :: kvs.map (·.2) = v' :: t := e1
    cases e1'
    have ih := repl_of x r r2
    show RepL K H ((if k = x then y else d) :: replK (kvs.map (·.1)) ds x y) _
    by_cases h : k = x
    · simp only [List.map_cons, h, if_true]
      exact ⟨_, _, rfl, r, ih⟩
    · simp only [List.map_cons, h, if_false]
      exact ⟨_, _, rfl, r1, ih⟩
theorem repl_keys (x : Key) (v : V) : ∀ kvs : List (Key × V), (kvs.map fun kv => if kv.1 = x then (kv.1, v) else kv).map (·.1) = kvs.map (·.1)
  | [] => rfl
  | (k, u) :: kvs => by
    have ih := repl_keys x v kvs
    rw [List.map_cons, List.map_cons, List.map_cons, ih]
    by_cases h : k = x <;> simp [h]
theorem putK_of {kvs : List (Key × V)} {ks : List Key} {ds : List Dv} (e : kvs.map (·.1) = ks) (l : RepL K H ds (kvs.map (·.2))) (x : Key) {y : Dv} {v : V} (r : Rep K H y v) :
    (putK kvs x v).map (·.1) = putKs ks x ∧ RepL K H (putDs ks ds x y) ((putK kvs x v).map (·.2)) := by
  subst e
  unfold putK putKs putDs
  rw [any_has x kvs]
  by_cases h : hasK (kvs.map (·.1)) x = true
  · rw [if_pos h, if_pos h, if_pos h]
    exact ⟨repl_keys x v kvs, repl_of x r l⟩
  · rw [if_neg h, if_neg h, if_neg h, List.map_append, List.map_append]
    exact ⟨rfl, l.append (.one r)⟩
end
section
variable {X : Cx} {o i a b e f : Expr} {ta tb tc : DTE} {pos apos cpos : Pos}
/-- the dict that a value is -/
def dicD (d : Dv) (H : DH) (k : List Key → List Dv → Prop) : Prop := match d with
  | .dcv ks ds => k ks ds
  | .ref p => ∃ ks ds, H p = some (.dic ks ds) ∧ k ks ds
  | _ => False
theorem dicD_of {K : PySem.W.Frag} {H : Hp} {Hd : DH} {d : Dv} {v : V} {k : List Key → List Dv → Prop} (rh : RepH K H Hd) (r : Rep K H d v) (q : dicD d Hd k) : ∃ p kvs ks ds, v = .ref p ∧ Rd H p (.dK kvs) ∧ kvs.map (·.1) = ks ∧ RepL K H ds (kvs.map (·.2)) ∧ k ks ds := by
  unfold dicD at q
  split at q
  · obtain ⟨p, vs, rfl, ⟨o, kvs, h, e1, e2⟩, l⟩ := r
    subst e2
    exact ⟨p, kvs, _, _, rfl, .inr ⟨o, h⟩, e1, l, q⟩
  · obtain ⟨ks, ds, h, q⟩ := q
    obtain ⟨kvs, h2, e1, l⟩ := rh _ _ h
    exact ⟨_, kvs, ks, ds, r, .inl h2, e1, l, q⟩
  · exact q.elim
/-- d[k] -/
def fDx : D2 := fun x y H Q => dicD x H fun ks ds => ∃ k d, keyD y = some k ∧ getK ks ds k = some d ∧ Q d H
theorem dget_of {K : PySem.W.Frag} {H : Hp} {p : Addr} {kvs : List (Key × V)} {k : Key} {v : V} (h : Rd H p (.dK kvs)) (e : valV kvs k = some v) : DGet H p (kV k) (some v) := .inl ⟨kvs, k, h, rfl, e.symm⟩
theorem de_dx (hu : X.A.units + 1 < cLine) (ho : DE X o ta) (hi : DE X i tb) (hs : NoSl i) : DE X (.Subscript o i pos) (dOp fDx ta tb) :=
  pe_mono (pe_dget hu ho hi hs) fun σ H Q h => op2 (r := fun x y H Q => ∃ a v, x = .ref a ∧ DGet H a y (some v) ∧ Q v H) (by
    intro H Hd x y dx dy Q Qd rh rx ry q k
    obtain ⟨p, kvs, ks, ds, rfl, h, e1, l, kk, d, ek, eg, q⟩ := dicD_of rh rx q
    obtain ⟨v, ev, rv⟩ := (getK_of e1 l kk).1 d eg
    rw [keyD_rep ek ry]
    exact ⟨p, v, rfl, dget_of (K := X.K) h ev, k v H d Hd .refl rh rv q⟩) h
/-- k in d -/
def fDIn (g : Bool → Bool) : D2 := fun x y H Q => dicD y H fun ks ds => ∃ k, keyD x = some k ∧ Q (.bl (g (hasK ks k))) H
theorem val_some {kvs : List (Key × V)} {ks : List Key} (e : kvs.map (·.1) = ks) (k : Key) : (valV kvs k).isSome = hasK ks k := by
  rw [← valV_any, any_has, e]
theorem op_din (hu : X.A.units + 1 < cLine) : OpR X (compareOp .In) (lR X.K (fDIn fun k => k)) := by
  intro pins s σ H x y v u Q I rx ry ⟨dx, dy, Hd, Qd, rh, px, py, q, k⟩
  obtain ⟨p, kvs, ks, ds, rfl, h, e1, l, kk, ek, q⟩ := dicD_of rh py q
  cases (show u = Value.ref p from ry)
  rw [keyD_rep ek px] at rx
  exact d_in hu I (.inl ⟨kvs, kk, h, rfl, rfl⟩) rx fun s' I' => ⟨.bl _, H, I', rfl, by rw [val_some e1]; exact k _ H (.bl _) Hd .refl rh rfl q⟩
theorem op_dnotIn (hu : X.A.units + 1 < cLine) : OpR X (compareOp .NotIn) (lR X.K (fDIn fun k => !k)) := by
  intro pins s σ H x y v u Q I rx ry ⟨dx, dy, Hd, Qd, rh, px, py, q, k⟩
  obtain ⟨p, kvs, ks, ds, rfl, h, e1, l, kk, ek, q⟩ := dicD_of rh py q
  cases (show u = Value.ref p from ry)
  rw [keyD_rep ek px] at rx
  exact d_notIn hu I (.inl ⟨kvs, kk, h, rfl, rfl⟩) rx fun s' I' => ⟨.bl _, H, I', rfl, by rw [val_some e1]; exact k _ H (.bl _) Hd .refl rh rfl q⟩
abbrev fDInA : D2 := fDIn fun k => k
abbrev fDNotInA : D2 := fDIn fun k => !k
theorem c_din (hu : X.A.units + 64 < cLine) : CmpOk X .In fDInA := ⟨_, op_din (by omega), lR_ok⟩
theorem c_dnotIn (hu : X.A.units + 64 < cLine) : CmpOk X .NotIn fDNotInA := ⟨_, op_dnotIn (by omega), lR_ok⟩
/-- d.get(k), d.get(k, x) -/
theorem isD_rep {K : PySem.W.Frag} {H : Hp} {p : Addr} {kvs : List (Key × V)} (h : Rd H p (.dK kvs)) : IsD H p := .inl ⟨kvs, h⟩
def dGet1 (td ty : DTE) : DTE := fun σ H Q => td σ H fun d H1 => (dicD d H1 fun _ _ => True) ∧ ty σ H1 fun y H2 => dicD d H2 fun ks ds => ∃ k, keyD y = some k ∧ Q ((getK ks ds k).getD .non) H2
def dGet2 (td ty tx : DTE) : DTE := fun σ H Q => td σ H fun d H1 => (dicD d H1 fun _ _ => True) ∧ ty σ H1 fun y H2 => tx σ H2 fun z H3 => dicD d H3 fun ks ds => ∃ k, keyD y = some k ∧ Q ((getK ks ds k).getD z) H3
theorem rep_getD {K : PySem.W.Frag} {H : Hp} {kvs : List (Key × V)} {ks : List Key} {ds : List Dv} (e : kvs.map (·.1) = ks) (l : RepL K H ds (kvs.map (·.2))) (k : Key) {z : Dv} {w : V} (r : Rep K H z w) : Rep K H ((getK ks ds k).getD z) ((valV kvs k).getD w) := by
  obtain ⟨g1, g2⟩ := getK_of e l k
  cases h : getK ks ds k with
  | none => rw [g2 h]; exact r
  | some d =>
    obtain ⟨v, ev, rv⟩ := g1 d h
    rw [ev]; exact rv
theorem de_get1 (hu : X.A.units + 1 < cLine) (ho : DE X o ta) (he : DE X e tb) (m : M1 X o "get" apos e cpos) : DE X (.Call (.Attribute o "get" apos) [e] [] cpos) (dGet1 ta tb) :=
  de_of (pe_dget1 hu ho he m) fun σ H Q σd Hd Qd rs rh q k => ⟨σd, Hd, _, rs, rh, q, fun v H1 d Hd1 s1 r1 rv ⟨q0, q1⟩ => by
    obtain ⟨p, kvs, ks, ds, rfl, h, e1, l, _⟩ := dicD_of r1 rv q0
    refine ⟨p, rfl, .inl ⟨kvs, h⟩, σd, Hd1, _, s1.repS rh rs, r1, q1, fun y H2 dy Hd2 s2 r2 ry q2 => ?_⟩
    obtain ⟨p', kvs', ks', ds', ep, h', e1', l', kk, ek, q3⟩ := dicD_of r2 (s2.rep r1 rv) q2
    cases ep
    rw [keyD_rep ek ry]
    exact ⟨valV kvs' kk, .inl ⟨kvs', kk, h', rfl, rfl⟩, k _ H2 _ Hd2 (s1.trans s2) r2 (rep_getD e1' l' kk (z := .non) (w := .non) rfl) q3⟩⟩
theorem de_get2 (hu : X.A.units + 1 < cLine) (ho : DE X o ta) (he : DE X e tb) (hf : DE X f tc) (m : M2 X o "get" apos e f cpos) : DE X (.Call (.Attribute o "get" apos) [e, f] [] cpos) (dGet2 ta tb tc) :=
  de_of (pe_dget2 hu ho he hf m) fun σ H Q σd Hd Qd rs rh q k => ⟨σd, Hd, _, rs, rh, q, fun v H1 d Hd1 s1 r1 rv ⟨q0, q1⟩ => by
    obtain ⟨p, kvs, ks, ds, rfl, h, e1, l, _⟩ := dicD_of r1 rv q0
    refine ⟨p, rfl, .inl ⟨kvs, h⟩, σd, Hd1, _, s1.repS rh rs, r1, q1, fun y H2 dy Hd2 s2 r2 ry q2 => ⟨σd, Hd2, _, (s1.trans s2).repS rh rs, r2, q2, fun z H3 dz Hd3 s3 r3 rz q3 => ?_⟩⟩
    obtain ⟨p', kvs', ks', ds', ep, h', e1', l', kk, ek, q4⟩ := dicD_of r3 ((s2.trans s3).rep r1 rv) q3
    cases ep
    rw [keyD_rep ek (s3.rep r2 ry)]
    exact ⟨valV kvs' kk, .inl ⟨kvs', kk, h', rfl, rfl⟩, k _ H3 _ Hd3 ((s1.trans s2).trans s3) r3 (rep_getD e1' l' kk rz) q4⟩⟩
/-- d[k] = v -/
def dDPut (td ty tv : DTE) : DTS := fun D σ H => tv σ H fun v H1 => td σ H1 fun d H2 => ty σ H2 fun y H3 => match d with
  | .ref p => ∃ ks ds k, H3 p = some (.dic ks ds) ∧ keyD y = some k ∧ ks.length < sizeLine ∧ D.nx σ (upD H3 p (.dic (putKs ks k) (putDs ks ds k v)))
  | _ => False
theorem ds_dput {value : Expr} {pos' : Pos} (hu : X.A.units + 1 < cLine) (ho : DE X o ta) (hi : DE X i tb) (hv : DE X value tc) (hs : swapsWith value (some (.Subscript o i pos')) pos.line X.env = pure false := by rfl) : DSt X (.Assign [.Subscript o i pos'] value pos) (dDPut ta tb tc) :=
  ds_of (ps_dput hu ho hi hv hs) fun D σ H σd Hd Dd rs rh q k1 _ _ _ => ⟨σd, Hd, _, rs, rh, q, fun v H1 dv Hd1 s1 r1 rv q1 => ⟨σd, Hd1, _, s1.repS rh rs, r1, q1, fun x H2 dx Hd2 s2 r2 rx q2 => ⟨σd, Hd2, _, (s1.trans s2).repS rh rs, r2, q2, fun y H3 dy Hd3 s3 r3 ry q3 => by
    have st := (s1.trans s2).trans s3
    split at q3
    · obtain ⟨ks, ds, kk, h, ek, hz, q3⟩ := q3
      obtain ⟨kvs, h2, e1, l⟩ := r3 _ _ h
      have rv3 := (s2.trans s3).rep r1 rv
      obtain ⟨e2, l2⟩ := putK_of e1 l kk rv3
      have lk : kvs.length < sizeLine := by rw [← e1, List.length_map] at hz; exact hz
      have sp : Stp H3 Hd3 (upd H3 _ (.dK (putK kvs kk v))) (upD Hd3 _ (.dic (putKs ks kk) (putDs ks ds kk dv))) := Stp.put h
      cases (show x = .ref _ from rx)
      rw [keyD_rep ek ry]
      exact ⟨_, _, rfl, DPut.k h2 lk, k1 _ _ _ _ (st.trans sp) (r3.putK h e2 l2) ((st.trans sp).repS rh rs) q3⟩
    · exact q3.elim⟩⟩⟩
/-! ## locking: from a thing that may change to its value -/
theorem pe_lk {t : TE} (h : PE X e t) : PE X e (fun σ H Q => t σ H fun v H1 => Q v H1 ∨ ∃ p u, H1 p = some u ∧ Mut (some u) ∧ ∀ od, Q v (upd H1 p (.frz od u))) := ⟨fun pins s σ H Q I q => thn (h.run pins s σ H _ I q) fun v s1 ⟨x, H1, I1, r1, q1⟩ => by
  rcases q1 with q1 | ⟨p, u, e2, mu, q1⟩
  · exact ⟨x, _, I1, r1, q1⟩
  · obtain ⟨od, I2⟩ := I1.lock e2 mu
    exact ⟨x, _, I2, r1, q1 od⟩⟩
def fzK (d : Dv) (H1 : DH) (Q : DVK) : Prop := match d with
  | .ref p => (∃ ds, H1 p = some (.lst ds) ∧ Q (.lsv ds) (delD H1 p)) ∨ ∃ ks ds, H1 p = some (.dic ks ds) ∧ Q (.dcv ks ds) (delD H1 p)
  | d => Q d H1
def dFz (t : DTE) : DTE := fun σ H Q => t σ H fun d H1 => fzK d H1 Q
theorem del_upd {Hd : DH} {p : Addr} {u : Ob} (h : Hd p = none) : delD (upD Hd p u) p = Hd := by
  funext a
  by_cases e : a = p
  · subst e; rw [delD_same, h]
  · rw [delD_ne e, upD_ne e]
theorem lk_end {K : PySem.W.Frag} {H1 : Hp} {Hd1 : DH} {d : Dv} {v : V} {Qd : DVK} {Q : VK} (r1 : RepH K H1 Hd1) (rv : Rep K H1 d v) (k : KE K H1 Hd1 Qd Q) (q1 : fzK d Hd1 Qd) : Q v H1 ∨ ∃ p u, H1 p = some u ∧ Mut (some u) ∧ ∀ od, Q v (upd H1 p (.frz od u)) := by
  cases d with
  | ref p =>
    cases (show v = _ from rv)
    rcases q1 with ⟨ds, h, q1⟩ | ⟨ks, ds, h, q1⟩
    · obtain ⟨vs, e1, l⟩ := r1 _ _ h
      refine .inr ⟨p, .lst vs, e1, True.intro, fun od => ?_⟩
      exact k _ _ (.lsv ds) _ (.lock h) (r1.lock h) ⟨p, vs, rfl, .inl ⟨od, upd_same⟩, (Stp.lock (H := H1) (o := .frz od (.lst vs)) h).repL r1 l⟩ q1
    · obtain ⟨kvs, e1, ek, l⟩ := r1 _ _ h
      refine .inr ⟨p, .dK kvs, e1, True.intro, fun od => ?_⟩
      exact k _ _ (.dcv ks ds) _ (.lock h) (r1.lock h) ⟨p, _, rfl, ⟨od, kvs, upd_same, ek, rfl⟩, (Stp.lock (H := H1) (o := .frz od (.dK kvs)) h).repL r1 l⟩ q1
  | _ => exact .inl (k _ _ _ _ .refl r1 rv q1)
theorem de_fzv (h : DE X e ta) : DE X e (dFz ta) := de_of (pe_lk h) fun σ H Q σd Hd Qd rs rh q k => ⟨σd, Hd, _, rs, rh, q, fun v H1 d Hd1 s1 r1 rv q1 => lk_end r1 rv (k.at s1) q1⟩
def frzD : Ob → Dv
  | .lst ds => .lsv ds
  | .dic ks ds => .dcv ks ds
/-- a new thing, locked at once -/
theorem de_fzN {t tf : DTE} (h : DE X e t) (i : ∀ σ H Q, tf σ H Q → t σ H fun d H1 => ∃ H2 p u, H2 p = none ∧ d = .ref p ∧ H1 = upD H2 p u ∧ Q (frzD u) H2) : DE X e tf :=
  de_of (pe_lk h) fun σ H Q σd Hd Qd rs rh q k => ⟨σd, Hd, _, rs, rh, i σd Hd Qd q, fun v H1 d Hd1 s1 r1 rv ⟨H2, p, u, hp, ed, eH, q1⟩ => by
    subst ed eH
    refine lk_end r1 rv (k.at s1) ?_
    cases u with
    | lst ds => exact .inl ⟨ds, upD_same, by rw [del_upd hp]; exact q1⟩
    | dic ks ds => exact .inr ⟨ks, ds, upD_same, by rw [del_upd hp]; exact q1⟩⟩
/-! ## displays -/
def dDic0 : DTE := fun _ H Q => ∀ p, H p = none → Q (.ref p) (upD H p (.dic [] []))
theorem de_dic0 : DE X (.Dict [] [] pos) dDic0 := de_of pe_dnewK fun σ H Q σd Hd Qd rs rh q k => fun p hp => k _ _ (.ref p) _ (.layL hp) (rh.layK (kvs := []) (ds := []) hp rfl rfl) rfl (q p (rh.free hp))
def dDic0F : DTE := fun _ H Q => Q (.dcv [] []) H
theorem de_dic0F : DE X (.Dict [] [] pos) dDic0F := de_fzN de_dic0 fun σ H Q q p hp => ⟨H, p, .dic [] [], hp, rfl, rfl, q⟩
def dPrs : List (DTE × DTE) → DS → DH → (List Dv → List Dv → DH → Prop) → Prop
  | [], _, H, Q => Q [] [] H
  | (tk, tv) :: r, σ, H, Q => tk σ H fun x H1 => tv σ H1 fun y H2 => dPrs r σ H2 fun xs ys H3 => Q (x :: xs) (y :: ys) H3
/-- the keys that values are -/
def keysD : List Dv → Option (List Key)
  | [] => some []
  | d :: ds => match keyD d, keysD ds with
    | some k, some ks => some (k :: ks)
    | _, _ => none
def mrgKs : List Key → List Key → List Key
  | ks, [] => ks
  | ks, x :: xs => mrgKs (putKs ks x) xs
def mrgDs : List Key → List Dv → List Key → List Dv → List Dv
  | ks, ds, x :: xs, y :: ys => mrgDs (putKs ks x) (putDs ks ds x y) xs ys
  | _, ds, _, _ => ds
theorem merge_of {K : PySem.W.Frag} {H : Hp} : ∀ {more kvs : List (Key × V)} {ks xs : List Key} {ds ys : List Dv}, more.map (·.1) = xs → RepL K H ys (more.map (·.2)) → kvs.map (·.1) = ks → RepL K H ds (kvs.map (·.2)) →
    (mergeK kvs more).map (·.1) = mrgKs ks xs ∧ RepL K H (mrgDs ks ds xs ys) ((mergeK kvs more).map (·.2))
  | [], kvs, ks, xs, ds, ys, e1, l1, e2, l2 => by
    subst e1
    have : ys = [] := List.eq_nil_of_length_eq_zero l1.length
    subst this
    exact ⟨e2, l2⟩
  | (k, v) :: more, kvs, ks, xs, ds, [], e1, l1, e2, l2 => by
    have l' : v :: more.map (·.2) = [] := l1
    cases l'
  | (k, v) :: more, kvs, ks, xs, ds, y :: ys, e1, l1, e2, l2 => by
    subst e1
    obtain ⟨v', t, e3, r1, r2⟩ := l1
    have e3' : v :: more.map (·.2) = v' :: t := e3
    cases e3'
    obtain ⟨a, b⟩ := putK_of e2 l2 k r1
    have := merge_of (more := more) (kvs := putK kvs k v) rfl r2 a b
    exact this
theorem keys_of {K : PySem.W.Frag} {H : Hp} : ∀ {xs : List Dv} {ks : List Key} {vs : List V}, keysD xs = some ks → RepL K H xs vs → vs = ks.map kV
  | [], ks, vs, e, l => by
    cases e
    exact l
  | x :: xs, ks, vs, e, l => by
    unfold keysD at e
    cases e1 : keyD x with
    | none => rw [e1] at e; cases e
    | some k =>
      cases e2 : keysD xs with
      | none => rw [e1, e2] at e; cases e
      | some ks' =>
        rw [e1, e2] at e
        cases e
        obtain ⟨v, t, rfl, r1, r2⟩ := l
        rw [keyD_rep e1 r1, keys_of e2 r2]; rfl
/-- {k: v, ..}, at most fifteen pairs -/
def dDisp (ps : List (DTE × DTE)) : DTE := fun σ H Q => dPrs ps σ H fun xs ys H1 => ∃ ks, keysD xs = some ks ∧ ks.length ≤ 15 ∧ ∀ p, H1 p = none → Q (.ref p) (upD H1 p (.dic (mrgKs [] ks) (mrgDs [] [] ks ys)))
def lP (K : PySem.W.Frag) : List (DTE × DTE) → List (TE × TE)
  | [] => []
  | (tk, tv) :: r => (lE K tk, lE K tv) :: lP K r
abbrev DPs (X : Cx) (pos : Pos) (ks : List (Option Expr)) (vs : List Expr) (ps : List (DTE × DTE)) : Prop := PPs X pos ks vs (lP X.K ps)
theorem dps_nil : DPs X pos [] [] [] := pps_nil
theorem dps_cons {k v : Expr} {ks : List (Option Expr)} {vs : List Expr} {tk tv : DTE} {ps : List (DTE × DTE)} (hk : DE X k tk) (hv : DE X v tv) (h : DPs X pos ks vs ps) : DPs X pos (some k :: ks) (v :: vs) ((tk, tv) :: ps) := pps_cons hk hv h
theorem prs_of {K : PySem.W.Frag} {p : Addr} : ∀ {ps : List (DTE × DTE)} {σ : St} {H : Hp} {Q : List (V × V) → Hp → Prop} {σd : DS} {Hd : DH} {Qd : List Dv → List Dv → DH → Prop}, RepS K H σd σ → RepH K H Hd → H p = some (.dK []) → Hd p = none → dPrs ps σd Hd Qd →
    (∀ vs H' xs ys Hd', Stp H Hd H' Hd' → RepH K H' Hd' → H' p = some (.dK []) → Hd' p = none → RepL K H' xs (vs.map (·.1)) → RepL K H' ys (vs.map (·.2)) → Qd xs ys Hd' → Q vs H') → tPairs (lP K ps) σ H Q
  | [], σ, H, Q, σd, Hd, Qd, rs, rh, hp, np, q, k => k [] H [] [] Hd .refl rh hp np rfl rfl q
  | (tk, tv) :: ps, σ, H, Q, σd, Hd, Qd, rs, rh, hp, np, q, k => by
    have stay : ∀ {H' : Hp} {Hd' : DH}, Stp H Hd H' Hd' → H' p = some (.dK []) ∧ Hd' p = none := fun {H' Hd'} s => by
      refine ⟨s.frame p _ hp np, ?_⟩
      cases e : Hd' p with
      | none => rfl
      | some o =>
        rcases s.new p (by rw [e]; exact fun z => nomatch z) with z | z
        · exact absurd np z
        · rw [hp] at z; cases z
    refine ⟨σd, Hd, _, rs, rh, q, fun x H1 dx Hd1 s1 r1 rx q1 => ⟨σd, Hd1, _, s1.repS rh rs, r1, q1, fun y H2 dy Hd2 s2 r2 ry q2 => ?_⟩⟩
    have st := s1.trans s2
    refine prs_of (st.repS rh rs) r2 (stay st).1 (stay st).2 q2 fun vs H3 xs ys Hd3 s3 r3 e3 n3 l1 l2 q3 => ?_
    exact k ((x, y) :: vs) H3 (dx :: xs) (dy :: ys) Hd3 (st.trans s3) r3 e3 n3 ⟨x, _, rfl, (s2.trans s3).rep r1 rx, l1⟩ ⟨y, _, rfl, s3.rep r2 ry, l2⟩ q3
theorem zip_keys : ∀ {ks : List Key} {vs : List (V × V)}, vs.map (·.1) = ks.map kV → vs = (ks.zip (vs.map (·.2))).map (fun kv => (kV kv.1, kv.2)) ∧ (ks.zip (vs.map (·.2))).map (·.1) = ks ∧ (ks.zip (vs.map (·.2))).map (·.2) = vs.map (·.2)
  | [], [], _ => ⟨rfl, rfl, rfl⟩
  | [], _ :: _, h => nomatch h
  | _ :: _, [], h => nomatch h
  | k :: ks, (x, y) :: vs, h => by
    rw [List.map_cons, List.map_cons] at h
    injection h with h1 h2
    obtain ⟨a, b, c⟩ := zip_keys h2
    refine ⟨?_, ?_, ?_⟩
    · rw [List.map_cons, List.zip_cons_cons, List.map_cons, ← a]
      show (x, y) :: vs = (kV k, y) :: vs
      rw [← h1]
    · rw [List.map_cons, List.zip_cons_cons, List.map_cons, b]
    · rw [List.map_cons, List.zip_cons_cons, List.map_cons, c]
theorem upD_upD {Hd : DH} {p : Addr} {u u' : Ob} : upD (upD Hd p u) p u' = upD Hd p u' := by
  funext a
  by_cases e : a = p
  · subst e; rw [upD_same, upD_same]
  · rw [upD_ne e, upD_ne e, upD_ne e]
/-- a new empty dict is taken among what may change -/
theorem re_own {K : PySem.W.Frag} {H H' : Hp} {Hd Hd' : DH} {p : Addr} (hp : H p = none) (s : Stp (upd H p (.dK [])) Hd H' Hd') (r : RepH K H' Hd') (e : H' p = some (.dK [])) (n : Hd' p = none) :
    Stp H Hd H' (upD Hd' p (.dic [] [])) ∧ RepH K H' (upD Hd' p (.dic [] [])) := by
  refine ⟨⟨fun a o h q => s.frame a o (by rw [upd_ne (ne_of_none h hp)]; exact h) q, fun a h => s.dom a ?_, fun a h => ?_⟩, fun a u h => ?_⟩
  · by_cases z : a = p
    · rw [z, upd_same]; exact fun q => nomatch q
    · rw [upd_ne z]; exact h
  · by_cases z : a = p
    · exact .inr (by rw [z]; exact hp)
    · rw [upD_ne z] at h
      rcases s.new a h with g | g
      · exact .inl g
      · rw [upd_ne z] at g; exact .inr g
  · by_cases z : a = p
    · subst z
      rw [upD_same] at h
      cases h
      exact ⟨[], e, rfl, rfl⟩
    · rw [upD_ne z] at h
      exact r a u h
theorem de_disp {keys : List (Option Expr)} {values : List Expr} {ps : List (DTE × DTE)} (h : DPs X pos keys values ps) (hall : keys.all (·.isSome) = true) (hl : keys.length = values.length) (h0 : keys ≠ []) (h15 : keys.length ≤ 15) : DE X (.Dict keys values pos) (dDisp ps) :=
  de_of (pe_disp h hall hl h0 h15) fun σ H Q σd Hd Qd rs rh q k => fun p hp => by
    have np := rh.free hp
    refine prs_of ((Stp.lay (Hd := Hd) hp).repS rh rs) (rh.lay hp) upd_same np q fun vs H' xs ys Hd' s' r' e' n' l1 l2 ⟨ks, ek, lk, q'⟩ => ⟨e', ?_⟩
    have ev := keys_of ek l1
    obtain ⟨z1, z2, z3⟩ := zip_keys ev
    refine ⟨ks.zip (vs.map (·.2)), z1, ?_, ?_⟩
    · have : (ks.zip (vs.map (·.2))).length = ks.length := by rw [← List.length_map (f := (·.1)), z2]
      rw [this]; exact lk
    · have l2' : RepL X.K H' ys ((ks.zip (vs.map (·.2))).map (·.2)) := by rw [z3]; exact l2
      obtain ⟨m1, m2⟩ := merge_of (kvs := []) z2 l2' rfl (show RepL X.K H' [] (([] : List (Key × V)).map (·.2)) from rfl)
      obtain ⟨st, r2⟩ := re_own hp s' r' e' n'
      have sp : Stp H' (upD Hd' p (.dic [] [])) (upd H' p (.dK (mergeK [] (ks.zip (vs.map (·.2)))))) (upD (upD Hd' p (.dic [] [])) p (.dic (mrgKs [] ks) (mrgDs [] [] ks ys))) := Stp.put upD_same
      have rp : RepH X.K (upd H' p (.dK (mergeK [] (ks.zip (vs.map (·.2)))))) (upD (upD Hd' p (.dic [] [])) p (.dic (mrgKs [] ks) (mrgDs [] [] ks ys))) := r2.putK (u := .dic [] []) upD_same m1 m2
      have eq : upD (upD Hd' p (.dic [] [])) p (.dic (mrgKs [] ks) (mrgDs [] [] ks ys)) = upD Hd' p (.dic (mrgKs [] ks) (mrgDs [] [] ks ys)) := upD_upD
      rw [eq] at sp rp
      exact k _ _ (.ref p) _ (st.trans sp) rp rfl (q' p n')
def dDispF (ps : List (DTE × DTE)) : DTE := fun σ H Q => dPrs ps σ H fun xs ys H1 => ∃ ks, keysD xs = some ks ∧ ks.length ≤ 15 ∧ Q (.dcv (mrgKs [] ks) (mrgDs [] [] ks ys)) H1
theorem prs_mono {Qd Qd' : List Dv → List Dv → DH → Prop} {ps : List (DTE × DTE)} {σ : DS} {H : DH} (e : Qd = Qd') (h : dPrs ps σ H Qd) : dPrs ps σ H Qd' := e ▸ h
theorem de_dispF {keys : List (Option Expr)} {values : List Expr} {ps : List (DTE × DTE)} (h : DPs X pos keys values ps) (hall : keys.all (·.isSome) = true) (hl : keys.length = values.length) (h0 : keys ≠ []) (h15 : keys.length ≤ 15) : DE X (.Dict keys values pos) (dDispF ps) :=
  de_of (pe_lk (pe_disp h hall hl h0 h15)) fun σ H Q σd Hd Qd rs rh q k => fun p hp => by
    have np := rh.free hp
    refine prs_of ((Stp.lay (Hd := Hd) hp).repS rh rs) (rh.lay hp) upd_same np q fun vs H' xs ys Hd' s' r' e' n' l1 l2 ⟨ks, ek, lk, q'⟩ => ⟨e', ?_⟩
    have ev := keys_of ek l1
    obtain ⟨z1, z2, z3⟩ := zip_keys ev
    refine ⟨ks.zip (vs.map (·.2)), z1, ?_, ?_⟩
    · have : (ks.zip (vs.map (·.2))).length = ks.length := by rw [← List.length_map (f := (·.1)), z2]
      rw [this]; exact lk
    · have l2' : RepL X.K H' ys ((ks.zip (vs.map (·.2))).map (·.2)) := by rw [z3]; exact l2
      obtain ⟨m1, m2⟩ := merge_of (kvs := []) z2 l2' rfl (show RepL X.K H' [] (([] : List (Key × V)).map (·.2)) from rfl)
      obtain ⟨st, r2⟩ := re_own hp s' r' e' n'
      have sp : Stp H' (upD Hd' p (.dic [] [])) (upd H' p (.dK (mergeK [] (ks.zip (vs.map (·.2)))))) (upD (upD Hd' p (.dic [] [])) p (.dic (mrgKs [] ks) (mrgDs [] [] ks ys))) := Stp.put upD_same
      have rp : RepH X.K (upd H' p (.dK (mergeK [] (ks.zip (vs.map (·.2)))))) (upD (upD Hd' p (.dic [] [])) p (.dic (mrgKs [] ks) (mrgDs [] [] ks ys))) := r2.putK (u := .dic [] []) upD_same m1 m2
      rw [upD_upD] at sp rp
      exact lk_end rp (show Rep X.K _ (.ref p) (.ref p) from rfl) (k.at (st.trans sp)) (.inr ⟨_, _, upD_same, by rw [del_upd n']; exact q'⟩)
end
end DL

set_option maxHeartbeats 4000000
namespace DL
open PySem PySem.Spec L2
open PyProof.Rows hiding St
/-! ## dicts walked -/
def nthK (ks : List Key) (i : Nat) : Dv := kD (ks.getD i (.inl 0))
section
variable {X : Cx} {o e tg : Expr} {te : DTE} {pos apos cpos : Pos}
def dKeys (te : DTE) : DTI := fun σ H R => te σ H fun d H1 => match d with
  | .dcv ks ds => R ⟨ks.length, nthK ks, fun _ => True⟩ H1
  | _ => False
def dItems (te : DTE) : DTI := fun σ H R => te σ H fun d H1 => match d with
  | .dcv ks ds => ks.length = ds.length → R ⟨ks.length, fun i => .tup [nthK ks i, nth ds i], fun _ => True⟩ H1
  | _ => False
theorem key_at {K : PySem.W.Frag} {H : Hp} {kvs : List (Key × V)} {ks : List Key} (e : kvs.map (·.1) = ks) {i : Nat} {k : Key} {v : V} (h : kvs[i]? = some (k, v)) : Rep K H (nthK ks i) (kV k) := by
  have : ks[i]? = some k := by rw [← e, List.getElem?_map, h]; rfl
  unfold nthK
  rw [List.getD_eq_getElem?_getD, this]
  exact kD_rep k
theorem jw_keys {K : PySem.W.Frag} {H : Hp} {Hd : DH} {a : Addr} {o : Obj} {kvs : List (Key × V)} {ks : List Key} (rh : RepH K H Hd) (h : H a = some (.frz o (.dK kvs))) (e : kvs.map (·.1) = ks) : JW K H Hd (Itk a o kvs) ⟨ks.length, nthK ks, fun _ => True⟩ where
  go := fun H' Hd' s r _ i hi => ⟨s.frame _ _ h (rh.no h ⟨(fun _ z => nomatch z), (fun _ z => nomatch z)⟩), by rw [← List.length_map (f := (·.1)), e]; exact hi⟩
  stop := fun H' Hd' s r _ => ⟨s.frame _ _ h (rh.no h ⟨(fun _ z => nomatch z), (fun _ z => nomatch z)⟩), by rw [← List.length_map (f := (·.1)), e]; exact Nat.le_refl _⟩
  yld := fun H' Hd' s r _ i x H2 hi y => by
    obtain ⟨rfl, k, v, h2, rfl⟩ := y
    exact ⟨.refl, r, key_at e h2⟩
theorem jw_items {K : PySem.W.Frag} {H : Hp} {Hd : DH} {a : Addr} {o : Obj} {kvs : List (Key × V)} {ks : List Key} {ds : List Dv} (rh : RepH K H Hd) (h : H a = some (.frz o (.dK kvs))) (e : kvs.map (·.1) = ks) (l : RepL K H ds (kvs.map (·.2))) : JW K H Hd (Iti a o kvs) ⟨ks.length, fun i => .tup [nthK ks i, nth ds i], fun _ => True⟩ where
  go := fun H' Hd' s r _ i hi => ⟨s.frame _ _ h (rh.no h ⟨(fun _ z => nomatch z), (fun _ z => nomatch z)⟩), by rw [← List.length_map (f := (·.1)), e]; exact hi⟩
  stop := fun H' Hd' s r _ => ⟨s.frame _ _ h (rh.no h ⟨(fun _ z => nomatch z), (fun _ z => nomatch z)⟩), by rw [← List.length_map (f := (·.1)), e]; exact Nat.le_refl _⟩
  yld := fun H' Hd' s r _ i x H2 hi y => by
    obtain ⟨T, k, v, h2, rfl, hT, rfl⟩ := y
    have hv : (kvs.map (·.2))[i]? = some v := by rw [List.getElem?_map, h2]; rfl
    obtain ⟨d, hd, rd⟩ := l.got hv
    have : nth ds i = d := by unfold nth; rw [List.getD_eq_getElem?_getD, hd]; rfl
    show _ ∧ _ ∧ Rep K _ (.tup [nthK ks i, nth ds i]) _
    rw [this]
    exact pair_new r hT (key_at e h2) (s.rep rh rd)
theorem di_keys (he : DE X e te) : DI X tg e (dKeys te) := di_of (pi_keys he) fun σ H R σd Hd Rd rs rh q k => ⟨σd, Hd, _, rs, rh, q, fun v H1 d Hd1 s1 r1 rv q1 => by
  cases d with
  | dcv ks ds =>
    obtain ⟨a, vs, rfl, ⟨o, kvs, h, e1, e2⟩, l⟩ := rv
    exact ⟨a, o, rfl, .inl ⟨kvs, h, k _ H1 _ Hd1 s1 r1 (jw_keys r1 h e1) q1⟩⟩
  | _ => exact q1.elim⟩
theorem di_items {elts : List Expr} {kk : Nat} {tpos : Pos} (he : DE X e te) (hbase : attributeBase e "items" X.env (eval e X.env) = eval e X.env := by rfl) (hline : (apos.endLine == cpos.line) = true := by rfl) :
    DI X (.Tuple elts kk tpos) (.Call (.Attribute e "items" apos) [] [] cpos) (dItems te) := di_of (pi_items he hbase hline) fun σ H R σd Hd Rd rs rh q k => ⟨σd, Hd, _, rs, rh, q, fun v H1 d Hd1 s1 r1 rv q1 => by
  cases d with
  | dcv ks ds =>
    obtain ⟨a, vs, rfl, ⟨o, kvs, h, e1, e2⟩, l⟩ := rv
    subst e2
    have hl : ks.length = ds.length := by rw [l.length, List.length_map, ← e1, List.length_map]
    exact ⟨a, o, kvs, rfl, h, k _ H1 _ Hd1 s1 r1 (jw_items r1 h e1 l) (q1 hl)⟩
  | _ => exact q1.elim⟩
end
/-! ## dict comprehensions -/
def dDcG (fin : List Key → List Dv → DH → DVK → Prop) (it : DTI) (vs : List Nat) (g : DTG) (tt : DTT) (tk tv : DTE) : DTE := fun σ H Q => it σ H fun I H1 => ∃ Pv : Nat → List Key → List Dv → DH → Prop, Pv 0 [] [] H1 ∧ (∀ i ks ds H, i ≤ I.n → Pv i ks ds H → I.G H) ∧
  (∀ i ks ds H, i < I.n → Pv i ks ds H → g (I.f i) (wipeD σ vs) H fun σ2 H2 => tt σ2 H2 fun b H3 =>
    (b = true → tk σ2 H3 fun y H4 => tv σ2 H4 fun z H5 => ∃ k, keyD y = some k ∧ ks.length < sizeLine ∧ Pv (i + 1) (putKs ks k) (putDs ks ds k z) H5) ∧ (b = false → Pv (i + 1) ks ds H3)) ∧
  ∀ ks ds H, Pv I.n ks ds H → fin ks ds H Q
abbrev dDcF := dDcG fun ks ds H Q => Q (.dcv ks ds) H
abbrev dDc := dDcG fun ks ds H Q => ∀ p, H p = none → Q (.ref p) (upD H p (.dic ks ds))
theorem dc_gen {K : PySem.W.Frag} {fn : List Key → List Dv → DH → DVK → Prop} {it : DTI} {vs : List Nat} {g : DTG} {tt : DTT} {tk tv : DTE} {σ : St} {H : Hp} {Q : VK} {σd : DS} {Hd : DH} {Qd : DVK} (rs : RepS K H σd σ) (rh : RepH K H Hd) (q : dDcG fn it vs g tt tk tv σd Hd Qd)
    (last : ∀ H' Hd' D ks ds kvs, Stp H Hd H' Hd' → H D = none → RepH K H' Hd' → H' D = some (.dK kvs) → Hd' D = none → kvs.map (·.1) = ks → RepL K H' ds (kvs.map (·.2)) → fn ks ds Hd' Qd → Q (.ref D) H') : tDc (lI K it) (lGc K vs g) (lT K tt) (lE K tk) (lE K tv) vs σ H Q := by
  refine ⟨σd, Hd, _, rs, rh, q, fun J H1 I Hd1 s1 r1 w ⟨Pv, p0, hG, step, fin⟩ D hD => ?_⟩
  have dD : Hd1 D = none := r1.free hD
  have hD0 : H D = none := by
    cases e : H D with
    | none => rfl
    | some o => exact absurd hD (s1.dom D (by rw [e]; exact fun z => nomatch z))
  refine ⟨fun i m H' => ∃ ks ds kvs Hd', m = I.n - i ∧ i ≤ I.n ∧ Stp H1 Hd1 H' Hd' ∧ RepH K H' Hd' ∧ H' D = some (.dK kvs) ∧ Hd' D = none ∧ kvs.map (·.1) = ks ∧ RepL K H' ds (kvs.map (·.2)) ∧ Pv i ks ds Hd',
    ⟨_, [], [], [], Hd1, rfl, Nat.zero_le _, .lay hD, r1.lay hD, upd_same, dD, rfl, rfl, p0⟩, ?_⟩
  rintro i m H' ⟨ks, ds, kvs, Hd', rfl, hi, s', r', eD, nD, ek, rl, p⟩
  have gg := hG i ks ds Hd' hi p
  have stay : ∀ {H2 : Hp} {Hd2 : DH}, Stp H' Hd' H2 Hd2 → H2 D = some (.dK kvs) ∧ Hd2 D = none := fun {H2 Hd2} s2 => by
    refine ⟨s2.frame D _ eD nD, ?_⟩
    cases e : Hd2 D with
    | none => rfl
    | some o =>
      rcases s2.new D (by rw [e]; exact fun z => nomatch z) with z | z
      · exact absurd nD z
      · rw [eD] at z; cases z
  by_cases hlt : i < I.n
  · refine .inr ⟨w.go H' Hd' s' r' gg i hlt, fun H2 => ∃ ks ds kvs Hd2, Stp H1 Hd1 H2 Hd2 ∧ RepH K H2 Hd2 ∧ H2 D = some (.dK kvs) ∧ Hd2 D = none ∧ kvs.map (·.1) = ks ∧ RepL K H2 ds (kvs.map (·.2)) ∧ Pv (i + 1) ks ds Hd2, ?_, fun x H2 y => ?_⟩
    · rintro H2 ⟨ks2, ds2, kvs2, Hd2, s2, r2, e2, n2, ek2, l2, p2⟩
      exact ⟨I.n - (i + 1), by omega, ks2, ds2, kvs2, Hd2, rfl, hlt, s2, r2, e2, n2, ek2, l2, p2⟩
    · obtain ⟨s2, r2, rx⟩ := w.yld H' Hd' s' r' gg i x H2 hlt y
      have rsw : RepS K H2 (wipeD σd vs) (L2.wipe σ vs) := ((s1.trans (s'.trans s2)).repS rh rs).wipe vs
      refine ⟨I.f i, wipeD σd vs, Hd', _, rx, rsw, r2, step i ks ds Hd' hlt p, fun σ3 H3 σd3 Hd3 wp s3 r3 rs3 q3 => ⟨?_, σd3, Hd3, _, rs3, r3, q3, fun b H4 Hd4 s4 r4 q4 => ?_⟩⟩
      · rw [wp]
        apply List.ext_getElem?
        intro j
        rw [wipe_at, wipe_at]
        by_cases m : j ∈ vs
        · rw [if_pos m, if_pos m]
          cases σ[j]? <;> rfl
        · rw [if_neg m, if_neg m]
      · have st4 : Stp H' Hd' H4 Hd4 := (s2.trans s3).trans s4
        cases b with
        | false =>
          refine iteF ⟨ks, ds, kvs, Hd4, s'.trans st4, r4, (stay st4).1, (stay st4).2, ek, st4.repL r' rl, q4.2 rfl⟩
        | true =>
          refine iteT ⟨σd3, Hd4, _, s4.repS r3 rs3, r4, q4.1 rfl, fun yv H5 dy Hd5 s5 r5 ry q5 => ⟨σd3, Hd5, _, s5.repS r4 (s4.repS r3 rs3), r5, q5, fun v H6 d Hd6 s6 r6 rv q6 => ?_⟩⟩
          obtain ⟨kk, ekk, hz, q6⟩ := q6
          have st6 : Stp H' Hd' H6 Hd6 := (st4.trans s5).trans s6
          have l6 : RepL K H6 ds (kvs.map (·.2)) := st6.repL r' rl
          refine ⟨kvs, kk, keyD_rep ekk ry, (stay st6).1, by rw [← List.length_map (f := (·.1)), ek]; exact hz, ?_⟩
          have r6' : RepH K H6 (upD Hd6 D (.dic ks ds)) := fun a o e => by
            by_cases z : a = D
            · subst z
              rw [upD_same] at e
              cases e
              exact ⟨kvs, (stay st6).1, ek, l6⟩
            · rw [upD_ne z] at e
              exact r6 a o e
          obtain ⟨m1, m2⟩ := putK_of ek l6 kk rv
          have sp : Stp H6 (upD Hd6 D (.dic ks ds)) (upd H6 D (.dK (putK kvs kk v))) (upD (upD Hd6 D (.dic ks ds)) D (.dic (putKs ks kk) (putDs ks ds kk d))) := Stp.put upD_same
          refine ⟨putKs ks kk, putDs ks ds kk d, putK kvs kk v, Hd6, ?_, ?_, upd_same, (stay st6).2, m1, sp.repL r6' m2, q6⟩
          · have a := s'.trans st6
            refine ⟨fun b o e n => ?_, fun b e => ?_, a.new⟩
            · rw [upd_ne (ne_of_none e hD)]
              exact a.frame b o e n
            · by_cases z : b = D
              · rw [z, upd_same]; exact fun q => nomatch q
              · rw [upd_ne z]; exact a.dom b e
          · intro b o e
            have z : b ≠ D := fun z => by rw [z, (stay st6).2] at e; cases e
            exact (r6 b o e).keep (Hd := upD Hd6 D (.dic ks ds)) sp r6' (upd_ne z)
  · have e : i = I.n := by omega
    subst e
    exact .inl ⟨w.stop H' Hd' s' r' gg, last H' Hd' D ks ds kvs (s1.trans s') hD0 r' eD nD ek rl (fin ks ds Hd' p)⟩
/-- the end of a new dict, locked -/
theorem lock_endK {K : PySem.W.Frag} {H H' : Hp} {Hd Hd' : DH} {D : Addr} {ks : List Key} {ds : List Dv} {kvs : List (Key × V)} {Qd : DVK} {Q : VK} (k : KE K H Hd Qd Q) (st : Stp H Hd H' Hd') (hD : H D = none) (r : RepH K H' Hd') (eD : H' D = some (.dK kvs)) (nD : Hd' D = none)
    (ek : kvs.map (·.1) = ks) (rl : RepL K H' ds (kvs.map (·.2))) (q : Qd (.dcv ks ds) Hd') : Q (.ref D) H' ∨ ∃ p u, H' p = some u ∧ Mut (some u) ∧ ∀ od, Q (.ref D) (upd H' p (.frz od u)) := by
  have r1 : RepH K H' (upD Hd' D (.dic ks ds)) := fun b o e => by
    by_cases y : b = D
    · subst y
      rw [upD_same] at e
      cases e
      exact ⟨kvs, eD, ek, rl⟩
    · rw [upD_ne y] at e
      exact r b o e
  have s1 : Stp H Hd H' (upD Hd' D (.dic ks ds)) := ⟨st.frame, st.dom, fun b e => by
    by_cases y : b = D
    · exact .inr (by rw [y]; exact hD)
    · rw [upD_ne y] at e
      exact st.new b e⟩
  exact lk_end r1 (show Rep K H' (.ref D) (.ref D) from rfl) (k.at s1) (.inr ⟨ks, ds, upD_same, by rw [del_upd nD]; exact q⟩)
section
variable {X : Cx} {kx vx tg iter : Expr} {ifs : List Expr} {scope : Scope} {own : List (Str × Nat)} {it : DTI} {g : DTG} {tt : DTT} {tk tv : DTE} {pos spos : Pos}
theorem de_dcF (hc : X.calm = true) (hN : X.N.Nodup) (hi : DI X tg iter it) (ok : BlkOk X.N X.env.scope scope own)
    (hg : ∀ (s : Shared) (H : Hp) (C : Addr) (cl : List (Str × Addr)) (fp : List Addr), PG (X.blk s H scope (compEnvC scope cl C X.env) fp) tg (lGc X.K (own.map (·.2)) g))
    (ht : ∀ (s : Shared) (H : Hp) (C : Addr) (cl : List (Str × Addr)) (fp : List Addr), PTs (X.blk s H scope (compEnvC scope cl C X.env) fp) ifs (lT X.K tt))
    (hk : ∀ (s : Shared) (H : Hp) (C : Addr) (cl : List (Str × Addr)) (fp : List Addr), PE (X.blk s H scope (compEnvC scope cl C X.env) fp) kx (lE X.K tk))
    (he : ∀ (s : Shared) (H : Hp) (C : Addr) (cl : List (Str × Addr)) (fp : List Addr), PE (X.blk s H scope (compEnvC scope cl C X.env) fp) vx (lE X.K tv)) (hs : ∀ x, foldedSetIterable iter X.env x = pure x := by intro _; rfl) :
    DE X (.DictComp kx vx [⟨tg, iter, ifs, 0⟩] scope pos) (dDcF it (own.map (·.2)) g tt tk tv) :=
  pe_mono (pe_lk (pe_dc hc hN hi ok hg ht hk he hs)) fun σ H Q ⟨σd, Hd, Qd, rs, rh, q, k⟩ => dc_gen rs rh q fun H' Hd' D ks ds kvs st hD r' eD nD ek rl z => lock_endK k st hD r' eD nD ek rl z
end
end DL

set_option maxHeartbeats 8000000
namespace DL
open PySem PySem.Spec L2
open PyProof.Rows hiding St
/-! ## set(xs) of a list of ints -/
section
variable {P : Program} {w : World} {A : Around} {E : Value → Shared → Prop} {s : Shared}
/-- a set object as it is born -/
abbrev bornSet (w : World) : Obj := { cls := .type "set", dict := none, data := .set #[] 0 (.fresh 0 0 (!w.params.followText "set-order")) }
theorem call_setL {l : Addr} {items : Array Value} (ns : List Int) {Q : Value → Shared → Prop} (hh : A.handled = none) (hl : s.heap.IsList l items) (hit : IntsAre items.toList ns) (hb : ns.length + 1 < scanBound)
    (fin : ∀ (h' : Heap) (tk c : Nat), SetR w h' s.heap.objs.size (fun j => decide (j ∈ ns)) c → c ≤ ns.length → (∀ b o, s.heap.get? b = some o → h'.get? b = some o) → Q (.ref s.heap.objs.size) { s with heap := h', toks := tk }) :
    wpAny (model P w) A (call (.type "set") [.ref l]) Q E s := by
  have len : items.size = ns.length := (Array.length_toList (xs := items)).symm.trans (IntsAre.length hit)
  have ⟨mc, mt, m0⟩ := F.called_set.mro
  have m1 := F.called_set.made
  have m2 := F.called_set.sub
  have m3 := F.called_set.notType
  have m4 := F.called_set.canCreate
  have m5 := F.typeCall_set_1 (.ref l)
  apply wpAny_call
  apply codeAny_of_tree
  show wpAny _ _ (callAny (.type "set") _) _ _ _
  apply wpAny_pure
  refine ⟨Code.quiet_builtin _ (by decide +kernel), codeAny_builtin F.entry_type_call ?_⟩
  rw [Around.under_plain (weight_type_call_type "set" [.ref l] []) rfl]
  repeat (any_goals (first | assumption | wp_step))
  refine codeAny_mono (code_set_led1 (.ref l) (E := E) (Q₁ := fun o s' => o = .ref s.heap.objs.size ∧ s' = { s with heap := s.heap.push (bornSet w) }) ⟨rfl, rfl⟩) fun r s₁ hr => ?_
  cases r with
  | error e => exact hr
  | ok fl =>
  cases fl with
  | next => exact hr.elim
  | brk => exact hr.elim
  | cont => exact hr.elim
  | ret o =>
  obtain ⟨rfl, rfl⟩ := hr
  have at0 : (s.heap.push (bornSet w)).get? s.heap.objs.size = some (bornSet w) := Heap.get?_push_size _ rfl
  have isS : Shared.TypeIs { s with heap := s.heap.push (bornSet w) } (.ref s.heap.objs.size) "set" := ⟨_, at0, rfl⟩
  have i1 := F.called_set.init.lookup
  have i2 := F.called_set.init.bind (.ref s.heap.objs.size)
  repeat (any_goals (first | assumption | wp_step))
  have new : ∀ {b : Addr} {x : Obj}, s.heap.get? b = some x → b < s.heap.objs.size := fun e => Heap.lt_size e
  -- what the filling leaves
  let W : Value → Shared → Prop := fun r s₂ => r = .none ∧ ∃ h' tk c, s₂ = { s with heap := h', toks := tk } ∧ SetR w h' s.heap.objs.size (fun j => decide (j ∈ ns)) c ∧ c ≤ ns.length ∧ ∀ b x, s.heap.get? b = some x → h'.get? b = some x
  refine codeAny_mono (codeAny_call_builtin (R := wants W E) F.called_set.init.plain F.entry_set_init (check_set_init_1 isS ?_)) fun r₂ s₂ hr₂ => ?_
  · obtain ⟨⟨oc, od, ot, os⟩, g1, g2, gn, g3⟩ := hl
    simp only at g2 g3
    subst g2 g3
    have old : (s.heap.push (bornSet w)).get? l = some { cls := .type "list", dict := od, data := .seq items gn, slots := os } := Heap.get?_push_of_some _ g1
    have k1 := F.sub_list_set
    have k2 := F.sub_list_frozenset
    have k3 : (Value.type "list" == Value.type "dict") = false := by decide
    have isL : (s.heap.push (bornSet w)).IsList l items := ⟨_, old, rfl, gn, rfl⟩
    have ls := new g1
    have sz : (s.heap.push (bornSet w)).objs.size = s.heap.objs.size + 1 := Heap.size_push ..
    unfold Builtin.«set.__init__» noKeywords Builtin.Frozenset.updateFrom
    generalize hI : pyIter = Iter
    wp_walk
    subst hI
    refine wpAny_pyIter_list isL (wpAny_bind (wpAny_runValue ?_))
    have free : A.in1.in1.in1.handled = none := by simp [hh]
    have n1 : l ≠ (s.heap.push (bornSet w)).objs.size := by rw [sz]; exact Nat.ne_of_lt (Nat.lt_succ_of_lt ls)
    have n2 : s.heap.objs.size ∉ [(s.heap.push (bornSet w)).objs.size, l] := by
      rw [sz]
      intro m
      rcases List.mem_cons.mp m with z | z
      · exact absurd z (Nat.ne_of_lt (Nat.lt_succ_self _))
      · rw [List.mem_singleton] at z; exact absurd z (Nat.ne_of_gt ls)
    have vals : ∀ (i : Nat) (v : Value), items[i]? = some v → ∃ k t, ns[i]? = some k ∧ v = .int k t := fun i v e => by
      have hi : i < ns.length := by rw [← len]; exact (Array.getElem?_eq_some_iff.mp e).1
      obtain ⟨t, z⟩ := PyProof.Rows.IntsAre.int_at hit i v (by rw [Array.getElem?_toList]; exact e)
      refine ⟨ns[i], t, List.getElem?_eq_getElem hi, z.trans ?_⟩
      rw [List.getD_eq_getElem?_getD, List.getElem?_eq_getElem hi]; rfl
    refine set_update_ints ((Walks.list free _ l n1 items).toS) s.heap.objs.size n2 ns len hb vals (items.size - 0) 0 _ (by omega) (Nat.zero_le _) ⟨⟨_, Heap.get?_push_size _ rfl, rfl, rfl⟩, isL.push _⟩ ⟨0, Nat.le_refl 0, setR_new_at (Heap.get?_push_of_some _ at0)⟩ ?_
    rintro ⟨h', gs, dr, tk', os'⟩ c' hm hc' hS'
    have e1 : gs = s.gens := hm.gens
    have e2 : dr = s.drawn := hm.drawn
    have e3 : os' = s.os := hm.os
    subst e1 e2 e3
    show wpAny _ _ _ _ _ _
    apply wpAny_pure
    show wpAny _ _ (ret Value.none) _ _ _
    rw [len] at hc'
    refine wpAny_pure ⟨rfl, h', tk', c', rfl, hS', hc', fun b x e => hm.heap b x ?_ (Heap.get?_push_of_some _ (Heap.get?_push_of_some _ e))⟩
    have lb := new e
    intro m
    rcases List.mem_cons.mp m with z | z
    · exact absurd z (Nat.ne_of_lt lb)
    · rcases List.mem_cons.mp z with z | z
      · rw [sz] at z; exact absurd z (Nat.ne_of_lt (Nat.lt_succ_of_lt lb))
      · cases z
  · cases r₂ with
    | error e => exact hr₂
    | ok f₂ =>
      cases f₂ with
      | next => exact hr₂.elim
      | brk => exact hr₂.elim
      | cont => exact hr₂.elim
      | ret r =>
        obtain ⟨rfl, h', tk, c, rfl, q1, q2, q3⟩ := hr₂
        repeat (any_goals (first | assumption | wp_step))
        exact fin h' tk c q1 q2 q3
end
end DL

set_option maxHeartbeats 8000000
namespace DL
open PySem PySem.Spec L2
open PyProof.Rows hiding St
/-! ## set(xs), sorted(set(xs)), sorted(xs), ints -/
def rSetL (K : PySem.W.Frag) (w : World) : List V → Hp → VK → Prop := fun xs H Q => ∃ (a : Addr) (ns : List Int), xs = [.ref a] ∧ SqL K H a (ns.map .int) ∧ ns.length + 1 < scanBound ∧
  ∀ p c, H p = none → c ≤ ns.length → Q (.ref p) (upd H p (SetO w p (fun j => decide (j ∈ ns)) c))
theorem cr_setL {X : Cx} (hc : X.calm = true) : CallR X (.type "set") (rSetL X.K X.w) := by
  intro pins s σ H xs us Q I r ⟨a, ns, e, hs, hb, q⟩
  subst e
  obtain ⟨its, rv, hl, hz⟩ := I.list hs
  rw [Vals.ref1 r]
  refine call_setL ns (I.ok.hd hc) hl.isList (show IntsAre its.toArray.toList ns from ints_of_vals rv) hb fun h' tk c R hcl k => ?_
  have hn := I.hok.fresh (Nat.le_refl s.heap.objs.size)
  have J : Inv X pins σ (upd H s.heap.objs.size (SetO X.w s.heap.objs.size (fun j => decide (j ∈ ns)) c)) { s with heap := h', toks := tk } :=
    I.laid (a := s.heap.objs.size) (h' := h') (t' := tk) (fun b u e => k b u e) (Nat.le_refl _) (setO_new R)
  exact ⟨.ref s.heap.objs.size, _, J, rfl, q _ c hn hcl⟩
section
variable {X : Cx} {e : Expr} {te : DTE} {p p2 pos pos2 : Pos}
/-- the ints of a list -/
def intsL (d : Dv) (H : DH) (k : List Int → Prop) : Prop := seqL d H fun xs => ∃ ns : List Int, xs = ns.map .int ∧ k ns
def dSortSet (te : DTE) : DTE := fun σ H Q => te σ H fun d H1 => intsL d H1 fun ns => ns.length < 64 ∧ ∀ ms : List Int, ms.Pairwise (· < ·) → (∀ k, k ∈ ms ↔ k ∈ ns) → Q (.lsv (ms.map .int)) H1
theorem de_sortSet (hc : X.calm = true) (hg : Gl X "sorted") (hm : X.mg "sorted" = none) (hg2 : Gl X "set") (hm2 : X.mg "set" = none) (he : DE X e te)
    (hs : starEach [e] X.env = (false, eval e X.env) :: starEach [] X.env := by rfl) (hs2 : starEach [.Call (.Name "set" p2) [e] [] pos2] X.env = (false, eval (.Call (.Name "set" p2) [e] [] pos2) X.env) :: starEach [] X.env := by rfl)
    (hp : (backTo pos2 (starEach [] X.env)).any (·.1) = false := by rfl) (hp2 : (backTo pos (starEach [] X.env)).any (·.1) = false := by rfl) :
    DE X (.Call (.Name "sorted" p) [.Call (.Name "set" p2) [e] [] pos2] [] pos) (dSortSet te) :=
  de_of (pe_lk (pe_callB (cr_sortedSet hc) hg hm (by decide +kernel) (pa_cons (pe_callTy (cr_setL hc) hg2 hm2 (by decide +kernel) (pa_cons he pa_nil hs) (by decide) (by decide) hs hp) pa_nil hs2) (by decide) (by decide) hs2 hp2)) fun σ H Q σd Hd Qd rs rh q k =>
    ⟨σd, Hd, _, rs, rh, q, fun v H1 d Hd1 s1 r1 rv q1 => by
      obtain ⟨a, vs, ds, rfl, h, l, ns, e1, lt, q2⟩ := seqL_of r1 rv q1
      subst e1
      have ev := l.nums
      subst ev
      refine ⟨a, ns, rfl, h, by unfold scanBound; omega, fun p c hp hc' => ⟨p, _, c, rfl, upd_same, by omega, fun ms p' asc mem hl hp' => ?_⟩⟩
      exact .inr ⟨p', .lst _, upd_same, True.intro, fun od => by
        rw [upd_upd]
        exact (k.at s1) _ _ (.lsv (ms.map .int)) Hd1 ((Stp.lay hp).trans (.lay hp')) ((r1.lay hp).lay hp') (frz_rep (r1.lay hp) hp' (.ints ms)) (q2 ms asc fun k => by rw [mem k, decide_eq_true_eq])⟩⟩
/-- sorted(xs) of ints, sorted(d) of int keys -/
def intK : List Key → Option (List Int)
  | [] => some []
  | .inl i :: ks => (intK ks).map (i :: ·)
  | .inr _ :: _ => none
theorem intK_map : ∀ {ks : List Key} {ns : List Int}, intK ks = some ns → ks = ns.map Sum.inl
  | [], ns, h => by cases h; rfl
  | .inl i :: ks, ns, h => by
    unfold intK at h
    cases e : intK ks with
    | none => rw [e] at h; cases h
    | some ms => rw [e] at h; cases h; rw [intK_map e]; rfl
  | .inr _ :: _, ns, h => by cases h
def dSortI (te : DTE) : DTE := fun σ H Q => te σ H fun d H1 => match d with
  | .dcv ks ds => ∃ ns, intK ks = some ns ∧ ns.length < 64 ∧ ∀ ms : List Int, ms.Perm ns → ms.Pairwise (· ≤ ·) → Q (.lsv (ms.map .int)) H1
  | d => intsL d H1 fun ns => ∀ ms : List Int, ms.Perm ns → ms.Pairwise (· ≤ ·) → Q (.lsv (ms.map .int)) H1
theorem de_sortI (hc : X.calm = true) (hg : Gl X "sorted") (hm : X.mg "sorted" = none) (he : DE X e te)
    (hs : starEach [e] X.env = (false, eval e X.env) :: starEach [] X.env := by rfl) (hp2 : (backTo pos (starEach [] X.env)).any (·.1) = false := by rfl) : DE X (.Call (.Name "sorted" p) [e] [] pos) (dSortI te) := by
  have both : CallR X (.builtin "sorted") (fun vs H Q => rSortedI X.K vs H Q ∨ ∃ (a : Addr) (kvs : List (Key × V)) (ks : List Int), vs = [.ref a] ∧ Rd H a (.dK kvs) ∧ kvs.map (·.1) = ks.map Sum.inl ∧ ks.length < 64 ∧
    ∀ (ys : List Int) (p : Addr), ys.Perm ks → ys.Pairwise (· ≤ ·) → H p = none → Q (.ref p) (upd H p (.lst (ys.map V.int)))) := fun pins s σ H vs us Q I r h => h.elim (fun h => cr_sortedI pins s σ H vs us Q I r h) fun h => call_sortedDI hc pins s σ H vs us Q I r h
  refine de_of (pe_lk (pe_callB both hg hm (by decide +kernel) (pa_cons he pa_nil hs) (by decide) (by decide) hs hp2)) fun σ H Q σd Hd Qd rs rh q k => ⟨σd, Hd, _, rs, rh, q, fun v H1 d Hd1 s1 r1 rv q1 => ?_⟩
  have last : ∀ (ms : List Int) (p : Addr), H1 p = none → Qd (.lsv (ms.map .int)) Hd1 → Q (.ref p) (upd H1 p (.lst (ms.map V.int))) ∨ ∃ p' u, (upd H1 p (.lst (ms.map V.int))) p' = some u ∧ Mut (some u) ∧ ∀ od, Q (.ref p) (upd (upd H1 p (.lst (ms.map V.int))) p' (.frz od u)) := fun ms p hp q2 =>
    .inr ⟨p, .lst _, upd_same, True.intro, fun od => by rw [upd_upd]; exact (k.at s1) _ _ (.lsv (ms.map .int)) Hd1 (.lay hp) (r1.lay hp) (frz_rep r1 hp (.ints ms)) q2⟩
  have lists : intsL d Hd1 (fun ns => ∀ ms : List Int, ms.Perm ns → ms.Pairwise (· ≤ ·) → Qd (.lsv (ms.map .int)) Hd1) → rSortedI X.K [v] H1 (fun v H => Q v H ∨ ∃ p u, H p = some u ∧ Mut (some u) ∧ ∀ od, Q v (upd H p (.frz od u))) := fun q1 => by
    obtain ⟨a, vs, ds, rfl, h, l, ns, e1, q2⟩ := seqL_of r1 rv q1
    subst e1
    have ev := l.nums
    subst ev
    exact ⟨a, ns, rfl, h, fun ms p pm asc hp => last ms p hp (q2 ms pm asc)⟩
  cases d with
  | dcv ks ds =>
    obtain ⟨ns, ek, lt, q2⟩ := q1
    obtain ⟨a, vs, rfl, ⟨o, kvs, h, e1, e2⟩, l⟩ := rv
    exact .inr ⟨a, kvs, ns, rfl, .inr ⟨o, h⟩, by rw [e1]; exact intK_map ek, lt, fun ms p pm asc hp => last ms p hp (q2 ms pm asc)⟩
  | _ => exact .inl (lists q1)
end
end DL
namespace DL
open PySem PySem.Spec L2
open PyProof.Rows hiding St
/-! ## list(d) of a dict, locked or not -/
def rListK : List V → Hp → VK → Prop := fun xs H Q => ∃ p kvs, xs = [.ref p] ∧ Rd H p (.dK kvs) ∧ ∀ q, H q = none → Q (.ref q) (upd H q (.lst ((kvs.map (·.1)).map kV)))
theorem call_listK {X : Cx} (hc : X.calm = true) : CallR X (.type "list") rListK := by
  intro pins s σ H xs us Q I r ⟨p, kvs, e, hk, q⟩
  subst e
  rw [Vals.ref1 r]
  obtain ⟨z, lo, vs, rk, dd⟩ := dk_rd I.hok hk
  obtain ⟨ep, at0⟩ := dd.dictAt
  have hl : kvs.length = vs.length := Paired.length rk
  have src := PySem.W.kdl_dict (prog := X.prog) (w := X.w) (knd := mixKind X.prog X.w) (kvs := vs) (ep := ep) lo
  refine PySem.W.kdl_call src (I.ok.hd hc) at0 (by rw [← hl]; exact z) fun h' tk acc c keep gS ga => ?_
  have new := I.hok.fresh (Nat.le_refl s.heap.objs.size)
  have items : Vals ((kvs.map (·.1)).map kV) acc.toList := by
    refine vals_of_at (by have l1 : acc.toList.length = acc.size := Array.length_toList; rw [List.length_map, List.length_map, l1, ga.1, hl]) fun j x w e1 e2 => ?_
    rw [Array.getElem?_toList] at e2
    obtain ⟨k, y, e3, e4⟩ := ga.2 j w e2
    rw [List.getElem?_map, KV.keys rk, List.getElem?_map, e3] at e1
    cases e1
    exact keyIs_rel e4
  have ok : ObjOk X.prog X.w (upd H s.heap.objs.size (.lst ((kvs.map (·.1)).map kV))) h' s.heap.objs.size (.lst ((kvs.map (·.1)).map kV)) := ⟨by rw [List.length_map, List.length_map]; exact z, acc.toList, c, items, by rw [Array.toArray_toList]; exact gS⟩
  exact ⟨.ref s.heap.objs.size, _, I.laid keep (Nat.le_refl _) ok, rfl, q _ new⟩
section
variable {X : Cx} {e : Expr} {te : DTE} {p pos : Pos}
def dListA (te : DTE) : DTE := fun σ H Q => te σ H fun d H1 => match d with
  | .dcv ks _ => Q (.lsv (ks.map kD)) H1
  | d => fListF [d] H1 Q
theorem kD_reps {K : PySem.W.Frag} {H : Hp} : ∀ ks : List Key, RepL K H (ks.map kD) (ks.map kV)
  | [] => rfl
  | k :: ks => ⟨_, _, rfl, kD_rep k, kD_reps ks⟩
theorem de_listA (hc : X.calm = true) (hg : Gl X "list") (hm : X.mg "list" = none) (he : DE X e te)
    (hs : starEach [e] X.env = (false, eval e X.env) :: starEach [] X.env := by rfl) (hp2 : (backTo pos (starEach [] X.env)).any (·.1) = false := by rfl) : DE X (.Call (.Name "list" p) [e] [] pos) (dListA te) := by
  have both : CallR X (.type "list") (fun xs H Q => (∃ p ys, xs = [.ref p] ∧ (SqL X.K H p ys ∨ SqT X.K H p ys) ∧ ∀ l, H l = none → Q (.ref l) (upd H l (.lst ys))) ∨ rListK xs H Q) := fun pins s σ H vs us Q I r h => h.elim (fun h => call_list_of pins s σ H vs us Q I r h) fun h => call_listK hc pins s σ H vs us Q I r h
  refine de_of (pe_lk (pe_callTy both hg hm (by decide +kernel) (pa_cons he pa_nil hs) (by decide) (by decide) hs hp2)) fun σ H Q σd Hd Qd rs rh q k => ⟨σd, Hd, _, rs, rh, q, fun v H1 d Hd1 s1 r1 rv q1 => ?_⟩
  have last : ∀ (ds : List Dv) (vs : List V) (p : Addr), RepL X.K H1 ds vs → H1 p = none → Qd (.lsv ds) Hd1 → Q (.ref p) (upd H1 p (.lst vs)) ∨ ∃ p' u, (upd H1 p (.lst vs)) p' = some u ∧ Mut (some u) ∧ ∀ od, Q (.ref p) (upd (upd H1 p (.lst vs)) p' (.frz od u)) := fun ds vs p l hp q2 =>
    .inr ⟨p, .lst _, upd_same, True.intro, fun od => by rw [upd_upd]; exact (k.at s1) _ _ (.lsv ds) Hd1 (.lay hp) (r1.lay hp) (frz_rep r1 hp l) q2⟩
  cases d with
  | dcv ks ds =>
    obtain ⟨a, vs, rfl, ⟨o, kvs, h, e1, e2⟩, l⟩ := rv
    exact .inr ⟨a, kvs, rfl, .inr ⟨o, h⟩, fun p hp => last _ _ p (by rw [e1]; exact kD_reps ks) hp q1⟩
  | tup xs =>
    obtain ⟨a, vs, rfl, h, l⟩ := rv
    exact .inl ⟨a, vs, rfl, .inr h, fun p hp => last _ _ p l hp q1⟩
  | lsv xs =>
    obtain ⟨a, vs, rfl, h, l⟩ := rv
    exact .inl ⟨a, vs, rfl, .inl h.sq, fun p hp => last _ _ p l hp q1⟩
  | ref b =>
    cases (show v = _ from rv)
    obtain ⟨xs, h, q1⟩ := q1
    obtain ⟨vs, e1, l⟩ := r1 _ _ h
    exact .inl ⟨b, vs, rfl, .inl (.of e1), fun p hp => last _ _ p l hp q1⟩
  | _ => exact q1.elim
end
end DL

set_option maxHeartbeats 8000000
namespace DL
open PySem PySem.Spec L2
open PyProof.Rows hiding St
/-! ## sorted(d.items()), int keys and int values -/
def pairOf (as : List Addr) (ps : List (Int × Int)) : Value → Int × Int
  | .ref a => ((as.zip ps).lookup a).getD (0, 0)
  | _ => (0, 0)
theorem pairOf_at : ∀ {as : List Addr} {ps : List (Int × Int)}, as.Nodup → as.length = ps.length → ∀ {j : Nat} {a : Addr} {p : Int × Int}, as[j]? = some a → ps[j]? = some p → pairOf as ps (.ref a) = p
  | [], _, _, _, _, _, _, h, _ => by cases h
  | _ :: _, [], _, h, _, _, _, _, _ => by cases h
  | b :: as, q :: ps, nd, hl, 0, a, p, h1, h2 => by
    cases h1; cases h2
    show ((((b, q) :: as.zip ps).lookup b)).getD (0, 0) = q
    rw [List.lookup_cons_self]; rfl
  | b :: as, q :: ps, nd, hl, j + 1, a, p, h1, h2 => by
    have nd' := List.nodup_cons.mp nd
    have h1' : as[j]? = some a := h1
    have ne : a ≠ b := fun e => nd'.1 (by rw [← e]; exact List.mem_of_getElem? h1')
    have ih := pairOf_at nd'.2 (Nat.succ.inj hl) h1' (show ps[j]? = some p from h2)
    show ((((b, q) :: as.zip ps).lookup a)).getD (0, 0) = p
    have e : (a == b) = false := by simpa using ne
    rw [List.lookup_cons, e]
    exact ih
theorem map_pairOf {as : List Addr} {ps : List (Int × Int)} (nd : as.Nodup) (hl : as.length = ps.length) : (as.map Value.ref).map (pairOf as ps) = ps := by
  apply List.ext_getElem?
  intro j
  rw [List.getElem?_map, List.getElem?_map]
  cases h1 : as[j]? with
  | none =>
    have : ps.length ≤ j := by
      have := List.getElem?_eq_none_iff.mp h1
      omega
    rw [List.getElem?_eq_none this]; rfl
  | some a =>
    have hj : j < ps.length := by
      obtain ⟨h, _⟩ := List.getElem?_eq_some_iff.mp h1
      omega
    have h2 : ps[j]? = some ps[j] := List.getElem?_eq_getElem hj
    rw [h2]
    show some (pairOf as ps (.ref a)) = _
    rw [pairOf_at nd hl h1 h2]
section
variable {P : Program} {w : World} {A : Around} {E : Value → Shared → Prop} {s : Shared}
theorem sorted_view {v d : Addr} {kvs : List (Key × Value)} {ep : Nat} {ps : List (Int × Int)} {Q : Value → Shared → Prop} (hh : A.handled = none) (hz0 : s.heap.objs.size = v + 1) (hv : s.heap.IsItemsView v d) (hm : s.heap.DictAt (mixKind P w) d kvs ep) (hn : kvs.length ≤ sizeLine)
    (hp : Paired (fun (q : Key × Value) (p : Int × Int) => q.1 = .inl p.1 ∧ ∃ t, q.2 = .int p.2 t) kvs ps)
    (fin : ∀ (h' : Heap) (tk : Nat) (B : Addr) (out : List Value) (n : Nat), (∀ b o, s.heap.get? b = some o → h'.get? b = some o) → s.heap.objs.size ≤ B → h'.get? B = some (seqObj "list" out.toArray n) →
      (∃ (as : List Addr), as.Nodup ∧ (∀ a ∈ as, s.heap.objs.size ≤ a) ∧ B ∉ as ∧ (∀ (j : Nat) (a : Addr) (p : Int × Int), as[j]? = some a → ps[j]? = some p → ∃ t u, h'.get? a = some { cls := .type "tuple", data := .seq #[.int p.1 t, .int p.2 u] }) ∧ as.length = ps.length ∧
        SrtO.Srtd (fun x y => SrtO.lexB (pairOf as ps x) (pairOf as ps y)) out ∧ SrtO.Stb (fun x y => SrtO.lexB (pairOf as ps x) (pairOf as ps y)) out (as.map Value.ref)) → Q (.ref B) { s with heap := h', toks := tk }) :
    wpAny (model P w) A (call (.builtin "sorted") [.ref v]) Q E s := by
  have lp : kvs.length = ps.length := Paired.length hp
  apply Calls.call_function_entry kind_sorted plain_sorted entry_sorted (args_sorted1 _)
  unfold Builtin.«sorted»
  apply wpAny_bind (m := checkCount "sorted" 1 1 _)
  apply wpAny_pure
  refine wpAny_bind (PySem.W.kdx_collect (A := A.in1) (knd := mixKind P w) (kvs := kvs) (ep := ep) hh hv hm hn fun h1 tk as keep la G => ?_)
  have nd : as.Nodup := List.Pairwise.imp (fun {a b} (h : a < b) => Nat.ne_of_lt h) G.rise
  have tups : ∀ (j : Nat) (a : Addr) (p : Int × Int), as[j]? = some a → ps[j]? = some p → ∃ t u, h1.get? a = some { cls := .type "tuple", data := .seq #[.int p.1 t, .int p.2 u] } := fun j a p e1 e2 => by
    obtain ⟨key, k, x, e3, e4, e5⟩ := G.pairs j a e1
    obtain ⟨p', e6, e7, t, e8⟩ := LiI.paired_get hp e3
    rw [e2] at e6
    cases e6
    cases (show k = _ from e7)
    cases (show x = _ from e8)
    obtain ⟨t', rfl⟩ := keyIs_rel (k := .inl p.1) e4
    exact ⟨t', t, e5⟩
  have lz : (as.map Value.ref).length ≤ sizeLine := by rw [List.length_map, la]; exact hn
  refine wpAny_bind (wpAny_newList ?_ lz)
  have isL : (h1.push (seqObj "list" (as.map Value.ref).toArray 0)).get? h1.objs.size = some (seqObj "list" (as.map Value.ref).toArray 0) := Heap.get?_push_size _ rfl
  have isP : ∀ u ∈ as.map Value.ref, Srt.IsPair (h1.push (seqObj "list" (as.map Value.ref).toArray 0)) u (pairOf as ps u).1 (pairOf as ps u).2 := fun u hu => by
    obtain ⟨a, ha, rfl⟩ := List.mem_map.mp hu
    obtain ⟨j, hj⟩ := List.mem_iff_getElem?.mp ha
    have hj2 : j < ps.length := by
      obtain ⟨h, _⟩ := List.getElem?_eq_some_iff.mp hj
      omega
    obtain ⟨t, u, e⟩ := tups j a ps[j] hj (List.getElem?_eq_getElem hj2)
    rw [pairOf_at nd (by omega) hj (List.getElem?_eq_getElem hj2)]
    exact ⟨a, _, t, u, 0, rfl, Heap.get?_push_of_some _ e, rfl, rfl⟩
  have lt : ∀ {b : Addr} {o : Obj}, s.heap.get? b = some o → b < h1.objs.size := fun e => Heap.lt_size (keep _ _ e)
  have la' : ∀ a ∈ as, a < h1.objs.size := fun a ha => G.there ha
  refine wpAny_bind (wpAny_holding (wpAny_call_entry slot_list_sort ⟨_, isL, rfl⟩ entry_list_sort (SrtO.list_sort_ord (SrtO.swo_lex (pairOf as ps)) isL lz (fun h2 => SrtO.pairs_sortableO (by omega) isP fun o e => ?_) fun out hs hb => ⟨_, rfl, ?_⟩) (args_list_sort _)))
  · rw [isL] at e
    cases e
    intro c
    exact absurd (Value.type.inj c) (by decide)
  · obtain ⟨n, at1⟩ := sortedHeap_at (vs := as.map Value.ref) (out := out.toArray) isL
    have old : ∀ b o, h1.get? b = some o → (sortedHeap (h1.push (seqObj "list" (as.map Value.ref).toArray 0)) h1.objs.size (as.map Value.ref) out.toArray).get? b = some o := fun b o e => by
      have l := Heap.lt_size e
      rw [sortedHeap_old (Nat.ne_of_lt l) (by rw [size_push']; exact Nat.lt_succ_of_lt l)]
      exact Heap.get?_push_of_some _ e
    have grow : s.heap.objs.size ≤ h1.objs.size := by
      obtain ⟨o, ho, _⟩ := hv
      exact Nat.le_trans (Nat.le_of_eq hz0) (lt ho)
    exact wpAny_pure ⟨_, rfl, fin _ tk _ out n (fun b o e => old b o (keep b o e)) grow at1 ⟨as, nd, fun a ha => Nat.le_of_lt (G.above a ha), fun z => Nat.lt_irrefl _ (la' _ z), fun j a p e1 e2 => by
      obtain ⟨t, u, e⟩ := tups j a p e1 e2
      exact ⟨t, u, old _ _ e⟩, by omega, hs, hb⟩⟩
end
/-- the pairs of a dict, ints all -/
def pairsI : List Key → List Dv → Option (List (Int × Int))
  | [], [] => some []
  | .inl k :: ks, .int x :: ds => (pairsI ks ds).map ((k, x) :: ·)
  | _, _ => none
def tupI (p : Int × Int) : Dv := .tup [.int p.1, .int p.2]
def lexLe (p q : Int × Int) : Prop := p.1 < q.1 ∨ (p.1 = q.1 ∧ p.2 ≤ q.2)
section
variable {X : Cx} {o : Expr} {te : DTE} {p pos apos cpos : Pos}
def dSortIt (te : DTE) : DTE := fun σ H Q => te σ H fun d H1 => match d with
  | .dcv ks ds => ∃ ps, pairsI ks ds = some ps ∧ ∀ ms : List (Int × Int), ms.Perm ps → ms.Pairwise lexLe → Q (.lsv (ms.map tupI)) H1
  | _ => False
/-- new things are laid, the old ones stand -/
theorem lay_many {pins : List (Addr × Obj)} {σ : St} {H H' : Hp} {s : Shared} {h' : Heap} {tk : Nat} (I : Inv X pins σ H s) (keep : ∀ b o, s.heap.get? b = some o → h'.get? b = some o) (k : ∀ b u, H b = some u → H' b = some u)
    (new : ∀ b u, H' b = some u → H b = some u ∨ (s.heap.objs.size ≤ b ∧ ObjOk X.prog X.w H' h' b u)) : Inv X pins σ H' { s with heap := h', toks := tk } := by
  have low : ∀ b o, s.heap.get? b = some o → ¬ s.heap.objs.size ≤ b := fun b o e z => absurd (Heap.lt_size e) (Nat.not_lt.mpr z)
  have u : Un (frs X.stack) [] H H' s.heap h' := {
    keep := fun b o e _ _ _ => keep b o e
    slot := fun b o e _ _ _ => ⟨o.slots, keep b o e⟩
    free := fun b o e n _ => by
      cases z : H' b with
      | none => rfl
      | some x =>
        rcases new b x z with y | y
        · rw [n] at y; cases y
        · exact absurd y.1 (low b o e)
    there := fun b o e _ => ⟨o, keep b o e⟩
    tups := fun b xs e => k b _ e
    frzs := fun b o x e => k b _ e
    tbls := fun b ps e => ⟨#[], by rw [k b _ e, Array.append_empty]⟩ }
  have ok : HOk X.prog X.w H' h' := fun b x e => by
    rcases new b x e with y | y
    · exact (I.hok b x y).stay (fun d o _ z => keep d o z) (fun d z => k d _ z) fun d xs z => k d _ z
    · exact y.2
  exact I.call' (s' := { s with heap := h', toks := tk }) (ch := []) rfl u ok I.bare fun b z => nomatch z
def pairV2 (p : Int × Int) : Key × V := (.inl p.1, .int p.2)
theorem pairs_of2 : ∀ {kvs : List (Key × V)} {vs : List (Key × Value)} {ps : List (Int × Int)}, KV kvs vs → kvs = ps.map pairV2 → Paired (fun (q : Key × Value) (p : Int × Int) => q.1 = .inl p.1 ∧ ∃ t, q.2 = .int p.2 t) vs ps
  | _, _, [], r, h => by subst h; cases r; exact .nil
  | _, _, p :: ps, r, h => by
    subst h
    cases r with
    | @cons a b as bs r1 r2 =>
    obtain ⟨q1, t, q2⟩ := r1
    exact .cons ⟨q1.symm, t, q2⟩ (pairs_of2 r2 rfl)
theorem paired_maps {α β γ : Type} {F : β → γ → Prop} {f : α → β} {g : α → γ} : ∀ {l : List α}, (∀ u ∈ l, F (f u) (g u)) → Paired F (l.map f) (l.map g)
  | [], _ => .nil
  | x :: l, h => .cons (h x List.mem_cons_self) (paired_maps fun u hu => h u (List.mem_cons_of_mem _ hu))
theorem kvs_pairs {K : PySem.W.Frag} {H : Hp} : ∀ {kvs : List (Key × V)} {ds : List Dv} {ps : List (Int × Int)}, RepL K H ds (kvs.map (·.2)) → pairsI (kvs.map (·.1)) ds = some ps → kvs = ps.map pairV2
  | [], ds, ps, l, h => by
    have : ds = [] := List.eq_nil_of_length_eq_zero l.length
    subst this
    cases h; rfl
  | (k, v) :: kvs, [], ps, l, h => by
    have l' : v :: kvs.map (·.2) = [] := l
    cases l'
  | (k, v) :: kvs, d :: ds, ps, l, h => by
    obtain ⟨v', t, e1, l1, l2⟩ := l
    have e1' : v :: kvs.map (·.2) = v' :: t := e1
    cases e1'
    rw [List.map_cons] at h
    cases k with
    | inr x => cases d <;> cases h
    | inl k =>
      cases d with
      | int x =>
        have h' : (pairsI (kvs.map (·.1)) ds).map ((k, x) :: ·) = some ps := h
        cases e : pairsI (kvs.map (·.1)) ds with
        | none => rw [e] at h'; cases h'
        | some ps' =>
          rw [e] at h'
          cases h'
          cases (show v = _ from l1)
          rw [kvs_pairs l2 e]; rfl
      | _ => cases h
def addrOf : Value → Addr
  | .ref a => a
  | _ => 0
theorem pe_sortIt {td : TE} (hc : X.calm = true) (hg : Gl X "sorted") (hm : X.mg "sorted" = none) (he : PE X o td) (hbase : attributeBase o "items" X.env (eval o X.env) = eval o X.env := by rfl) (hline : (apos.endLine == cpos.line) = true := by rfl)
    (hs : starEach [.Call (.Attribute o "items" apos) [] [] cpos] X.env = (false, eval (.Call (.Attribute o "items" apos) [] [] cpos) X.env) :: starEach [] X.env := by rfl) (hp2 : (backTo pos (starEach [] X.env)).any (·.1) = false := by rfl) :
    PE X (.Call (.Name "sorted" p) [.Call (.Attribute o "items" apos) [] [] cpos] [] pos) (fun σ H Q => td σ H fun x H1 => ∃ d kvs ps, x = .ref d ∧ Rd H1 d (.dK kvs) ∧ kvs = ps.map pairV2 ∧
      ∀ (H2 : Hp) (B : Addr) (ts : List Addr) (ms : List (Int × Int)), (∀ b u, H1 b = some u → H2 b = some u) → H1 B = none → (∀ t ∈ ts, H1 t = none) → (∀ b, b ≠ B → b ∉ ts → H2 b = H1 b) → H2 B = some (.lst (ts.map V.ref)) → Paired (fun t m => H2 t = some (.tup [.int m.1, .int m.2])) ts ms → ms.Perm ps → ms.Pairwise lexLe → Q (.ref B) H2) := by
  refine ⟨fun pins s σ H Q I hq => ?_⟩
  refine wpAny_Call_Name_kw (ld_blt (u := .builtin "sorted") I hg hm (by decide +kernel) ?_)
  refine PyProof.Rows.callWith_builtin1 ?_ hs hp2
  rw [hs]
  show wpAny _ _ (spliced ((false, eval (.Call (.Attribute o "items" apos) [] [] cpos) X.env) :: backTo pos (starEach [] X.env))) _ _ s
  apply Calls.spliced_cons
  refine wpAny_Call_method (T := "dict") (id := "dict.items") hbase rfl hline F.plainAttrs_dict F.slot_dict_items F.type_dict_items (thn (he.run pins s σ H _ I hq) fun u s1 ⟨x, H1, I1, rx, d, kvs, ps, ex, hd, ekv, q⟩ => ?_)
  subst ex
  cases rx
  obtain ⟨hz, lo, vs, rk, dd⟩ := dk_rd I1.hok hd
  obtain ⟨ep, at0⟩ := dd.dictAt
  have lk : kvs.length = vs.length := Paired.length rk
  have view : Inv X pins σ H1 { s1 with heap := s1.heap.push { cls := .type "dict_items", data := .fields #[.ref d] } } := I1.kept (t' := s1.toks) fun b ob e => Heap.get?_push_of_some _ e
  have isV : Heap.IsItemsView (s1.heap.push { cls := .type "dict_items", data := .fields #[.ref d] }) s1.heap.objs.size d := ⟨_, Heap.get?_push_size _ rfl, rfl, rfl⟩
  have prs : Paired (fun (q : Key × Value) (p : Int × Int) => q.1 = .inl p.1 ∧ ∃ t, q.2 = .int p.2 t) vs ps := pairs_of2 rk ekv
  refine ⟨dd.typeIs, dd.mapOf.noDict, ?_⟩
  show wpAny _ _ (callWith cpos (.builtin "dict.items") [.ref d] [] []) _ X.xe s1
  refine method_meetsIn F.slot_dict_items F.entry_dict_items rfl (PySem.evalArgs_none ⟨rfl, dd.typeIs, F.args_dict_items_1 _, _, meets_dict_items (mixKind X.prog X.w) d lo, ⟨vs, dd⟩, Calls.spliced_nil ?_⟩)
  refine sorted_view (s := { s1 with heap := s1.heap.push { cls := .type "dict_items", data := .fields #[.ref d] } }) (ps := ps) (I1.ok.hd hc) (Heap.size_push ..) isV (at0.push _) (by rw [← lk]; exact hz) prs fun h' tk B out n keep hB atB ⟨as, nd, hi, nB, tups, la, srt, stb⟩ => ?_
  have fresh : ∀ b, s1.heap.objs.size ≤ b → H1 b = none := fun b hb => I1.hok.fresh hb
  have up : s1.heap.objs.size ≤ (s1.heap.push { cls := .type "dict_items", data := .fields #[.ref d] }).objs.size := by rw [Heap.size_push]; exact Nat.le_succ _
  have mem : ∀ u ∈ out, ∃ a ∈ as, u = .ref a := fun u hu => by
    obtain ⟨a, ha, e⟩ := List.mem_map.mp (stb.perm.mem_iff.mp hu)
    exact ⟨a, ha, e.symm⟩
  let ts : List Addr := out.map addrOf
  let ms : List (Int × Int) := out.map (pairOf as ps)
  have eo : out = ts.map Value.ref := by
    show out = (out.map addrOf).map Value.ref
    rw [List.map_map]
    refine (List.map_id out).symm.trans (List.map_congr_left fun u hu => ?_)
    obtain ⟨a, _, rfl⟩ := mem u hu
    rfl
  have mt : ∀ t ∈ ts, t ∈ as := fun t ht => by
    obtain ⟨u, hu, rfl⟩ := List.mem_map.mp ht
    obtain ⟨a, ha, rfl⟩ := mem u hu
    exact ha
  let H2 : Hp := fun b => if b = B then some (.lst (ts.map V.ref)) else if b ∈ as then some (.tup [.int (pairOf as ps (.ref b)).1, .int (pairOf as ps (.ref b)).2]) else H1 b
  have h2B : H2 B = some (.lst (ts.map V.ref)) := if_pos rfl
  have h2t : ∀ a ∈ as, H2 a = some (.tup [.int (pairOf as ps (.ref a)).1, .int (pairOf as ps (.ref a)).2]) := fun a ha => by
    have : a ≠ B := fun e => nB (e ▸ ha)
    show (if a = B then _ else if a ∈ as then _ else _) = _
    rw [if_neg this, if_pos ha]
  have h2o : ∀ b, b ≠ B → b ∉ as → H2 b = H1 b := fun b e1 e2 => by
    show (if b = B then _ else if b ∈ as then _ else _) = _
    rw [if_neg e1, if_neg e2]
  have kp : ∀ b u, H1 b = some u → H2 b = some u := fun b u e => by
    rw [h2o b (fun z => by rw [z, fresh B (Nat.le_trans up hB)] at e; cases e) (fun z => by rw [fresh b (Nat.le_trans up (hi b z))] at e; cases e)]
    exact e
  have J : Inv X pins σ H2 { s1 with heap := h', toks := tk } := by
    refine lay_many (s := { s1 with heap := s1.heap.push { cls := .type "dict_items", data := .fields #[.ref d] } }) (tk := tk) view keep kp fun b u e => ?_
    by_cases e1 : b = B
    · subst e1
      rw [h2B] at e
      cases e
      have len : (ts.map V.ref).length ≤ sizeLine := by
        rw [List.length_map, List.length_map, stb.perm.length_eq, List.length_map, la, ← Paired.length prs, ← lk]; exact hz
      exact .inr ⟨hB, len, out, n, by rw [eo]; exact LiI.vals_refs ts, atB⟩
    · by_cases e2 : b ∈ as
      · rw [h2t b e2] at e
        cases e
        obtain ⟨j, hj⟩ := List.mem_iff_getElem?.mp e2
        have hj2 : j < ps.length := by
          obtain ⟨h, _⟩ := List.getElem?_eq_some_iff.mp hj
          omega
        obtain ⟨t, u, e3⟩ := tups j b ps[j] hj (List.getElem?_eq_getElem hj2)
        rw [pairOf_at nd la hj (List.getElem?_eq_getElem hj2)]
        exact .inr ⟨hi b e2, by show 2 ≤ sizeLine; decide, [.int ps[j].1 t, .int ps[j].2 u], .cons ⟨t, rfl⟩ (.cons ⟨u, rfl⟩ .nil), ⟨_, e3, rfl, _, rfl⟩⟩
      · rw [h2o b e1 e2] at e
        exact .inl e
  have perm : ms.Perm ps := by
    have := stb.perm.map (pairOf as ps)
    rw [map_pairOf nd la] at this
    exact this
  have asc : ms.Pairwise lexLe := by
    refine List.pairwise_map.mpr (List.Pairwise.imp (fun {x y} h => ?_) srt)
    have h := SrtO.lexB_no.mp h
    unfold lexLe
    omega
  exact ⟨.ref B, H2, J, rfl, q H2 B ts ms kp (fresh B (Nat.le_trans up hB)) (fun t ht => fresh t (Nat.le_trans up (hi t (mt t ht)))) (fun b e1 e2 => by
    by_cases e3 : b ∈ as
    · exfalso
      have : Value.ref b ∈ out := stb.perm.mem_iff.mpr (List.mem_map.mpr ⟨b, e3, rfl⟩)
      exact e2 (List.mem_map.mpr ⟨_, this, rfl⟩)
    · exact h2o b e1 e3) h2B (paired_maps fun u hu => by
      obtain ⟨a, ha, rfl⟩ := mem u hu
      exact h2t a ha) perm asc⟩
theorem rep_tups {K : PySem.W.Frag} {H : Hp} : ∀ {ts : List Addr} {ms : List (Int × Int)}, Paired (fun t m => H t = some (.tup [.int m.1, .int m.2])) ts ms → RepL K H (ms.map tupI) (ts.map V.ref)
  | _, _, .nil => rfl
  | _, _, .cons h r => ⟨_, _, rfl, ⟨_, _, rfl, .of h, _, _, rfl, rfl, _, _, rfl, rfl, rfl⟩, rep_tups r⟩
theorem de_sortIt (hc : X.calm = true) (hg : Gl X "sorted") (hm : X.mg "sorted" = none) (he : DE X o te) (hbase : attributeBase o "items" X.env (eval o X.env) = eval o X.env := by rfl) (hline : (apos.endLine == cpos.line) = true := by rfl)
    (hs : starEach [.Call (.Attribute o "items" apos) [] [] cpos] X.env = (false, eval (.Call (.Attribute o "items" apos) [] [] cpos) X.env) :: starEach [] X.env := by rfl) (hp2 : (backTo pos (starEach [] X.env)).any (·.1) = false := by rfl) :
    DE X (.Call (.Name "sorted" p) [.Call (.Attribute o "items" apos) [] [] cpos] [] pos) (dSortIt te) :=
  de_of (pe_lk (pe_sortIt hc hg hm he hbase hline hs hp2)) fun σ H Q σd Hd Qd rs rh q k => ⟨σd, Hd, _, rs, rh, q, fun v H1 d Hd1 s1 r1 rv q1 => by
    cases d with
    | dcv ks ds =>
      obtain ⟨ps, ep, q2⟩ := q1
      obtain ⟨a, vs, rfl, ⟨od, kvs, h, e1, e2⟩, l⟩ := rv
      subst e1 e2
      refine ⟨a, kvs, ps, rfl, .inr ⟨od, h⟩, kvs_pairs l ep, fun H2 B ts ms kp nB nt off hB pr perm asc => .inr ⟨B, .lst _, hB, True.intro, fun od' => ?_⟩⟩
      have keepF : ∀ b u, H1 b = some u → (upd H2 B (.frz od' (.lst (ts.map V.ref)))) b = some u := fun b u e => by
        rw [upd_ne (fun z => by rw [z, nB] at e; cases e)]
        exact kp b u e
      have st : Stp H1 Hd1 (upd H2 B (.frz od' (.lst (ts.map V.ref)))) Hd1 := ⟨fun b u e _ => keepF b u e, (fun b e => by
        cases z : H1 b with
        | none => exact absurd z e
        | some u =>
          rw [keepF b u z]
          exact (fun q => nomatch q)), fun _ e => .inl e⟩
      have rF : RepH X.K (upd H2 B (.frz od' (.lst (ts.map V.ref)))) Hd1 := fun b u e => (r1 b u e).keep st r1 (by
        cases z : H1 b with
        | none => rw [r1.free z] at e; cases e
        | some x => exact keepF b x z)
      have prF : Paired (fun t m => (upd H2 B (.frz od' (.lst (ts.map V.ref)))) t = some (.tup [.int m.1, .int m.2])) ts ms := Paired.mapP pr fun t m e => by
        rw [upd_ne (fun z => by rw [z, hB] at e; cases e)]
        exact e
      exact (k.at s1) _ _ (.lsv (ms.map tupI)) Hd1 st rF ⟨B, _, rfl, .inl ⟨od', upd_same⟩, rep_tups prF⟩ (q2 ms perm asc)
    | _ => exact q1.elim⟩
end
end DL

set_option maxHeartbeats 8000000
namespace DL
open PySem PySem.Spec L2
open PyProof.Rows hiding St
/-! ## x += e -/
def fIadd : D2 := fun x y H Q => match x, y with
  | .int i, .int j => Q (.int (i + j)) H
  | .str i, .str j => i.length + j.length ≤ sizeLine ∧ Q (.str (i ++ j)) H
  | .ref p, .ref b => ∃ xs ys, H p = some (.lst xs) ∧ H b = some (.lst ys) ∧ xs.length + ys.length ≤ sizeLine ∧ Q (.ref p) (upD H p (.lst (xs ++ ys)))
  | _, _ => False
section
variable {X : Cx}
theorem op_iaddAll : OpR X (inplaceOp .Add) (fun x y H Q => rI0 (fun i j => .int (i + j)) x y H Q ∨ (∃ i j, x = .str i ∧ y = .str j ∧ i.length + j.length ≤ sizeLine ∧ Q (.str (i ++ j)) H) ∨ rExt2 x y H Q) := OpR.or iop_add (OpR.or iop_add_str iop_ext)
theorem iadd_ok {K : PySem.W.Frag} : R2Ok K (fun x y H Q => rI0 (fun i j => .int (i + j)) x y H Q ∨ (∃ i j, x = .str i ∧ y = .str j ∧ i.length + j.length ≤ sizeLine ∧ Q (.str (i ++ j)) H) ∨ rExt2 x y H Q) fIadd := by
  intro H Hd x y dx dy Q Qd rh rx ry q k
  unfold fIadd at q
  split at q
  · exact .inl ⟨_, _, rx, ry, k _ H (.int _) Hd .refl rh rfl q⟩
  · exact .inr (.inl ⟨_, _, rx, ry, q.1, k _ H (.str _) Hd .refl rh rfl q.2⟩)
  · obtain ⟨xs, ys, h1, h2, hz, q⟩ := q
    obtain ⟨vs, e1, l1⟩ := rh _ _ h1
    obtain ⟨us, e2, l2⟩ := rh _ _ h2
    refine .inr (.inr ⟨_, _, vs, us, rx, ry, e1, e2, by rw [← l1.length, ← l2.length]; exact hz, ?_⟩)
    exact k _ _ (.ref _) _ (.put h1) (rh.put h1 (l1.append l2)) rfl q
  · exact q.elim
end
/-! ## f(k = e, ..) in any order -/
structure KwOkP (K : PySem.W.Frag) (fd : FuncData) (ps ks : List Str) (π : List Nat) : Prop where
  to : ∀ (s : Shared) (ws : List Value), K.In s.heap → ws.length = ks.length → BindsTo s fd ⟨[], ks.zip ws⟩ (ps.zip (π.map fun i => ws.getD i .none))
  len : ks.length = ps.length
  perm : π.length = ps.length ∧ ∀ i ∈ π, i < ps.length
def dCallP (n : Nat) (sp : DSp) (π : List Nat) (t : DTA) : DTE := fun σ H Q => t σ H fun xs H1 => xs.length = n ∧ sp (π.map fun i => nth xs i) H1 Q
theorem vals_pick {ws : List Value} {zs : List V} (r : Vals zs ws) : ∀ {π : List Nat}, (∀ i ∈ π, i < ws.length) → Vals (π.map fun i => zs.getD i .non) (π.map fun i => ws.getD i .none)
  | [], _ => .nil
  | i :: π, h => by
    have hi := h i List.mem_cons_self
    have hz : i < zs.length := by rw [r.length]; exact hi
    obtain ⟨w, e, q⟩ := r.get (List.getElem?_eq_getElem hz)
    refine .cons ?_ (vals_pick r fun j hj => h j (List.mem_cons_of_mem _ hj))
    show RelV (zs.getD i .non) (ws.getD i .none)
    rw [List.getD_eq_getElem?_getD, List.getD_eq_getElem?_getD, e, List.getElem?_eq_getElem hz]
    exact q
theorem repL_pick {K : PySem.W.Frag} {H : Hp} {ds : List Dv} {vs : List V} (l : RepL K H ds vs) : ∀ {π : List Nat}, (∀ i ∈ π, i < ds.length) → RepL K H (π.map fun i => nth ds i) (π.map fun i => vs.getD i .non)
  | [], _ => rfl
  | i :: π, h => by
    obtain ⟨v, e, q⟩ := l.get (nth_at (h i List.mem_cons_self))
    refine ⟨_, _, rfl, ?_, repL_pick l fun j hj => h j (List.mem_cons_of_mem _ hj)⟩
    show Rep K H (nth ds i) (vs.getD i .non)
    rw [List.getD_eq_getElem?_getD, e]
    exact q
section
variable {X : Cx} {k : Nat} {f : Addr} {fd : FuncData} {ps ks : List Str} {π : List Nat} {sp : DSp} {x : Str} {p pos : Pos} {kws : List Keyword} {tk : DTA}
theorem de_callP {CX : CXT} (F : FnOk X.prog X.w X.K X.mg X.base CX k f fd ps (lSp X.K sp)) (hr : Room k X.A) (hg : Gl X x) (hm : X.mg x = some (.ref f)) (hk : PySem.W.keepIn X.K (.ref f) = true) (hb : KwOkP X.K fd ps ks π) (hx : Passes CX X E0)
    (hkw : DK X kws tk) {n : Nat} (hn : ks.length = n) (hall : (backToKw pos (keywordEach kws X.env)).all (·.1.isSome) = true := by rfl) (hks : (backToKw pos (keywordEach kws X.env)).filterMap (·.1) = ks := by rfl)
    (hdb : (x == ("__debug__" : Str)) = false := by decide) (hpl : ((backTo pos (starEach [] X.env)).any (·.1) || (backToKw pos (keywordEach kws X.env)).any (·.1.isNone)) = false := by rfl) :
    DE X (.Call (.Name x p) [] kws pos) (dCallP n sp π tk) := by
  subst hn
  refine ⟨fun pins s σ H Q I ⟨σd, Hd, Qd, rs, rh, q, kk⟩ => ?_⟩
  refine wpAny_Call_Name_kw (ld_glob I hg hm ?_ hdb)
  refine PySem.W.callWith_KW0 (h₀ := X.base) I.ok.mod.kin hk hall ?_ hpl
  refine thn (hkw.run pos pins s σ H (fun vs H1 => ∃ xs Hd1, Stp H Hd H1 Hd1 ∧ RepH X.K H1 Hd1 ∧ RepL X.K H1 xs vs ∧ xs.length = ks.length ∧ sp (π.map fun i => nth xs i) Hd1 Qd) I ⟨σd, Hd, _, rs, rh, q, fun vs H1 xs Hd1 s1 r1 rl ⟨q0, q1⟩ => ⟨xs, Hd1, s1, r1, rl, q0, q1⟩⟩)
    fun ws s2 ⟨zs, H2, I2, rz, xs, Hd1, s1, r1, rl, ql, q1⟩ => ⟨I2.kIn, ?_⟩
  rw [hks]
  have lw : ws.length = ks.length := by rw [← rz.length, ← rl.length]; exact ql
  have hπ : ∀ i ∈ π, i < ks.length := fun i hi => by rw [hb.len]; exact hb.perm.2 i hi
  have want : lSp X.K sp (π.map fun i => zs.getD i .non) H2 Q E0 := ⟨_, Hd1, Qd, repL_pick rl (fun i hi => by rw [ql]; exact hπ i hi), r1, q1, kk.at s1⟩
  have rz2 : Vals (π.map fun i => zs.getD i .non) (π.map fun i => ws.getD i .none) := vals_pick rz fun i hi => by rw [lw]; exact hπ i hi
  refine wpAny_call (codeAny_mono (F.run X.A X.stack s2 H2 ⟨[], ks.zip ws⟩ (π.map fun i => ws.getD i .none) _ Q E0 hr I2.env0 (hb.to s2 ws I2.kIn lw) rz2 want) fun r s' hq => ?_)
  cases r with
  | error e => exact hx pins σ H2 s2 e s' I2 hq
  | ok fl =>
    cases fl with
    | ret u => exact I2.after hq
    | next => exact False.elim hq
    | brk => exact False.elim hq
    | cont => exact False.elim hq
end
end DL

set_option maxHeartbeats 4000000
namespace DL
open PySem PySem.Spec L2
open PyProof.Rows hiding St
/-! ## what is raised, by value: the class by its name in the module, the fields -/
abbrev DXK := Str → List (Str × Dv) → DH → Prop
def RepX (K : PySem.W.Frag) (mg : Str → Option Value) (H : Hp) (cls : Value) (d : Option Addr) (n : Str) (fs : List (Str × Dv)) : Prop :=
  mg n = some cls ∧ match d with
    | none => fs = []
    | some a => ∃ vs, H a = some (.xd vs) ∧ vs.map (·.1) = fs.map (·.1) ∧ RepL K H (fs.map (·.2)) (vs.map (·.2))
/-- what is wanted of something raised, below and above -/
def KXe (K : PySem.W.Frag) (mg : Str → Option Value) (E : XK) (H : Hp) (Hd : DH) (Ed : DXK) : Prop := ∀ cls d n fs H' Hd', Stp H Hd H' Hd' → RepH K H' Hd' → RepX K mg H' cls d n fs → Ed n fs Hd' → E cls d H'
def KX (K : PySem.W.Frag) (mg : Str → Option Value) (W : WX) (H : Hp) (Hd : DH) (ex : Str → List (Str × Dv) → DS → DH → Prop) : Prop :=
  ∀ cls d n fs σ' H' σd' Hd', Stp H Hd H' Hd' → RepH K H' Hd' → RepS K H' σd' σ' → RepX K mg H' cls d n fs → ex n fs σd' Hd' → W cls d σ' H'
def lSx (K : PySem.W.Frag) (mg : Str → Option Value) (W : WX) (t : DTS) : TS := fun D σ H => ∃ σd Hd Dd, RepS K H σd σ ∧ RepH K H Hd ∧ t Dd σd Hd ∧ KS K H Hd Dd.nx D.nx ∧ KE K H Hd Dd.rt D.rt ∧ KS K H Hd Dd.bk D.bk ∧ KS K H Hd Dd.ct D.ct ∧ KX K mg W H Hd Dd.ex
section
variable {K : PySem.W.Frag} {mg : Str → Option Value} {H H' : Hp} {Hd Hd' : DH}
theorem KXe.at (s : Stp H Hd H' Hd') {Ed : DXK} {E : XK} (k : KXe K mg E H Hd Ed) : KXe K mg E H' Hd' Ed := fun cls d n fs H2 Hd2 t => k cls d n fs H2 Hd2 (s.trans t)
theorem KX.at (s : Stp H Hd H' Hd') {W : WX} {ex : Str → List (Str × Dv) → DS → DH → Prop} (k : KX K mg W H Hd ex) : KX K mg W H' Hd' ex := fun cls d n fs σ2 H2 σd2 Hd2 t => k cls d n fs σ2 H2 σd2 Hd2 (s.trans t)
end
abbrev DStx (X : Cx) (W : WX) (st : Stmt) (t : DTS) : Prop := PS X st (lSx X.K X.mg W t)
abbrev DSsx (X : Cx) (W : WX) (sts : List Stmt) (t : DTS) : Prop := PSs X sts (lSx X.K X.mg W t)
section
variable {X : Cx} {W : WX} {st : Stmt} {rest body : List Stmt} {e c tg iter : Expr} {te : DTE} {tc : DTT} {t u tb : DTS} {g : DTG} {it : DTI} {pos : Pos}
theorem dsx_lift (h : DSt X st t) : DStx X W st t := ps_mono h fun D σ H ⟨σd, Hd, Dd, rs, rh, q, k1, k2, k3, k4, _⟩ => ⟨σd, Hd, Dd, rs, rh, q, k1, k2, k3, k4⟩
theorem dssx_lift {sts : List Stmt} (h : DSs X sts t) : DSsx X W sts t := pss_mono h fun D σ H ⟨σd, Hd, Dd, rs, rh, q, k1, k2, k3, k4, _⟩ => ⟨σd, Hd, Dd, rs, rh, q, k1, k2, k3, k4⟩
theorem dsx_of {t : TS} {td : DTS} (h : PS X st t) (i : ∀ D σ H σd Hd Dd, RepS X.K H σd σ → RepH X.K H Hd → td Dd σd Hd → KS X.K H Hd Dd.nx D.nx → KE X.K H Hd Dd.rt D.rt → KS X.K H Hd Dd.bk D.bk → KS X.K H Hd Dd.ct D.ct → KX X.K X.mg W H Hd Dd.ex → t D σ H) : DStx X W st td :=
  ps_mono h fun D σ H ⟨σd, Hd, Dd, rs, rh, q, k1, k2, k3, k4, k5⟩ => i D σ H σd Hd Dd rs rh q k1 k2 k3 k4 k5
theorem dssx_nil : DSsx X W [] dNext := dssx_lift dss_nil
theorem dssx_cons (h : DStx X W st t) (h' : DSsx X W rest u) : DSsx X W (st :: rest) (dSeq t u) :=
  pss_mono (pss_cons h h') fun D σ H ⟨σd, Hd, Dd, rs, rh, q, k1, k2, k3, k4, k5⟩ =>
    ⟨σd, Hd, { Dd with nx := u Dd }, rs, rh, q, fun σ' H' σd' Hd' s' r' rs' q' => ⟨σd', Hd', Dd, rs', r', q', k1.at s', k2.at s', k3.at s', k4.at s', k5.at s'⟩, k2, k3, k4, k5⟩
theorem dssx_one (h : DStx X W st t) : DSsx X W [st] t := pss_one h
theorem dssx_cut (h : DStx X W st t) (h' : DSsx X W rest u) : DSsx X W (st :: rest) (dCut t u) :=
  pss_mono (pss_cons h h') fun D σ H ⟨σd, Hd, Dd, rs, rh, ⟨M, q, m⟩, k1, k2, k3, k4, k5⟩ =>
    ⟨σd, Hd, { Dd with nx := M }, rs, rh, q, fun σ' H' σd' Hd' s' r' rs' q' => ⟨σd', Hd', Dd, rs', r', m _ _ q', k1.at s', k2.at s', k3.at s', k4.at s', k5.at s'⟩, k2, k3, k4, k5⟩
theorem dsx_if {a b : List Stmt} (hc : DT X c tc) (ha : DSsx X W a t) (hb : DSsx X W b u) : DStx X W (.If c a b pos) (dIf tc t u) :=
  dsx_of (ps_if hc ha hb) fun D σ H σd Hd Dd rs rh q k1 k2 k3 k4 k5 => ⟨σd, Hd, _, rs, rh, q, fun k H1 Hd1 s1 r1 q1 => by
    cases k with
    | true => rw [if_pos rfl]; exact ⟨σd, Hd1, Dd, s1.repS rh rs, r1, q1.1 rfl, k1.at s1, k2.at s1, k3.at s1, k4.at s1, k5.at s1⟩
    | false => rw [if_neg Bool.false_ne_true]; exact ⟨σd, Hd1, Dd, s1.repS rh rs, r1, q1.2 rfl, k1.at s1, k2.at s1, k3.at s1, k4.at s1, k5.at s1⟩⟩
theorem dsx_for (hp : PassesOwn (model X.prog X.w) X.A X.env X.xe) (hc : X.calm = true) (hi : DI X tg iter it) (hg : DG X tg g) (hb : DSsx X W body tb) (hs : ∀ x, foldedSetIterable iter X.env x = pure x := by intro _; rfl) :
    DStx X W (.For tg iter body [] pos) (dFor it g tb) :=
  dsx_of (ps_for hp hc hi hg hb hs) fun D σ H σd Hd Dd rs rh q k1 k2 k3 k4 k5 => ⟨σd, Hd, _, rs, rh, q, fun J H1 I Hd1 s1 r1 w ⟨Pv, p0, hG, step, fin⟩ => by
    have base : RepS X.K H1 σd σ := s1.repS rh rs
    refine ⟨fun i m σ' H' => ∃ σd' Hd', m = I.n - i ∧ i ≤ I.n ∧ Stp H1 Hd1 H' Hd' ∧ RepH X.K H' Hd' ∧ RepS X.K H' σd' σ' ∧ Pv i σd' Hd', ⟨_, σd, Hd1, rfl, Nat.zero_le _, .refl, r1, base, p0⟩, ?_⟩
    rintro i m σ' H' ⟨σd', Hd', rfl, hi, s', r', rs', p⟩
    have gg := hG i σd' Hd' hi p
    by_cases hlt : i < I.n
    · refine .inr ⟨w.go H' Hd' s' r' gg i hlt, fun σ2 H2 => ∃ σd2 Hd2, Stp H1 Hd1 H2 Hd2 ∧ RepH X.K H2 Hd2 ∧ RepS X.K H2 σd2 σ2 ∧ Pv (i + 1) σd2 Hd2, ?_, fun x H2 y => ?_⟩
      · rintro σ2 H2 ⟨σd2, Hd2, s2, r2, rs2, p2⟩
        exact ⟨I.n - (i + 1), by omega, σd2, Hd2, rfl, hlt, s2, r2, rs2, p2⟩
      · obtain ⟨s2, r2, rx⟩ := w.yld H' Hd' s' r' gg i x H2 hlt y
        refine ⟨I.f i, σd', Hd', _, rx, s2.repS r' rs', r2, step i σd' Hd' hlt p, fun σ3 H3 σd3 Hd3 s3 r3 rs3 q3 => ?_⟩
        have st : Stp H1 Hd1 H3 Hd3 := (s'.trans s2).trans s3
        have st0 := s1.trans st
        refine ⟨σd3, Hd3, _, rs3, r3, q3, ?_, k2.at st0, k1.at st0, ?_, k5.at st0⟩
        · exact fun σ4 H4 σd4 Hd4 s4 r4 rs4 q4 => ⟨σd4, Hd4, st.trans s4, r4, rs4, q4⟩
        · exact fun σ4 H4 σd4 Hd4 s4 r4 rs4 q4 => ⟨σd4, Hd4, st.trans s4, r4, rs4, q4⟩
    · have e : i = I.n := by omega
      subst e
      exact .inl ⟨w.stop H' Hd' s' r' gg, k1 _ _ _ _ (s1.trans s') r' rs' (fin _ _ p)⟩⟩
theorem dsx_while (hp : PassesOwn (model X.prog X.w) X.A X.env X.xe) (hc : DT X c tc) (hb : DSsx X W body tb) : DStx X W (.While c body [] pos) (dWhile tc tb) :=
  dsx_of (ps_while hp hc hb) fun D σ H σd Hd Dd rs rh ⟨Pv, μ, p0, step⟩ k1 k2 k3 k4 k5 => by
    refine ⟨fun m σ' H' => ∃ σd' Hd', m = μ σd' Hd' ∧ Stp H Hd H' Hd' ∧ RepH X.K H' Hd' ∧ RepS X.K H' σd' σ' ∧ Pv σd' Hd', ⟨_, σd, Hd, rfl, .refl, rh, rs, p0⟩, ?_⟩
    rintro m σ' H' ⟨σd', Hd', rfl, s', r', rs', p⟩
    refine ⟨σd', Hd', _, rs', r', step σd' Hd' p, fun b H1 Hd1 s1 r1 q1 => ?_⟩
    have st := s'.trans s1
    cases b with
    | false => exact iteF (k1 _ _ _ _ st r1 (s1.repS r' rs') (q1.2 rfl))
    | true =>
      refine iteT ⟨fun σ2 H2 => ∃ σd2 Hd2, μ σd2 Hd2 < μ σd' Hd' ∧ Stp H Hd H2 Hd2 ∧ RepH X.K H2 Hd2 ∧ RepS X.K H2 σd2 σ2 ∧ Pv σd2 Hd2, ?_, ?_⟩
      · rintro σ2 H2 ⟨σd2, Hd2, hm, s2, r2, rs2, p2⟩
        exact ⟨_, hm, σd2, Hd2, rfl, s2, r2, rs2, p2⟩
      · refine ⟨σd', Hd1, _, s1.repS r' rs', r1, q1.1 rfl, ?_, k2.at st, k1.at st, ?_, k5.at st⟩
        · exact fun σ4 H4 σd4 Hd4 s4 r4 rs4 q4 => ⟨σd4, Hd4, q4.2, st.trans s4, r4, rs4, q4.1⟩
        · exact fun σ4 H4 σd4 Hd4 s4 r4 rs4 q4 => ⟨σd4, Hd4, q4.2, st.trans s4, r4, rs4, q4.1⟩
/-! ## raise X('..') -/
def dRaise (n : Str) : DTS := fun D σ H => D.ex n [] σ H
theorem dsx_raise {x m : Str} {C : Addr} {bmB : List Value} {B newId initId : String} {j : Nat} {p p2 pos1 : Pos} (hc : X.calm = true) (tk : Takes X W) (F : ExcBaseFacts B newId initId bmB) (q : PySem.W.excIn X.K C bmB newId = true) (gC : X.mg x = some (.ref C)) (kC : PySem.W.keepIn X.K (.ref C) = true)
    (r : Raises X (.ref C)) (hg : Gl X x) (hdb : (x == ("__debug__" : Str)) = false := by decide) : DStx X W (.Raise (some (.Call (.Name x p) [.Constant (.str m) j p2] [] pos1)) none pos) (dRaise x) :=
  dsx_of (ps_raise hc tk (pmk_own F q gC kC r hg hdb)) fun D σ H σd Hd Dd rs rh h k1 k2 k3 k4 k5 => k5 _ _ _ _ _ _ σd Hd .refl rh rs ⟨gC, rfl⟩ h
end
/-! ## calls that may raise -/
abbrev DTEX := DS → DH → DVK → DXK → Prop
def lEx (K : PySem.W.Frag) (mg : Str → Option Value) (W : WX) (t : DTEX) : TE := fun σ H Q => ∃ σd Hd Qd Ed, RepS K H σd σ ∧ RepH K H Hd ∧ t σd Hd Qd Ed ∧ KE K H Hd Qd Q ∧ KXe K mg (WE W σ) H Hd Ed
abbrev DEX (X : Cx) (W : WX) (e : Expr) (t : DTEX) : Prop := PE X e (lEx X.K X.mg W t)
abbrev DSpX := List Dv → DH → DVK → DXK → Prop
def lSpX (K : PySem.W.Frag) (mg : Str → Option Value) (sp : DSpX) : Sp := fun vs H Q E => ∃ ds Hd Qd Ed, RepL K H ds vs ∧ RepH K H Hd ∧ sp ds Hd Qd Ed ∧ KE K H Hd Qd Q ∧ KXe K mg E H Hd Ed
/-- nothing is raised -/
def quiet (sp : DSpX) : DSp := fun ds H Q => sp ds H Q fun _ _ _ => False
theorem FnOk.quiet {P : Program} {w : World} {K : PySem.W.Frag} {mg : Str → Option Value} {base : Heap} {CX : CXT} {k : Nat} {f : Addr} {fd : FuncData} {ps : List Str} {sp : DSpX} (F : FnOk P w K mg base CX k f fd ps (lSpX K mg sp)) : FnOk P w K mg base CX k f fd ps (lSp K (DL.quiet sp)) :=
  F.imp fun vs H Q E ⟨ds, Hd, Qd, rl, rh, q, k⟩ => ⟨ds, Hd, Qd, fun _ _ _ => False, rl, rh, q, k, fun _ _ _ _ _ _ _ _ _ z => z.elim⟩
section
variable {X : Cx} {W : WX} {k : Nat} {f : Addr} {fd : FuncData} {ps ks : List Str} {π : List Nat} {sp : DSpX} {x : Str} {p pos : Pos} {e e2 c : Expr} {es : List Expr} {kws : List Keyword} {t tk : DTA} {te : DTE} {tx : DTEX} {op : CmpOp}
theorem dex_lift (h : DE X e te) : DEX X W e (fun σ H Q _ => te σ H Q) := pe_mono h fun σ H Q ⟨σd, Hd, Qd, Ed, rs, rh, q, k, _⟩ => ⟨σd, Hd, Qd, rs, rh, q, k⟩
def dCallX (sp : DSpX) (t : DTA) : DTEX := fun σ H Q E => t σ H fun xs H1 => sp xs H1 Q E
theorem dex_call (F : FnOk X.prog X.w X.K X.mg X.base (L2.CX X.prog X.w) k f fd ps (lSpX X.K X.mg sp)) (tk : Takes X W) (hr : Room k X.A) (hg : Gl X x) (hm : X.mg x = some (.ref f)) (hk : PySem.W.keepIn X.K (.ref f) = true) (hb : Binds X.K fd ps [])
    (ha : DA X (e :: es) t) (hdb : (x == ("__debug__" : Str)) = false := by decide) (he : starEach (e :: es) X.env = (false, eval e X.env) :: starEach es X.env := by rfl) (hpl : (backTo pos (starEach es X.env)).any (·.1) = false := by rfl) :
    DEX X W (.Call (.Name x p) (e :: es) [] pos) (dCallX sp t) :=
  pe_mono (pe_callS F hr hg hm hk hb (fun σ => passAt tk σ) ha hdb he hpl) fun σ H Q ⟨σd, Hd, Qd, Ed, rs, rh, q, k1, k2⟩ => ⟨σd, Hd, _, rs, rh, q, fun vs H1 xs Hd1 s1 r1 rl q1 => ⟨xs, Hd1, Qd, Ed, rl, r1, q1, k1.at s1, k2.at s1⟩⟩
def dCallPX (n : Nat) (sp : DSpX) (π : List Nat) (t : DTA) : DTEX := fun σ H Q E => t σ H fun xs H1 => xs.length = n ∧ sp (π.map fun i => nth xs i) H1 Q E
theorem dex_callP (F : FnOk X.prog X.w X.K X.mg X.base (L2.CX X.prog X.w) k f fd ps (lSpX X.K X.mg sp)) (tkW : Takes X W) (hr : Room k X.A) (hg : Gl X x) (hm : X.mg x = some (.ref f)) (hk : PySem.W.keepIn X.K (.ref f) = true) (hb : KwOkP X.K fd ps ks π)
    (hkw : DK X kws tk) {n : Nat} (hn : ks.length = n) (hall : (backToKw pos (keywordEach kws X.env)).all (·.1.isSome) = true := by rfl) (hks : (backToKw pos (keywordEach kws X.env)).filterMap (·.1) = ks := by rfl)
    (hdb : (x == ("__debug__" : Str)) = false := by decide) (hpl : ((backTo pos (starEach [] X.env)).any (·.1) || (backToKw pos (keywordEach kws X.env)).any (·.1.isNone)) = false := by rfl) :
    DEX X W (.Call (.Name x p) [] kws pos) (dCallPX n sp π tk) := by
  subst hn
  refine ⟨fun pins s σ H Q I ⟨σd, Hd, Qd, Ed, rs, rh, q, kk, kx⟩ => ?_⟩
  refine wpAny_Call_Name_kw (ld_glob I hg hm ?_ hdb)
  refine PySem.W.callWith_KW0 (h₀ := X.base) I.ok.mod.kin hk hall ?_ hpl
  refine thn (hkw.run pos pins s σ H (fun vs H1 => ∃ xs Hd1, Stp H Hd H1 Hd1 ∧ RepH X.K H1 Hd1 ∧ RepL X.K H1 xs vs ∧ xs.length = ks.length ∧ sp (π.map fun i => nth xs i) Hd1 Qd Ed) I ⟨σd, Hd, _, rs, rh, q, fun vs H1 xs Hd1 s1 r1 rl ⟨q0, q1⟩ => ⟨xs, Hd1, s1, r1, rl, q0, q1⟩⟩)
    fun ws s2 ⟨zs, H2, I2, rz, xs, Hd1, s1, r1, rl, ql, q1⟩ => ⟨I2.kIn, ?_⟩
  rw [hks]
  have lw : ws.length = ks.length := by rw [← rz.length, ← rl.length]; exact ql
  have hπ : ∀ i ∈ π, i < ks.length := fun i hi => by rw [hb.len]; exact hb.perm.2 i hi
  have want : lSpX X.K X.mg sp (π.map fun i => zs.getD i .non) H2 Q (WE W σ) := ⟨_, Hd1, Qd, Ed, repL_pick rl (fun i hi => by rw [ql]; exact hπ i hi), r1, q1, kk.at s1, kx.at s1⟩
  have rz2 : Vals (π.map fun i => zs.getD i .non) (π.map fun i => ws.getD i .none) := vals_pick rz fun i hi => by rw [lw]; exact hπ i hi
  refine wpAny_call (codeAny_mono (F.run X.A X.stack s2 H2 ⟨[], ks.zip ws⟩ (π.map fun i => ws.getD i .none) _ Q (WE W σ) hr I2.env0 (hb.to s2 ws I2.kIn lw) rz2 want) fun r s' hq => ?_)
  cases r with
  | error e => exact passAt tkW σ pins H2 s2 e s' I2 hq
  | ok fl =>
    cases fl with
    | ret u => exact I2.after hq
    | next => exact False.elim hq
    | brk => exact False.elim hq
    | cont => exact False.elim hq
theorem dex_of {t : TE} {td : DTEX} (h : PE X e t) (i : ∀ σ H Q σd Hd Qd Ed, RepS X.K H σd σ → RepH X.K H Hd → td σd Hd Qd Ed → KE X.K H Hd Qd Q → KXe X.K X.mg (WE W σ) H Hd Ed → t σ H Q) : DEX X W e td :=
  pe_mono h fun σ H Q ⟨σd, Hd, Qd, Ed, rs, rh, q, k1, k2⟩ => i σ H Q σd Hd Qd Ed rs rh q k1 k2
/-- e[i], e may raise -/
def dOpX (f : D2) (ta : DTEX) (tb : DTE) : DTEX := fun σ H Q E => ta σ H (fun x H1 => tb σ H1 fun y H2 => f x y H2 Q) E
theorem op2x {r : R2} {f : D2} {ta : DTEX} {tb : DTE} (hf : R2Ok X.K r f) {σ : St} {H : Hp} {Q : VK} (h : lEx X.K X.mg W (dOpX f ta tb) σ H Q) : tOp r (lEx X.K X.mg W ta) (lE X.K tb) σ H Q := by
  obtain ⟨σd, Hd, Qd, Ed, rs, rh, q, k, kx⟩ := h
  exact ⟨σd, Hd, _, Ed, rs, rh, q, fun v H1 d Hd1 s1 r1 rv q1 => ⟨σd, Hd1, _, s1.repS rh rs, r1, q1, fun u H2 d2 Hd2 s2 r2 ru q2 => hf H2 Hd2 v u d d2 Q Qd r2 (s2.rep r1 rv) ru q2 (k.at (s1.trans s2))⟩, kx⟩
end
/-! ## statements that call what may raise -/
section
variable {X : Cx} {W : WX} {e c tg : Expr} {tx : DTEX} {t u : DTS} {g : DTG} {pos : Pos}
def dxDrop (te : DTEX) : DTS := fun D σ H => te σ H (fun _ H1 => D.nx σ H1) fun n fs H1 => D.ex n fs σ H1
theorem KX.to {K : PySem.W.Frag} {mg : Str → Option Value} {W : WX} {H : Hp} {Hd : DH} {ex : Str → List (Str × Dv) → DS → DH → Prop} {σ : St} {σd : DS} (k : KX K mg W H Hd ex) (rh : RepH K H Hd) (rs : RepS K H σd σ) : KXe K mg (WE W σ) H Hd fun n fs H1 => ex n fs σd H1 :=
  fun cls d n fs H' Hd' st r' rx q => k cls d n fs σ H' σd Hd' st r' (st.repS rh rs) rx q
theorem dsx_expr (he : DEX X W e tx) (hs : swapsWith e none pos.line X.env = pure false := by rfl) : DStx X W (.Expr e pos) (dxDrop tx) :=
  dsx_of (ps_expr he hs) fun D σ H σd Hd Dd rs rh q k1 _ _ _ k5 => ⟨σd, Hd, _, _, rs, rh, q, fun v H1 d Hd1 s1 r1 _ q1 => k1 σ H1 σd Hd1 s1 r1 (s1.repS rh rs) q1, k5.to rh rs⟩
def dxRet (te : DTEX) : DTS := fun D σ H => te σ H D.rt fun n fs H1 => D.ex n fs σ H1
theorem dsx_ret (he : DEX X W e tx) : DStx X W (.Return (some e) pos) (dxRet tx) :=
  dsx_of (ps_ret he) fun D σ H σd Hd Dd rs rh q _ k2 _ _ k5 => ⟨σd, Hd, _, _, rs, rh, q, k2, k5.to rh rs⟩
def dxAsg (te : DTEX) (g : DTG) : DTS := fun D σ H => te σ H (fun d H1 => g d σ H1 D.nx) fun n fs H1 => D.ex n fs σ H1
theorem asgx_of {te : DTEX} {g : DTG} {D : Ends} {σ : St} {H : Hp} (h : lSx X.K X.mg W (dxAsg te g) D σ H) : tAsg (lEx X.K X.mg W te) (lG X.K g) D σ H := by
  obtain ⟨σd, Hd, Dd, rs, rh, q, k1, _, _, _, k5⟩ := h
  exact ⟨σd, Hd, _, _, rs, rh, q, fun v H1 d Hd1 s1 r1 rv q1 => ⟨d, σd, Hd1, _, rv, s1.repS rh rs, r1, q1, k1.at s1⟩, k5.to rh rs⟩
theorem dsx_asg (he : DEX X W e tx) (hg : DG X tg g) (hs : swapsWithSole [tg] e pos.line X.env = pure false := by rfl) (hw : swappedStores [tg] e X.env = pure none := by rfl) (h1 : (assignEach [tg] X.env).map (·.2) = [assign tg X.env] := by rfl) :
    DStx X W (.Assign [tg] e pos) (dxAsg tx g) := ps_mono (ps_asg he hg hs hw h1) fun D σ H h => asgx_of h
def dxSet (i : Nat) (te : DTEX) : DTS := fun D σ H => te σ H (fun d H1 => D.nx (σ.set i (some d)) H1) fun n fs H1 => D.ex n fs σ H1
theorem dsx_set {i : Nat} {x : Str} {pos' : Pos} (hN : X.N.Nodup) (hi : X.N[i]? = some x) (hx : Loc X.env.scope x) (he : DEX X W e tx) (hs : swapsWith e (some (.Name x pos')) pos.line X.env = pure false := by rfl)
    (hf : X.fn x = true ∨ X.env.scope.names.lookup x = some .local := by first | exact .inl rfl | exact .inr (by assumption)) : DStx X W (.Assign [.Name x pos'] e pos) (dxSet i tx) :=
  dsx_of (ps_set hN hi hx he hs hf) fun D σ H σd Hd Dd rs rh q k1 _ _ _ k5 => ⟨σd, Hd, _, _, rs, rh, q, fun v H1 d Hd1 s1 r1 rv q1 => k1 _ _ _ _ s1 r1 ((s1.repS rh rs).set i rv) q1, k5.to rh rs⟩
end
/-! ## try -/
/-- which class is caught by which, as the text's classes stand: sub own caught -/
def tryEx (sub : Str → Str → Option Bool) (D : DEnds) : List (Str × DTS) → Str → List (Str × Dv) → DS → DH → Prop
  | [], n, fs, σ, H => D.ex n fs σ H
  | (c, t) :: r, n, fs, σ, H => match sub n c with
    | some true => t D σ H
    | some false => tryEx sub D r n fs σ H
    | none => False
def dTry (sub : Str → Str → Option Bool) (tb : DTS) (l : List (Str × DTS)) : DTS := fun D σ H => tb { D with ex := tryEx sub D l } σ H
def SubOk (K : PySem.W.Frag) (mg : Str → Option Value) (sub : Str → Str → Option Bool) (c : Str) (C : Value) : Prop := ∀ n b N, sub n c = some b → mg n = some N → PySem.W.exmOne K N C = some b
inductive DHds (X : Cx) (sub : Str → Str → Option Bool) : List ExceptHandler → List (Str × DTS) → Prop
  | nil : DHds X sub [] []
  | cons {x : Str} {C : Value} {t : DTS} {b₀ : Stmt} {suite : List Stmt} {np pos' : Pos} {hds : List ExceptHandler} {l : List (Str × DTS)} (hc : Names X x C) (hs : SubOk X.K X.mg sub x C)
      (hsu : ∀ (a : Addr) (pn : List (Addr × Obj)), DSs (X.suite a pn) (b₀ :: suite) t) (r : DHds X sub hds l) :
      DHds X sub (.ExceptHandler (some (.Name x np)) none (b₀ :: suite) pos' :: hds) ((x, t) :: l)
theorem dhds_ok {X : Cx} {sub : Str → Str → Option Bool} {hds : List ExceptHandler} {l : List (Str × DTS)} (h : DHds X sub hds l) : ∃ l' : List (Value × (Addr → Value → Option Addr → TS)), HdsOk X hds l' ∧
    ∀ (W : WX) (D : Ends) (Dd : DEnds) (H : Hp) (Hd : DH), KS X.K H Hd Dd.nx D.nx → KE X.K H Hd Dd.rt D.rt → KS X.K H Hd Dd.bk D.bk → KS X.K H Hd Dd.ct D.ct → KX X.K X.mg W H Hd Dd.ex → KX X.K X.mg (wMany X.K W D l') H Hd (tryEx sub Dd l) := by
  induction h with
  | nil => exact ⟨[], .nil, fun W D Dd H Hd _ _ _ _ k5 => k5⟩
  | @cons x C t b₀ suite np pos' hds l hc hs hsu r ih =>
    obtain ⟨l', h1, h2⟩ := ih
    refine ⟨(C, fun _ _ _ => lS X.K t) :: l', .cons hc (fun a oe cls d pn _ _ => hsu a _) h1, fun W D Dd H Hd k1 k2 k3 k4 k5 => ?_⟩
    intro cls d n fs σ' H' σd' Hd' st r' rs' rx q
    unfold tryEx at q
    cases e : sub n x with
    | none => rw [e] at q; exact q.elim
    | some b =>
      rw [e] at q
      refine ⟨b, hs n b cls e rx.1, fun z a ha => ?_, fun z => ?_⟩
      · subst z
        exact ⟨σd', Hd', Dd, rs', r', q, k1.at st, k2.at st, k3.at st, k4.at st⟩
      · subst z
        exact h2 W D Dd H Hd k1 k2 k3 k4 k5 cls d n fs σ' H' σd' Hd' st r' rs' rx q
theorem dsx_try {X : Cx} {W : WX} {sub : Str → Str → Option Bool} {body : List Stmt} {h₀ : ExceptHandler} {hds : List ExceptHandler} {tb : DTS} {l : List (Str × DTS)} {pos : Pos} (hs : X.stack = X.env :: X.outer) (hf : X.env.frame = some X.env.locals) (tk : Takes X W)
    (hb : ∀ (W : WX) (pn : List (Addr × Obj)) (xe : Value → Shared → Prop), Takes (X.tr pn xe) W → PassesOwn (model X.prog X.w) X.A X.env xe → DSsx (X.tr pn xe) W body tb)
    (hh : DHds X sub (h₀ :: hds) l) : DStx X W (.Try body (h₀ :: hds) [] [] pos) (dTry sub tb l) := by
  obtain ⟨l', h1, h2⟩ := dhds_ok hh
  refine dsx_of (ps_try_many (tb := fun W => lSx X.K X.mg W tb) hs hf tk hb h1) fun D σ H σd Hd Dd rs rh q k1 k2 k3 k4 k5 => ?_
  exact ⟨σd, Hd, _, rs, rh, q, k1, k2, k3, k4, h2 W D Dd H Hd k1 k2 k3 k4 k5⟩
/-- a try in a def that lets nothing out -/
theorem ds_tryx {X : Cx} {st : Stmt} {t : DTS} (h : DStx X (fun _ _ _ _ => False) st t) : DSt X st (fun D σ H => t { D with ex := fun _ _ _ _ => False } σ H) :=
  ps_mono h fun D σ H ⟨σd, Hd, Dd, rs, rh, q, k1, k2, k3, k4⟩ => ⟨σd, Hd, _, rs, rh, q, k1, k2, k3, k4, fun _ _ _ _ _ _ _ _ _ _ _ _ z => z.elim⟩
/-! ## a def that may raise -/
def outX (Q : DVK) (E : DXK) : DEnds := { nx := fun _ Hf => ∃ Hg, Sub Hg Hf ∧ Q .non Hg, rt := fun d Hf => ∃ Hg, Sub Hg Hf ∧ Q d Hg, ex := fun n fs _ Hf => ∃ Hg, Sub Hg Hf ∧ E n fs Hg }
theorem Fun.okDX {P : Program} {w : World} {K : PySem.W.Frag} {mg : Str → Option Value} {base : Heap} {x qual : Str} {st : Stmt} {f : Addr} {fd : FuncData} {N ps : List Str} {k : Nat} {sp : DSpX} {td : DTS} (F : L2.Fun K x qual st f fd) (S : FnScope N ps (defScope st))
    (len : ∀ ds H Q E, sp ds H Q E → ds.length = ps.length)
    (hbody : ∀ (cdv : Value) (A : Around) (outer : List Env) (s : Shared) (H : Hp) (E : XK), Room k (A.deeper (envOfC qual (defScope st) s.heap.objs.size f cdv)) → DSsx (cxOf (L2.CX P w) P w K mg base N qual (defScope st) f cdv A outer s H E) (fun cls d _ H => E cls d H) (defBody st) td)
    (rd : ∀ ds H Q E, sp ds H Q E → td (outX Q E) (startD N.length ds) H) : FnOk P w K mg base (L2.CX P w) (k + 1) f fd ps (lSpX K mg sp) := by
  refine F.okX S (fun vs H Q E ⟨ds, Hd, Qd, Ed, rl, _, q, _⟩ => by rw [← rl.length]; exact len _ _ _ _ q) (fun cdv A outer s H vs Q E hr ⟨ds, Hd, Qd, Ed, rl, rh, q, kk, kx⟩ => ⟨_, hbody cdv A outer s H E hr, ?_⟩)
  refine ⟨startD N.length ds, Hd, outX Qd Ed, repS_start N rl, rh, rd ds Hd Qd Ed q, fun σ' H' σd' Hd' s' r' rs' ⟨Hg, sb, q'⟩ => ?_, fun v H' d Hd' s' r' rv ⟨Hg, sb, q'⟩ => ?_, fun _ _ _ _ _ _ _ q => q.elim, fun _ _ _ _ _ _ _ q => q.elim, fun cls d n fs σ' H' σd' Hd' s' r' rs' rx ⟨Hg, sb, q'⟩ => ?_⟩
  · exact kk _ _ .non Hg (s'.sub sb) (r'.sub sb) rfl q'
  · exact kk _ _ d Hg (s'.sub sb) (r'.sub sb) rv q'
  · exact kx _ _ n fs _ Hg (s'.sub sb) (r'.sub sb) rx q'
end DL

set_option maxHeartbeats 4000000
namespace DL
open PySem PySem.Spec L2
open PyProof.Rows hiding St
/-! ## defs that are called where no collection is being written out (for repr) -/
structure FnOkG (P : Program) (w : World) (K : PySem.W.Frag) (mg : Str → Option Value) (base : Heap) (CX : CXT) (k : Nat) (f : Addr) (fd : FuncData) (ps : List Str) (sp : Sp) : Prop where
  len : ∀ vs H Q E, sp vs H Q E → vs.length = ps.length
  go : ∀ (A : Around) (out : List Env) (s : Shared) (H : Hp) (xs : Args) (us : List Value) (vs : List V) (Q : VK) (E : XK), A.guards = some [] → Room k A → Env0 P w K mg base A out s H →
    BindsTo s fd xs (ps.zip us) → Vals vs us → sp vs H Q E → codeAny (model P w) A (.call (.ref f) xs) (CR CX out P w H s Q E) s
theorem FnOk.toG {P : Program} {w : World} {K : PySem.W.Frag} {mg : Str → Option Value} {base : Heap} {CX : CXT} {k : Nat} {f : Addr} {fd : FuncData} {ps : List Str} {sp : Sp} (F : FnOk P w K mg base CX k f fd ps sp) : FnOkG P w K mg base CX k f fd ps sp :=
  ⟨F.len, fun A out s H xs us vs Q E _ r => F.run A out s H xs us vs Q E r⟩
theorem FnOkG.mono {P : Program} {w : World} {K : PySem.W.Frag} {mg : Str → Option Value} {base : Heap} {CX : CXT} {j k : Nat} {f : Addr} {fd : FuncData} {ps : List Str} {sp : Sp} (F : FnOkG P w K mg base CX j f fd ps sp) (le : j ≤ k) : FnOkG P w K mg base CX k f fd ps sp :=
  ⟨F.len, fun A out s H xs us vs Q E g r => F.go A out s H xs us vs Q E g (r.mono le)⟩
theorem fnG_of {CX : CXT} {P : Program} {w : World} {K : PySem.W.Frag} {mg : Str → Option Value} {base : Heap} {k : Nat} {f : Addr} {name qual : Str} {prs : Arguments} {body : List Stmt} {sc : Scope} {dV kV doc pm cdv ct oc : Value} {an od : Option Addr}
    {osl : Array (Option Value)} {N ps : List Str} {sp : Sp} (lk : K.lookup f = some ⟨oc, od, .func (PySem.W.fnOf name qual prs body sc dV kV doc pm an cdv ct), osl⟩) (code : PySem.W.codeIn K cdv qual = true) (S : FnScope N ps sc)
    (len : ∀ vs H Q E, sp vs H Q E → vs.length = ps.length)
    (runs : ∀ (A : Around) (out : List Env) (s : Shared) (H : Hp) (vs : List V) (Q : VK) (E : XK), A.guards = some [] → Room k (A.deeper (envOfC qual sc s.heap.objs.size f cdv)) → sp vs H Q E →
      ∃ t, PSs (cxOf CX P w K mg base N qual sc f cdv A out s H E) body t ∧ t { nx := fun _ H2 => Q .non H2, rt := Q } (start N vs) H) :
    FnOkG P w K mg base CX (k + 1) f (PySem.W.fnOf name qual prs body sc dV kV doc pm an cdv ct) ps sp := by
  refine ⟨len, ?_⟩
  intro A out s H xs us vs Q E gd room env bnd rel want
  have inK : K.In s.heap := env.mod.kin.keeps fun b o z => (env.bs b o z).1
  have kinds : ∀ y ∈ ps.zip us, sc.names.lookup y.1 = some .local ∨ (sc.names.lookup y.1 = some .cell ∧ ((cellsFrom (s.heap.objs.size + 1) sc.names []).lookup y.1).isSome = true) := by
    rintro ⟨n, v⟩ hy
    have hn := S.par n (List.of_mem_zip hy).1
    exact hn.imp id fun z => ⟨z, PySem.W.cellsFrom_some _ _ _ (.inl z)⟩
  refine codeAny_call_function room.depth (inK _ _ lk) rfl S.co S.gen rfl (PySem.W.codeRec_of inK code) (bnd _ _ _ _ (wpAny_newFunctionEnv_cells S.kind kinds fun en hen s1 x => ?_))
  subst hen
  refine ⟨(env.mod.nolimit.keeps fun b o z => (env.bs b o z).1).keeps x.toInCall.keep, codeAny_func ?_⟩
  obtain ⟨t, ht, q⟩ := runs A out s H vs Q E gd (room.deeper _) want
  have I : Inv (cxOf CX P w K mg base N qual sc f cdv A out s H E) [] (start N vs) H s1 := inv_start S room.hd env (len _ _ _ _ want) rel x
  refine wpAny_mono (ht.run [] s1 (start N vs) H _ I q) ?_ fun e s2 z => z
  intro fl s2 z
  cases fl with
  | ret u => obtain ⟨v, σ2, H2, J, rv, q2⟩ := z; exact ⟨v, H2, J.os, J.bare, J.base, J.hok, rv, q2⟩
  | next => obtain ⟨σ2, H2, J, q2⟩ := z; exact ⟨V.non, H2, J.os, J.bare, J.base, J.hok, rfl, q2⟩
  | brk => exact z.elim fun _ z => z.elim fun _ z => z.2.elim
  | cont => exact z.elim fun _ z => z.elim fun _ z => z.2.elim
/-- THE RULE for a def that lets nothing out and is called where nothing is being written out -/
theorem Fun.okDG {P : Program} {w : World} {K : PySem.W.Frag} {mg : Str → Option Value} {base : Heap} {x qual : Str} {st : Stmt} {f : Addr} {fd : FuncData} {N ps : List Str} {k : Nat} {sp : DSp} {td : DTS} (F : L2.Fun K x qual st f fd) (S : FnScope N ps (defScope st))
    (len : ∀ ds H Q, sp ds H Q → ds.length = ps.length)
    (hbody : ∀ (cdv : Value) (A : Around) (outer : List Env) (s : Shared) (H : Hp) (E : XK), A.guards = some [] → Room k (A.deeper (envOfC qual (defScope st) s.heap.objs.size f cdv)) → DSs (cxOf CX0 P w K mg base N qual (defScope st) f cdv A outer s H E).nox (defBody st) td)
    (rd : ∀ ds H Q, sp ds H Q → td (outD Q) (startD N.length ds) H) : FnOkG P w K mg base CX0 (k + 1) f fd ps (lSp K sp) := by
  obtain ⟨oc, od, kV, doc, pm, an, cdv, ct, osl, rfl, lk, hcd⟩ := F.ex
  refine fnG_of lk hcd S (fun vs H Q E ⟨ds, Hd, Qd, rl, _, q, _⟩ => by rw [← rl.length]; exact len _ _ _ q) (fun A outer s H vs Q E gd hr ⟨ds, Hd, Qd, rl, rh, q, kk⟩ => ⟨_, (hbody cdv A outer s H E gd hr).nox, ?_⟩)
  refine ⟨startD N.length ds, Hd, outD Qd, repS_start N rl, rh, rd ds Hd Qd q, ?_, ?_, fun _ _ _ _ _ _ _ q => q.elim, fun _ _ _ _ _ _ _ q => q.elim⟩
  · rintro σ' H' σd' Hd' s' r' rs' ⟨Hg, sb, q'⟩
    exact kk _ _ .non Hg (s'.sub sb) (r'.sub sb) rfl q'
  · rintro v H' d Hd' s' r' rv ⟨Hg, sb, q'⟩
    exact kk _ _ d Hg (s'.sub sb) (r'.sub sb) rv q'
section
variable {X : Cx} {k : Nat} {f : Addr} {fd : FuncData} {ps ks : List Str} {sp : DSp} {x : Str} {p pos : Pos} {e : Expr} {es : List Expr} {t : DTA}
theorem de_callG {CX : CXT} (F : FnOkG X.prog X.w X.K X.mg X.base CX k f fd ps (lSp X.K sp)) (gd : X.A.guards = some []) (hr : Room k X.A) (hg : Gl X x) (hm : X.mg x = some (.ref f)) (hk : PySem.W.keepIn X.K (.ref f) = true) (hb : Binds X.K fd ps []) (hx : Passes CX X E0)
    (ha : DA X (e :: es) t) (hdb : (x == ("__debug__" : Str)) = false := by decide) (he : starEach (e :: es) X.env = (false, eval e X.env) :: starEach es X.env := by rfl) (hpl : (backTo pos (starEach es X.env)).any (·.1) = false := by rfl) :
    DE X (.Call (.Name x p) (e :: es) [] pos) (dCall sp [] t) := by
  refine ⟨fun pins s σ H Q I ⟨σd, Hd, Qd, rs, rh, q, kk⟩ => wpAny_Call_Name_kw (ld_glob I hg hm ?_ hdb)⟩
  refine PySem.W.callWith_K (h₀ := X.base) I.ok.mod.kin hk (thn (ha.run pos pins s σ H (fun vs H1 => ∃ xs Hd1, Stp H Hd H1 Hd1 ∧ RepH X.K H1 Hd1 ∧ RepL X.K H1 xs vs ∧ sp (xs ++ []) Hd1 Qd) I ⟨σd, Hd, _, rs, rh, q, fun vs H1 xs Hd1 s1 r1 rl q1 => ⟨xs, Hd1, s1, r1, rl, q1⟩⟩) ?_) he hpl
  rintro us s1 ⟨vs, H1, I1, r, xs, Hd1, st, r1, rl, q1⟩
  rw [List.append_nil] at q1
  refine ⟨I1.kIn, ?_⟩
  have want : lSp X.K sp vs H1 Q E0 := ⟨xs, Hd1, Qd, rl, r1, q1, kk.at st⟩
  have hl : us.length = ps.length := by rw [← r.length]; exact F.len _ _ _ _ want
  have b := hb s1 us I1.kIn (by rw [List.append_nil]; exact hl)
  rw [List.append_nil] at b
  refine wpAny_call (codeAny_mono (F.go X.A X.stack s1 H1 ⟨us, []⟩ us vs Q E0 gd hr I1.env0 b r want) ?_)
  rintro (er | fl) s2 z
  · exact hx pins σ H1 s1 er s2 I1 z
  · cases fl with
    | ret u => exact I1.after z
    | next => exact z.elim
    | brk => exact z.elim
    | cont => exact z.elim
end
/-! ## what repr writes -/
mutual
def pyD : Dv → Option PyData
  | .non => some .none
  | .bl b => some (.bool b)
  | .int i => some (.int i)
  | .str x => some (.str x)
  | .tup ds => (pyDs ds).map .tuple
  | .lsv ds => (pyDs ds).map .list
  | .dcv [] [] => some (.dict [])
  | _ => none
def pyDs : List Dv → Option (List PyData)
  | [] => some []
  | d :: ds => (pyD d).bind fun p => (pyDs ds).map (p :: ·)
end
theorem pyDs_cons {d : Dv} {ds : List Dv} {ps : List PyData} (h : pyDs (d :: ds) = some ps) : ∃ p qs, pyD d = some p ∧ pyDs ds = some qs ∧ ps = p :: qs := by
  rw [pyDs] at h
  cases e : pyD d with
  | none => rw [e] at h; cases h
  | some p =>
    rw [e] at h
    cases e2 : pyDs ds with
    | none => rw [e2] at h; cases h
    | some qs => rw [e2] at h; cases h; exact ⟨p, qs, rfl, rfl, rfl⟩
/-- the empty dict's object -/
theorem dic0_obj {X : Cx} {pins : List (Addr × Obj)} {σ : St} {H : Hp} {s : Shared} (I : Inv X pins σ H s) {a : Addr} (h : FxD H a [] []) : (a == sysModules) = false ∧ ∃ (o : Obj) (n : Nat), s.heap.get? a = some o ∧ o.cls = .type "dict" ∧ o.data = .dict #[] n := by
  obtain ⟨o, kvs, e, e1, _⟩ := h
  have : kvs = [] := by cases kvs with
    | nil => rfl
    | cons _ _ => cases e1
  subst this
  obtain ⟨g1, z, hs, vs, kv, o', es, ep, g2, ex, hd, _, pr, _⟩ := I.hok a _ e
  cases kv
  refine ⟨hs, o', ep, g2, ex.1, ?_⟩
  have : es.toList = [] := by
    cases h : es.toList with
    | nil => rfl
    | cons _ _ => rw [h] at pr; cases pr
  have : es = #[] := by
    cases es; simp_all
  rw [hd, this]
mutual
theorem repr_data {X : Cx} {pins : List (Addr × Obj)} {σ : St} {H : Hp} {s : Shared} (I : Inv X pins σ H s) : ∀ {d : Dv} {v : V} {u : Value} {p : PyData}, Rep X.K H d v → RelV v u → pyD d = some p → p.showable = true → p.shown.length ≤ sizeLine →
    ∃ bs as, ReadAtMost s.heap p.depth bs ∧ Reads s.heap u p as ∧ ReprK X.prog X.w bs s.heap p.depth u p.shown
  | .non, _, _, _, r, ru, e, _, _ => by
    cases e; cases (show _ = _ from r); cases (show _ = _ from ru)
    exact ⟨[], [], (fun _ h => nomatch h), .none, by simp only [PyData.shown]; exact .of_is ReprIs.none _ _ _⟩
  | .bl b, _, _, _, r, ru, e, _, _ => by
    cases e; cases (show _ = _ from r); cases (show _ = _ from ru)
    exact ⟨[], [], (fun _ h => nomatch h), .bool b, by simp only [PyData.shown]; exact .of_is (ReprIs.bool b) _ _ _⟩
  | .int i, _, _, _, r, ru, e, hs, _ => by
    cases e; cases (show _ = _ from r); obtain ⟨t, rfl⟩ := ru
    exact ⟨[], [], (fun _ h => nomatch h), .int i t, by simp only [PyData.shown]; exact .of_is (ReprIs.int t (by simpa [PyData.showable] using hs)) _ _ _⟩
  | .str x, _, _, _, r, ru, e, _, hz => by
    cases e; cases (show _ = _ from r); obtain ⟨t, rfl⟩ := ru
    exact ⟨[], [], (fun _ h => nomatch h), .str x t, by simp only [PyData.shown]; exact .of_is (ReprIs.str x t (by simpa only [PyData.shown] using hz)) _ _ _⟩
  | .tup ds, _, _, _, r, ru, e, hs, hz => by
    cases e2 : pyDs ds with
    | none => rw [pyD, e2] at e; cases e
    | some ps =>
      rw [pyD, e2] at e; cases e
      obtain ⟨a, vs, rfl, hq, rl⟩ := r
      cases (show _ = _ from ru)
      obtain ⟨its, rv, ⟨o, g1, g2, n, g3⟩, _⟩ := I.tuple hq
      have hz' : (tupleText (PyData.shownAll ps)).length ≤ sizeLine := by simpa only [PyData.shown] using hz
      obtain ⟨bs, as, h1, h2, h3⟩ := repr_datas I rl rv e2 (by simpa [PyData.showable] using hs) (fun t ht => Nat.le_trans (tupleText_mem_le ht) hz')
      have rd : Reads s.heap (.ref a) (.tuple ps) as := .tuple g1 g2 g3 h2
      refine ⟨a :: bs, as, ReadAtMost.cons rd (by simp only [PyData.depth]; omega) h1, rd, ?_⟩
      have na : a ∉ bs := not_mem_of_deeper rd (by simp only [PyData.depth]; omega) h1
      simp only [PyData.depth, PyData.shown]
      exact ReprK.tuple g1 g2 g3 na h3
  | .lsv ds, _, _, _, r, ru, e, hs, hz => by
    cases e2 : pyDs ds with
    | none => rw [pyD, e2] at e; cases e
    | some ps =>
      rw [pyD, e2] at e; cases e
      obtain ⟨a, vs, rfl, hq, rl⟩ := r
      cases (show _ = _ from ru)
      obtain ⟨its, rv, ⟨o, n, g1, g2, _, g3⟩, _⟩ := I.list hq.sq
      have hz' : (listText (PyData.shownAll ps)).length ≤ sizeLine := by simpa only [PyData.shown] using hz
      obtain ⟨bs, as, h1, h2, h3⟩ := repr_datas I rl rv e2 (by simpa [PyData.showable] using hs) (fun t ht => Nat.le_trans (listText_mem_le ht) hz')
      have rd : Reads s.heap (.ref a) (.list ps) (a :: as) := .list g1 g2 g3 h2
      refine ⟨a :: bs, a :: as, ReadAtMost.cons rd (by simp only [PyData.depth]; omega) h1, rd, ?_⟩
      have na : a ∉ bs := not_mem_of_deeper rd (by simp only [PyData.depth]; omega) h1
      simp only [PyData.depth, PyData.shown]
      cases its with
      | nil =>
        cases h2
        simp only [PyData.shownAll, listText_nil]
        exact ReprK.listEmpty g1 g2 g3
      | cons y l => exact ReprK.list g1 g2 g3 na (by simpa using h3.length_eq) (fun i z ez => h3.item i z (by simpa using ez))
  | .dcv [] [], _, _, _, r, ru, e, _, hz => by
    cases e
    obtain ⟨a, vs, rfl, hq, rl⟩ := r
    cases (show vs = [] from rl)
    cases (show _ = _ from ru)
    obtain ⟨hsys, o, n, g1, g2, g3⟩ := dic0_obj I hq
    have rd : Reads s.heap (.ref a) (.dict []) (a :: [] ++ []) := .dict g1 g2 g3 .nil .nil
    refine ⟨[a], _, ReadAtMost.cons rd (n := 0) (bs := []) (by omega) (fun _ h => nomatch h), rd, ?_⟩
    simp only [PyData.depth, PyData.shown, PyData.shownKv]
    exact ReprK.dict (ps := []) g1 g2 g3 hsys (by simp) .nil
  | .dcv (_ :: _) _, _, _, _, _, _, e, _, _ => by cases e
  | .dcv [] (_ :: _), _, _, _, _, _, e, _, _ => by cases e
  | .ref _, _, _, _, _, _, e, _, _ => by cases e
  | .ty _, _, _, _, _, _, e, _, _ => by cases e
theorem repr_datas {X : Cx} {pins : List (Addr × Obj)} {σ : St} {H : Hp} {s : Shared} (I : Inv X pins σ H s) : ∀ {ds : List Dv} {vs : List V} {us : List Value} {ps : List PyData}, RepL X.K H ds vs → Vals vs us → pyDs ds = some ps → PyData.showableAll ps = true → (∀ t ∈ PyData.shownAll ps, t.length ≤ sizeLine) →
    ∃ bs as, ReadAtMost s.heap (PyData.depthAll ps) bs ∧ ReadsAll s.heap us ps as ∧ ReprAllK X.prog X.w bs s.heap (PyData.depthAll ps) us (PyData.shownAll ps)
  | [], _, _, _, r, ru, e, _, _ => by
    cases (show _ = [] from r)
    cases ru
    rw [pyDs] at e
    cases e
    exact ⟨[], [], (fun _ h => nomatch h), .nil, by simp only [PyData.shownAll]; exact .nil⟩
  | d :: ds, _, _, _, r, ru, e, hs, hz => by
    obtain ⟨v, t, rfl, r1, r2⟩ := r
    obtain ⟨p, qs, e1, e2, rfl⟩ := pyDs_cons e
    cases ru with
    | cons u1 u2 =>
      have hs' : p.showable = true ∧ PyData.showableAll qs = true := by simpa [PyData.showableAll] using hs
      obtain ⟨b1, a1, x1, x2, x3⟩ := repr_data I r1 u1 e1 hs'.1 (hz _ (by simp only [PyData.shownAll]; exact List.mem_cons_self))
      obtain ⟨b2, a2, y1, y2, y3⟩ := repr_datas I r2 u2 e2 hs'.2 (fun t ht => hz t (by simp only [PyData.shownAll]; exact List.mem_cons_of_mem _ ht))
      refine ⟨b1 ++ b2, a1 ++ a2, ?_, .cons x2 y2, ?_⟩
      · simp only [PyData.depthAll]
        exact (x1.mono (Nat.le_max_left _ _)).append (y1.mono (Nat.le_max_right _ _))
      · simp only [PyData.depthAll, PyData.shownAll]
        exact .cons ((x3.more fun b hb => List.mem_append_left _ hb).level_le (Nat.le_max_left _ _)) (y3.more_le (fun b hb => List.mem_append_right _ hb) (Nat.le_max_right _ _))
end
/-- what can be written out -/
def ReprOk (d : Dv) (x : Str) : Prop := ∃ p, pyD d = some p ∧ p.showable = true ∧ p.depth ≤ 100 ∧ p.shown.length ≤ sizeLine ∧ p.shown = x
def fRepr : DF := fun ds H Q => match ds with
  | [d] => ∃ x, ReprOk d x ∧ Q (.str x) H
  | _ => False
theorem call_reprD {X : Cx} (gd : X.A.guards = some []) (hu : X.A.units + 200 < cLine) : CallR X (.builtin "repr") (lRC X.K fRepr) := by
  intro pins s σ H vs us Q I rv ⟨ds, Hd, Qd, rh, rl, q, k⟩
  unfold fRepr at q
  split at q
  · rename_i d
    obtain ⟨v, rfl, r⟩ := len_one rl
    obtain ⟨u, rfl, ru⟩ := vals1 rv
    obtain ⟨x, ⟨p, e, hs, hd, hz, rfl⟩, q⟩ := q
    have fin : ∀ (h' : Heap) (t : Tok) (tk : Nat), (∀ b o, s.heap.get? b = some o → h'.get? b = some o) → EP X pins σ Q (.str p.shown t) { s with heap := h', toks := tk } := fun h' t tk hk => ⟨.str p.shown, H, I.kept hk, ⟨t, rfl⟩, k _ H (.str p.shown) Hd .refl rh rfl q⟩
    have hu1 : X.A.in1.units + p.depth < cLine := by show X.A.units + 1 + p.depth < cLine; omega
    have leaf : ∀ (y : Str), p.shown = y → EP X pins σ Q (.str y s.toks) { s with toks := s.toks + 1 } := fun y ey => by
      have := fin s.heap s.toks (s.toks + 1) (fun _ _ z => z)
      rwa [ey] at this
    cases d with
    | non =>
      cases e; cases (show _ = _ from r); cases (show _ = _ from ru)
      exact PySem.P.repr_of_none (leaf _ (by simp only [PyData.shown]))
    | bl b =>
      cases e; cases (show _ = _ from r); cases (show _ = _ from ru)
      exact PySem.P.repr_of_bool (leaf _ (by simp only [PyData.shown]))
    | int i =>
      cases e; cases (show _ = _ from r); obtain ⟨t, rfl⟩ := ru
      exact PySem.P.repr_of_int (by simpa [PyData.showable] using hs) (leaf _ (by simp only [PyData.shown]))
    | str y =>
      cases e; cases (show _ = _ from r); obtain ⟨t, rfl⟩ := ru
      exact PySem.P.repr_of_str (leaf _ (by simp only [PyData.shown])) (by simpa only [PyData.shown] using hz)
    | tup ds =>
      cases e2 : pyDs ds with
      | none => rw [pyD, e2] at e; cases e
      | some ps =>
        rw [pyD, e2] at e; cases e
        obtain ⟨a, vs, rfl, hq, rl⟩ := r
        cases (show _ = _ from ru)
        obtain ⟨its, rv, ⟨o, g1, g2, n, g3⟩, _⟩ := I.tuple hq
        have hz' : (tupleText (PyData.shownAll ps)).length ≤ sizeLine := by simpa only [PyData.shown] using hz
        obtain ⟨bs, as, h1, h2, h3⟩ := repr_datas I rl rv e2 (by simpa [PyData.showable] using hs) (fun t ht => Nat.le_trans (tupleText_mem_le ht) hz')
        have rd : Reads s.heap (.ref a) (.tuple ps) as := .tuple g1 g2 g3 h2
        have na : a ∉ bs := not_mem_of_deeper rd (by simp only [PyData.depth]; omega) h1
        simp only [PyData.depth] at hu1
        refine call_repr_slot (by omega) ⟨o, g1, g2⟩ F.slot_tuple_repr (call_tuple_reprK g1 g2 g3 na h3 gd (fun b _ => Clear.nil b) hu1 (fun _ _ z => z) (fun h' t tk hk => ⟨_, _, rfl, ?_⟩) hz')
        have := fin h' t tk hk
        simp only [PyData.shown] at this
        exact this
    | lsv ds =>
      cases e2 : pyDs ds with
      | none => rw [pyD, e2] at e; cases e
      | some ps =>
        rw [pyD, e2] at e; cases e
        obtain ⟨a, vs, rfl, hq, rl⟩ := r
        cases (show _ = _ from ru)
        obtain ⟨its, rv, ⟨o, n, g1, g2, _, g3⟩, _⟩ := I.list hq.sq
        have hz' : (listText (PyData.shownAll ps)).length ≤ sizeLine := by simpa only [PyData.shown] using hz
        obtain ⟨bs, as, h1, h2, h3⟩ := repr_datas I rl rv e2 (by simpa [PyData.showable] using hs) (fun t ht => Nat.le_trans (listText_mem_le ht) hz')
        have rd : Reads s.heap (.ref a) (.list ps) (a :: as) := .list g1 g2 g3 h2
        have na : a ∉ bs := not_mem_of_deeper rd (by simp only [PyData.depth]; omega) h1
        simp only [PyData.depth] at hu1
        have fin2 : ∀ (h' : Heap) (t : Tok) (tk : Nat), (∀ b o, s.heap.get? b = some o → h'.get? b = some o) → EP X pins σ Q (.str (listText (PyData.shownAll ps)) t) { s with heap := h', toks := tk } := fun h' t tk hk => by
          have := fin h' t tk hk
          simp only [PyData.shown] at this
          exact this
        cases its with
        | nil =>
          cases h2
          simp only [PyData.shownAll, listText_nil] at fin2
          exact call_repr_slot (by omega) ⟨o, g1, g2⟩ F.slot_list_repr.toG (call_list_repr_empty ⟨o, g1, g2⟩ g1 g3 ⟨_, _, rfl, fin2 s.heap _ _ fun _ _ z => z⟩)
        | cons y l => exact call_repr_slot (by omega) ⟨o, g1, g2⟩ F.slot_list_repr.toG (call_list_reprK g1 g2 g3 na (by simpa using h3.length_eq) (fun i z ez => h3.item i z (by simpa using ez)) gd (fun b _ => Clear.nil b) hu1 (fun _ _ z => z) (fun h' t tk hk => ⟨_, _, rfl, fin2 h' t tk hk⟩) hz')
    | dcv ks ds =>
      match ks, ds, e, r with
      | [], [], e, r =>
        cases e
        obtain ⟨a, vs, rfl, hq, rl⟩ := r
        cases (show vs = [] from rl)
        cases (show _ = _ from ru)
        obtain ⟨hsys, o, n, g1, g2, g3⟩ := dic0_obj I hq
        simp only [PyData.depth] at hu1
        refine call_repr_slot (by omega) ⟨o, g1, g2⟩ F.slot_dict_repr (call_dict_reprK (ps := []) g1 g2 g3 hsys (List.not_mem_nil) .nil gd (fun b _ => Clear.nil b) hu1 (fun _ _ z => z) (fun h' t tk hk => ⟨_, _, rfl, ?_⟩) (by simpa only [PyData.shown, PyData.shownKv] using hz))
        have := fin h' t tk hk
        simp only [PyData.shown, PyData.shownKv] at this
        exact this
      | _ :: _, _, e, _ => cases e
      | [], _ :: _, e, _ => cases e
    | ref a => cases e
    | ty n => cases e
  · exact q.elim
theorem ok_repr {K : PySem.W.Frag} : CallOk K (lRC K fRepr) fRepr := lRC_ok
end DL

set_option maxHeartbeats 4000000
namespace DL
open PySem PySem.Spec L2
open PyProof.Rows hiding St
/-! ## the end, for a law whose defs write collections out -/
theorem lawG_call {P : Program} {w : World} {K : PySem.W.Frag} {mg mb : Str → Option Value} {CX : CXT} {k : Nat} {fa a : Addr} {fd : FuncData} {x : Str} {sp : Sp} {s : Shared} {vs : List Value} {ns : List Int} (inK : K.In s.heap) (gN : s.heap.Ns mainGlobals mg)
    (bN : s.heap.Ns builtinsNs mb) (bB : ∀ y : Str, y ≠ "__name__" → mb y = bootBuiltins y) (nol : s.heap.NoLimit) (gens : s.gens = #[]) (obj : s.heap.get? a = some { cls := .type "list", data := .seq vs.toArray }) (areI : IntsAre vs ns) (short : ns.length ≤ sizeLine) (room : Room k callerA)
    (F : ∀ base : Heap, K.In base → base.Ns mainGlobals mg → FnOkG P w K mg base CX k fa fd [x] sp) (bnd : ∀ (s : Shared) (u : Value), BindsTo s fd ⟨[u], []⟩ [(x, u)])
    (want : ∀ H : Hp, Only H → SqL K H a (ns.map V.int) → sp [.ref a] H (fun v _ => v = .bl true) fun _ _ _ => False) (out : ∀ H e s2, CX [] H s (fun _ _ _ => False) e s2 → False) :
    codeAny (model P w) callerA (.call (.ref fa) ⟨[.ref a], []⟩) (fun r s2 => r = .ok (.ret (.bool true)) ∧ OldK s.heap s2.heap ∧ s2.os = s.os ∧ AllBare s2.gens) s := by
  have core : ∀ H : Hp, Only H → SqL K H a (ns.map V.int) → HOk P w H s.heap → (∀ b, H b ≠ none → b = a ∧ K.lookup a = none) →
      codeAny (model P w) callerA (.call (.ref fa) ⟨[.ref a], []⟩) (fun r s2 => r = .ok (.ret (.bool true)) ∧ OldK s.heap s2.heap ∧ s2.os = s.os ∧ AllBare s2.gens) s := by
    intro H only sq hok one
    have free : ∀ {b : Addr}, ¬ (b = a ∧ K.lookup a = none) → H b = none := fun {b} n => by
      cases q : H b with
      | none => rfl
      | some u => exact absurd (one b (by rw [q]; exact fun z => nomatch z)) n
    have ns2 : ∀ {b : Addr} {m : Str → Option Value}, s.heap.Ns b m → (hidT s.heap H).Ns b m := by
      rintro b m ⟨o, es, ep, e, d, r⟩
      refine ⟨o, es, ep, hidT_get e (free fun z => ?_), d, r⟩
      rw [z.1, obj] at e
      cases e
      have d2 : Data.seq vs.toArray _ = Data.dict es ep := d
      cases d2
    have kin2 : K.In (hidT s.heap H) := fun b o e => hidT_get (inK b o e) (free fun z => by rw [z.1, z.2] at e; cases e)
    have env : Env0 P w K mg (hidT s.heap H) callerA [] s H := by
      refine ⟨rfl, ⟨kin2, ns2 gN, ⟨mb, ns2 bN, bB⟩, ?_⟩, fun b o e => of_hidT e, Nat.le_of_eq (hidT_size _ _), trivial, ?_, hok, .of_eq gens⟩
      · obtain ⟨mc, n1, n2⟩ := nol
        exact ⟨mc, ns2 n1, n2⟩
      · intro b hb
        have hb : b ∈ ([] : List Addr) := hb
        cases hb
    refine codeAny_mono ((F _ kin2 (ns2 gN)).go callerA [] s H ⟨[.ref a], []⟩ [.ref a] [.ref a] _ _ rfl room env (bnd s (.ref a)) (.cons rfl .nil) (want H only sq)) ?_
    rintro (er | fl) s2 z
    · exact (out H er s2 z).elim
    cases fl with
    | next => exact z.elim
    | brk => exact z.elim
    | cont => exact z.elim
    | ret u =>
      obtain ⟨v, H2, os, bare, un, hok2, rv, q⟩ := z
      cases (show v = .bl true from q)
      cases (show u = Value.bool true from rv)
      refine ⟨rfl, OldK.of_keep ?_, os, bare⟩
      intro b o e
      cases q : H b with
      | none =>
        refine un.keep b o e q ?_ ?_
        · intro hb
          have hb : b ∈ ([] : List Addr) := hb
          cases hb
        · intro hb
          cases hb
      | some u =>
        rcases only b with y | ⟨ob, xs, y⟩
        · rw [q] at y; cases y
        · have y2 := (hok2 b _ (un.frzs b ob _ y)).1
          have y1 := (hok b _ y).1
          rw [e] at y1
          cases y1
          exact y2
  by_cases hk : K.lookup a = none
  · refine core (fun b => if b = a then some (.frz { cls := .type "list", data := .seq vs.toArray } (.lst (ns.map V.int))) else none) ?_ ?_ ?_ ?_
    · intro b
      by_cases hb : b = a
      · exact .inr ⟨_, _, if_pos hb⟩
      · exact .inl (if_neg hb)
    · exact .inl (.inr ⟨_, if_pos rfl⟩)
    · intro b u z
      by_cases hb : b = a
      · have z := (if_pos hb).symm.trans z
        cases z
        subst hb
        exact ⟨obj, by rw [List.length_map]; exact short, vs, _, vals_ints areI, obj⟩
      · have z := (if_neg hb).symm.trans z
        cases z
    · intro b z
      by_cases hb : b = a
      · exact ⟨hb, hk⟩
      · exact absurd (if_neg hb) z
  · obtain ⟨o, e⟩ := Option.ne_none_iff_exists'.mp hk
    have e2 := inK a o e
    rw [obj] at e2
    cases e2
    refine core (fun _ => none) (fun _ => .inl rfl) (.inr ⟨_, vs.toArray, _, e, rfl, rfl, rfl, ?_, ?_⟩) (fun b u z => nomatch (show (none : Option HO) = some u from z)) fun b z => absurd rfl z
    · rw [List.size_toArray, areI.length]; exact short
    · simpa using vals_ints areI
theorem walkG_of {l : PySem.W.OpenLaw} {n k : Nat} {q : Program} {loose : List Str} {XP : (Str → Option Value) → Heap → Prop} {YP : World → Heap → Prop} {d : DefRec} {K : Params → PySem.W.Frag} {CX : World → CXT} {sp : World → Sp} {x : Str} (hn : l.most = some n) (hz : n ≤ sizeLine)
    (hd : d.params.defaults = []) (room : Room k callerA) (hY : ∀ (w : World) (h : Heap), YP w h → (K w.params).In h)
    (F : ∀ (w : World) (mg : Str → Option Value) (fa : Addr) (h : Heap), (K w.params).In h → h.Ns mainGlobals mg → mg d.name = some (.ref fa) → ∃ fd : FuncData, (∀ (s : Shared) (u : Value), BindsTo s fd ⟨[u], []⟩ [(x, u)]) ∧
      ∀ base : Heap, (K w.params).In base → base.Ns mainGlobals mg → FnOkG l.prog w (K w.params) mg base (CX w) k fa fd [x] (sp w))
    (want : ∀ (w : World) (H : Hp) (a : Addr) (ns : List Int), ns.length ≤ n → Only H → SqL (K w.params) H a (ns.map V.int) → sp w [.ref a] H (fun v _ => v = .bl true) fun _ _ _ => False)
    (out : ∀ (w : World) (H : Hp) (s : Shared) (e : Value) (s2 : Shared), CX w [] H s (fun _ _ _ => False) e s2 → False) : PySem.W.WalkO q loose XP YP l.row.toRowW d [] (fun f vs => PySem.call f vs) := by
  refine Att.attach_call hn hd ?_
  intro w s0 s mg mb fa o pm cd doc a vs ns G Y ho hd2 hcd hmg obj areI hlen gens
  obtain ⟨fd, b, hF⟩ := F w mg fa _ (hY w _ Y) G.T.g hmg
  exact lawG_call (hY w _ Y) G.T.g G.T.b G.T.builtins G.T.nolimit gens obj areI (Nat.le_trans hlen hz) room hF b (fun H hO hS => want w H a ns hlen hO hS) fun H e s2 => out w H s e s2
end DL

set_option maxHeartbeats 4000000
namespace DL
open PySem PySem.Spec L2
open PyProof.Rows hiding St
/-! ## list comprehensions of several clauses: clause by clause -/
def turnO (t i : Expr) (fs : List Expr) (i1 : Expr) (e : Expr) (k : Nat) (it acc : Value) (en : Env) : Sem Fin := do
  standAt i.pos
  match ← pyNext it with
  | none => pure (.done .next)
  | some v =>
    letOwnedTupleGo t it v; assign t en v
    let mut ok := true
    for c in fs do
      if ok then ok ← isTrue c en (eval c en)
    if ok then
      let x ← eval i1 en
      standAt i1.pos
      let x ← foldedSetIterable i1 en x
      let _ ← runOwn (.compStart e (k + 1) (← holding [x] (pyIter x)) acc en) en
    again (.compLoop e k it acc en)
def turnI (t i : Expr) (fs : List Expr) (elt : Expr) (e : Expr) (k : Nat) (it acc : Value) (en : Env) : Sem Fin := do
  standAt i.pos
  match ← pyNext it with
  | none => pure (.done .next)
  | some v =>
    letOwnedTupleGo t it v; assign t en v
    let mut ok := true
    for c in fs do
      if ok then ok ← isTrue c en (eval c en)
    if ok then (do let _ ← call (.builtin "list.append") [acc, ← eval elt en])
    again (.compLoop e k it acc en)
abbrev testsOf (fs : List Expr) (en : Env) : Sem Bool := forIn fs true fun c r => if r = true then do let ok ← isTrue c en (eval c en); pure (ForInStep.yield ok) else pure (ForInStep.yield r)
abbrev NoE : Value → Shared → Prop := fun _ _ => False
section
variable {prog : Program} {w : World} {A : Around} {R : Result → Shared → Prop} {s : Shared} {t i i1 elt e : Expr} {fs : List Expr} {k : Nat} {it acc : Value} {en : Env}
/-- a turn of an outer clause -/
theorem goO (q : (Code.compLoop e k it acc en).quiet = true) (hden : ∀ M : Model, M = model prog w → M.den (.compLoop e k it acc en) = (compTurn e k it acc en).onRaise (fun x => do noteFrame x en; theTreesLotGoes x)) (hA : A.under (.compLoop e k it acc en) = A) (he : compTurn e k it acc en = turnO t i fs i1 e k it acc en)
    (hs : ∀ x, foldedSetIterable i1 en x = pure x) (I : Nat → Shared → Prop)
    (turn : ∀ n s, I n s → wpAny (model prog w) A (pyNext it) (fun r s1 => match r with
      | none => R (.ok .next) s1
      | some v => wpAny (model prog w) A (letOwnedTupleGo t it v) (fun _ s2 => wpAny (model prog w) A (assign t en v) (fun _ s3 => wpAny (model prog w) A (testsOf fs en) (fun ok s4 =>
          if ok = true then wpAny (model prog w) A (eval i1 en) (fun x s5 => wpAny (model prog w) A (pyIter x) (fun j s6 => codeAny (model prog w) A (.compStart e (k + 1) j acc en) (fun r s7 => match r with | .ok _ => ∃ m, m < n ∧ I m s7 | .error _ => False) s6) NoE s5) NoE s4
          else ∃ m, m < n ∧ I m s4) NoE s3) NoE s2) NoE s1) NoE s) (n : Nat) (h : I n s) : codeAny (model prog w) A (.compLoop e k it acc en) R s := by
  refine codeAny_loop q I (fun n s hI => ?_) n h
  rw [hA, hden _ rfl]
  refine wpAny_noted ?_
  rw [he]
  unfold turnO
  refine wpAny_bind (wpAny_standAt (wpAny_bind (thnF (turn n s hI) fun r s1 h1 => ?_)))
  cases r with
  | none => exact wpAny_pure h1
  | some v =>
    refine wpAny_bind (thnF h1 fun _ s2 h2 => wpAny_bind (thnF h2 fun _ s3 h3 => wpAny_bind (thnF h3 fun ok s4 h4 => ?_)))
    cases ok with
    | false => exact wpAny_pure ⟨rfl, h4⟩
    | true =>
      refine wpAny_bind (thnF h4 fun x s5 h5 => wpAny_bind (wpAny_standAt (wpAny_bind (wpAny_of_eq (hs x) (wpAny_bind (wpAny_holding (thnF h5 fun j s6 h6 => ?_)))))))
      refine wpAny_bind (wpAny_runOwn ?_)
      rw [Around.mark_none]
      refine codeAny_mono h6 fun r s7 hr => ?_
      cases r with
      | ok f => first | exact wpAny_pure ⟨rfl, hr⟩ | exact wpAny_bind (wpAny_pure (wpAny_pure ⟨rfl, hr⟩))
      | error e => exact hr.elim
/-- a turn of the last clause -/
theorem goI (q : (Code.compLoop e k it acc en).quiet = true) (hden : ∀ M : Model, M = model prog w → M.den (.compLoop e k it acc en) = (compTurn e k it acc en).onRaise (fun x => do noteFrame x en; theTreesLotGoes x)) (hA : A.under (.compLoop e k it acc en) = A) (he : compTurn e k it acc en = turnI t i fs elt e k it acc en) (I : Nat → Shared → Prop)
    (turn : ∀ n s, I n s → wpAny (model prog w) A (pyNext it) (fun r s1 => match r with
      | none => R (.ok .next) s1
      | some v => wpAny (model prog w) A (letOwnedTupleGo t it v) (fun _ s2 => wpAny (model prog w) A (assign t en v) (fun _ s3 => wpAny (model prog w) A (testsOf fs en) (fun ok s4 =>
          if ok = true then wpAny (model prog w) A (eval elt en) (fun x s5 => wpAny (model prog w) A (call (.builtin "list.append") [acc, x]) (fun _ s6 => ∃ m, m < n ∧ I m s6) NoE s5) NoE s4
          else ∃ m, m < n ∧ I m s4) NoE s3) NoE s2) NoE s1) NoE s) (n : Nat) (h : I n s) : codeAny (model prog w) A (.compLoop e k it acc en) R s := by
  refine codeAny_loop q I (fun n s hI => ?_) n h
  rw [hA, hden _ rfl]
  refine wpAny_noted ?_
  rw [he]
  unfold turnI
  refine wpAny_bind (wpAny_standAt (wpAny_bind (thnF (turn n s hI) fun r s1 h1 => ?_)))
  cases r with
  | none => exact wpAny_pure h1
  | some v =>
    refine wpAny_bind (thnF h1 fun _ s2 h2 => wpAny_bind (thnF h2 fun _ s3 h3 => wpAny_bind (thnF h3 fun ok s4 h4 => ?_)))
    cases ok with
    | false => exact wpAny_pure ⟨rfl, h4⟩
    | true => exact wpAny_bind (wpAny_bind (thnF h4 fun x s5 h5 => wpAny_bind (thnF h5 fun _ s6 h6 => wpAny_pure (wpAny_pure ⟨rfl, h6⟩))))
end
/-! ## in the frame's terms -/
/-- what a later state's slots know -/
def Knows (a b : St) : Prop := a.length = b.length ∧ ∀ (j : Nat) v, a[j]? = some (some v) → b[j]? = some (some v)
abbrev TB := St → Hp → (Hp → Prop) → Prop
def tLp (B : TB) (g : TG) (tt : TT) (vs : List Nat) (σ : St) (J : It) (H : Hp) (Nx : Hp → Prop) : Prop :=
  ∃ W : Nat → Nat → Hp → Prop, (∃ m, W 0 m H) ∧ ∀ j k H, W j k H → (J.stop j H ∧ Nx H) ∨ (J.go j H ∧ ∃ N1 : Hp → Prop, (∀ H', N1 H' → ∃ k', k' < k ∧ W (j + 1) k' H') ∧
    ∀ x H', J.yld j H x H' → g x (L2.wipe σ vs) H' fun σ3 H5 => L2.wipe σ3 vs = L2.wipe σ vs ∧ tt σ3 H5 fun b H6 => if b = true then B σ3 H6 N1 else N1 H6)
def tEm (te : TE) (D : Addr) : TB := fun σ H Nx => te σ H fun y H7 => ∃ acc, H7 D = some (.lst acc) ∧ acc.length < sizeLine ∧ Nx (upd H7 D (.lst (acc ++ [y])))
def tNest (wi : TI) (B : TB) (g : TG) (tt : TT) (vs : List Nat) : TB := fun σ H Nx => wi σ H fun J H4 => tLp B g tt vs σ J H4 Nx
/-- what a clause's body does: from any pins and slots on -/
def BodyOk (Y : Cx) (B : TB) (run : (Shared → Prop) → Shared → Prop) (σ0 : St) : Prop := ∀ (pins : List (Addr × Obj)) (σ : St) (H : Hp) (s : Shared) (Nx : Hp → Prop) (P : Shared → Prop), Knows σ0 σ → Inv Y pins σ H s → B σ H Nx →
  (∀ σ' H' s', Knows σ0 σ' → Inv Y pins σ' H' s' → Nx H' → P s') → run P s
section
variable {Y : Cx} {t i : Expr} {fs : List Expr} {g : TG} {tt : TT} {vs : List Nat} {J : It} {fp : List Addr} {it : Addr} {tn : Nat → Heap → Prop}
/-- one turn, its body apart -/
theorem lp_turn (hc : Y.calm = true) (T : Turn Y.prog Y.w Y.K t J fp it tn) (pg : PG Y t g) (pt : PTs Y fs tt) {B : TB} {run : (Shared → Prop) → Shared → Prop} {σ : St} (hb : BodyOk Y B run (L2.wipe σ vs)) {Nx : Hp → Prop} {W : Nat → Nat → Hp → Prop}
    (turn : ∀ j k H, W j k H → (J.stop j H ∧ Nx H) ∨ (J.go j H ∧ ∃ N1 : Hp → Prop, (∀ H', N1 H' → ∃ k', k' < k ∧ W (j + 1) k' H') ∧
      ∀ x H', J.yld j H x H' → g x (L2.wipe σ vs) H' fun σ3 H5 => L2.wipe σ3 vs = L2.wipe σ vs ∧ tt σ3 H5 fun b H6 => if b = true then B σ3 H6 N1 else N1 H6))
    {pins : List (Addr × Obj)} {H : Hp} {s : Shared} {j n : Nat} (ex : ∀ {H' : Hp}, (∀ b ∈ fp, H' b = none) → (∃ σ' s', Inv Y pins σ' H' s') → ∀ b ∈ fp, FpOk Y pins H' b) (I : Inv Y pins (L2.wipe σ vs) H s) (st : tn j s.heap) (nf : ∀ b ∈ fp, H b = none) (w : W j n H)
    {Pd : Shared → Prop} (hd : ∀ H' s', Inv Y pins (L2.wipe σ vs) H' s' → Nx H' → Pd s') :
    wpAny (model Y.prog Y.w) Y.A (pyNext (.ref it)) (fun r s1 => match r with
      | none => Pd s1
      | some v => wpAny (model Y.prog Y.w) Y.A (letOwnedTupleGo t (.ref it) v) (fun _ s2 => wpAny (model Y.prog Y.w) Y.A (assign t Y.env v) (fun _ s3 => wpAny (model Y.prog Y.w) Y.A (testsOf fs Y.env) (fun ok s4 =>
          if ok = true then run (fun s7 => ∃ m, m < n ∧ ∃ j H', Inv Y pins (L2.wipe σ vs) H' s7 ∧ tn j s7.heap ∧ (∀ b ∈ fp, H' b = none) ∧ W j m H') s4
          else ∃ m, m < n ∧ ∃ j H', Inv Y pins (L2.wipe σ vs) H' s4 ∧ tn j s4.heap ∧ (∀ b ∈ fp, H' b = none) ∧ W j m H') Y.xe s3) Y.xe s2) NoE s1) NoE s := by
  rcases turn j n H w with ⟨stop, nx⟩ | ⟨go, N1, up, step⟩
  · refine thnF (T.done Y rfl rfl rfl hc j pins s _ H NoE I (ex nf ⟨_, _, I⟩) st stop) fun r s1 ⟨hr, I1⟩ => ?_
    subst hr
    exact hd _ _ I1 nx
  · refine thnF (T.item Y rfl rfl rfl hc j pins s _ H NoE I (ex nf ⟨_, _, I⟩) st go) fun r s1 ⟨u, hr, h1⟩ => ?_
    subst hr
    refine thnF h1 fun _ s2 ⟨x, H2, I2, rx, y2, st2, n2⟩ => ?_
    have I2' := I2.pinned (ex n2 ⟨_, _, I2⟩) (T.obj _ _ st2)
    refine thn (pg.run _ s2 _ H2 x u _ I2' rx (step x H2 y2)) fun _ s3 ⟨σ3, H3, I3, hw, q3⟩ => ?_
    refine thn (pt.run _ s3 σ3 H3 _ I3 q3) fun b s4 ⟨H4, I4, q4⟩ => ?_
    have kn : Knows (L2.wipe σ vs) σ3 := by
      refine ⟨by rw [← hw, wipe_length], fun j v e => ?_⟩
      rw [← hw] at e
      exact (wipe_some e).1
    have fin : ∀ σ' H' s', Knows (L2.wipe σ vs) σ' → Inv Y (pins ++ pinsAt fp s2.heap) σ' H' s' → N1 H' → ∃ m, m < n ∧ ∃ j H', Inv Y pins (L2.wipe σ vs) H' s' ∧ tn j s'.heap ∧ (∀ b ∈ fp, H' b = none) ∧ W j m H' := by
      intro σ' H' s' kn' I' nx
      obtain ⟨m', hm, w'⟩ := up H' nx
      have stay : ∀ b ∈ fp, ∀ o, s2.heap.get? b = some o → s'.heap.get? b = some o ∧ H' b = none := fun b hb o e => by
        have z := I'.pin (b, o) (List.mem_append_right _ (List.mem_append_right _ (mem_pinsAt hb e)))
        exact ⟨z.1, z.2.1⟩
      refine ⟨m', hm, j + 1, H', I'.unpinned.weak kn'.1 kn'.2, T.keep _ _ _ st2 fun b hb o e => (stay b hb o e).1, fun b hb => ?_, w'⟩
      obtain ⟨o, e, _⟩ := T.obj _ _ st2 b hb
      exact (stay b hb o e).2
    cases b with
    | false =>
      simp only [Bool.false_eq_true, if_false] at q4 ⊢
      exact fin _ _ _ kn I4 q4
    | true =>
      simp only [if_true] at q4 ⊢
      exact hb _ σ3 H4 s4 N1 _ kn I4 q4 fun σ' H' s' k' I' nx => fin σ' H' s' k' I' nx
end
end DL

set_option maxHeartbeats 4000000
namespace DL
open PySem PySem.Spec L2
open PyProof.Rows hiding St
section
variable {prog : Program} {w : World} {A : Around} {R : Result → Shared → Prop} {s : Shared} {t i e : Expr} {fs : List Expr} {k : Nat} {it acc : Value} {en : Env}
/-- the start of a clause -/
theorem startAt (hcl : (clausesOf e)[k]? = some ⟨t, i, fs, 0⟩) (hden : ∀ M : Model, M = model prog w → M.den (.compStart e k it acc en) = (compStart e k it acc en).onRaise (fun x => do noteFrame x en; standAt theWindowsPlace)) (hA : A.under (.compStart e k it acc en) = A)
    (h0 : codeAny (model prog w) A (.compLoop e k it acc en) R s) (h : wpAny (model prog w) A (pyIter it) (fun j s2 => codeAny (model prog w) A (.compLoop e k j acc en) R s2) NoE s) : codeAny (model prog w) A (.compStart e k it acc en) R s := by
  refine codeAny_of_tree ?_
  rw [hA, hden _ rfl]
  refine wpAny_notedAt ?_
  unfold compStart
  rw [hcl]
  show wpAny _ _ (ask >>= _) _ _ s
  refine wpAny_bind (wpAny_askSetting (wpAny_ite ?_))
  split
  · first
      | exact wpAny_bind (wpAny_pure (wpAny_pure (And.intro rfl h0)))
      | exact wpAny_pure (And.intro rfl h0)
  · refine wpAny_bind (wpAny_rule ?_)
    show wpAny _ _ (standAt i.pos >>= _) _ _ s
    exact wpAny_bind (wpAny_standAt (wpAny_bind (thnF h fun j s2 z => wpAny_pure (And.intro rfl z))))
end
abbrev runE (Y : Cx) (elt : Expr) (acc : Value) (P : Shared → Prop) (s : Shared) : Prop := wpAny (model Y.prog Y.w) Y.A (eval elt Y.env) (fun x s5 => wpAny (model Y.prog Y.w) Y.A (call (.builtin "list.append") [acc, x]) (fun _ s6 => P s6) NoE s5) NoE s
abbrev runN (Y : Cx) (i1 e : Expr) (k : Nat) (acc : Value) (P : Shared → Prop) (s : Shared) : Prop := wpAny (model Y.prog Y.w) Y.A (eval i1 Y.env) (fun x s5 => wpAny (model Y.prog Y.w) Y.A (pyIter x) (fun j s6 =>
  codeAny (model Y.prog Y.w) Y.A (.compStart e (k + 1) j acc Y.env) (fun r s7 => match r with | .ok _ => P s7 | .error _ => False) s6) NoE s5) NoE s
section
variable {Y : Cx} {t i i2 e elt : Expr} {fs : List Expr} {wi : TI} {g : TG} {tt : TT} {te : TE} {vs : List Nat} {k : Nat} {D : Addr} {σ0 : St} {B : TB}
theorem bodyE (hxe : Y.xe = NoE) (he : PE Y elt te) : BodyOk Y (tEm te D) (runE Y elt (.ref D)) σ0 := by
  intro pins σ H s Nx P kn I h post
  have r := he.run pins s σ H _ I h
  rw [hxe] at r
  refine thnF r fun x s5 ⟨v, H5, I5, rv, ac, hD, hz, nx⟩ => ?_
  exact app_ok I5 hD hz rv fun s6 I6 => post σ _ s6 kn I6 nx
/-- the loop of a clause, once it is started: what is left is told of its turns -/
theorem bodyN (hc : Y.calm = true) (hxe : Y.xe = NoE) (hcl : (clausesOf e)[k + 1]? = some ⟨t, i, fs, 0⟩) (pi : PI Y t i wi) (pg : PG Y t g) (pt : PTs Y fs tt) {run : (Shared → Prop) → Shared → Prop} (hb : ∀ σ, Knows σ0 σ → BodyOk Y B run (L2.wipe σ vs)) (hv : ∀ (j : Nat) v, σ0[j]? = some (some v) → j ∉ vs)
    (hden : ∀ (M : Model) (it : Value), M = model Y.prog Y.w → M.den (.compStart e (k + 1) it (.ref D) Y.env) = (compStart e (k + 1) it (.ref D) Y.env).onRaise (fun x => do noteFrame x Y.env; standAt theWindowsPlace)) (hA : ∀ it : Value, Y.A.under (.compStart e (k + 1) it (.ref D) Y.env) = Y.A)
    (loop : ∀ (it : Value) (R : Result → Shared → Prop) (I : Nat → Shared → Prop), (∀ n s, I n s → wpAny (model Y.prog Y.w) Y.A (pyNext it) (fun r s1 => match r with
      | none => R (.ok .next) s1
      | some v => wpAny (model Y.prog Y.w) Y.A (letOwnedTupleGo t it v) (fun _ s2 => wpAny (model Y.prog Y.w) Y.A (assign t Y.env v) (fun _ s3 => wpAny (model Y.prog Y.w) Y.A (testsOf fs Y.env) (fun ok s4 =>
          if ok = true then run (fun s7 => ∃ m, m < n ∧ I m s7) s4 else ∃ m, m < n ∧ I m s4) NoE s3) NoE s2) NoE s1) NoE s) → ∀ n s, I n s → codeAny (model Y.prog Y.w) Y.A (.compLoop e (k + 1) it (.ref D) Y.env) R s) :
    BodyOk Y (tNest wi B g tt vs) (runN Y i e k (.ref D)) σ0 := by
  intro pins σ H s Nx P kn I h post
  have r := pi.run pins s σ H _ I h
  rw [hxe] at r
  refine thnF r fun x s5 r5 => thnF r5 fun jv s6 ⟨it, fp, tn, J, H6, ej, I6, T, st, ff, W, ⟨m, w0⟩, turn⟩ => ?_
  subst ej
  have kn2 : Knows σ0 (L2.wipe σ vs) := by
    refine ⟨by rw [wipe_length]; exact kn.1, fun j v e => ?_⟩
    rw [wipe_out (hv j v e)]
    exact kn.2 j v e
  have lp := loop (.ref it) (fun r s7 => match r with | .ok _ => P s7 | .error _ => False) (fun n s' => ∃ j H', Inv Y pins (L2.wipe σ vs) H' s' ∧ tn j s'.heap ∧ (∀ b ∈ fp, H' b = none) ∧ W j n H') (fun n s' ⟨j, H', I', st', nf, w'⟩ => by
    have q := lp_turn hc T pg pt (hb σ kn) turn (fun {H2} hn _ b hb => ⟨hn b hb, (ff b hb).2⟩) I' st' nf w' (Pd := P) fun H2 s2 I2 nx => post _ H2 s2 kn2 I2 nx
    rw [hxe] at q
    exact q) m s6 ⟨0, H6, I6.weak (wipe_length _ _) (fun j v e => (wipe_some e).1), st, fun b hb => (ff b hb).1, w0⟩
  exact startAt hcl (fun M hM => hden M _ hM) (hA _) lp (T.self Y.A 0 _ _ _ st lp)
end
end DL

set_option maxHeartbeats 4000000
namespace DL
open PySem PySem.Spec L2
open PyProof.Rows hiding St
def tLcN (wi : TI) (B : Addr → TB) (g : TG) (tt : TT) (vs : List Nat) : TE := fun σ H Q => wi σ H fun J H1 => ∀ D, H1 D = none → tLp (B D) g tt vs σ J (upd H1 D (.lst [])) fun H2 => Q (.ref D) H2
/-- what the clauses behind the first do, in any block of the comprehension -/
def RestOk (X : Cx) (elt tg iter : Expr) (ifs : List Expr) (rest : List Comprehension) (scope : Scope) (pos : Pos) (B : Addr → TB) (vs : List Nat) : Prop := ∀ (s : Shared) (H : Hp) (C : Addr) (cl : List (Str × Addr)) (fp : List Addr) (D : Addr) (Y : Cx), Y = X.blk s H scope (compEnvC scope cl C X.env) fp →
  ∃ run : (Shared → Prop) → Shared → Prop, (∀ σ, BodyOk Y (B D) run (L2.wipe σ vs)) ∧
    ∀ (it : Value) (R : Result → Shared → Prop) (I : Nat → Shared → Prop), (∀ n s, I n s → wpAny (model Y.prog Y.w) Y.A (pyNext it) (fun r s1 => match r with
      | none => R (.ok .next) s1
      | some v => wpAny (model Y.prog Y.w) Y.A (letOwnedTupleGo tg it v) (fun _ s2 => wpAny (model Y.prog Y.w) Y.A (assign tg Y.env v) (fun _ s3 => wpAny (model Y.prog Y.w) Y.A (testsOf ifs Y.env) (fun ok s4 =>
          if ok = true then run (fun s7 => ∃ m, m < n ∧ I m s7) s4 else ∃ m, m < n ∧ I m s4) NoE s3) NoE s2) NoE s1) NoE s) → ∀ n s, I n s → codeAny (model Y.prog Y.w) Y.A (.compLoop (.ListComp elt (⟨tg, iter, ifs, 0⟩ :: rest) scope pos) 0 it (.ref D) Y.env) R s
section
variable {X : Cx}
theorem lcN_core {pins : List (Addr × Obj)} {s : Shared} {σ : St} {H : Hp} {Q : VK} {elt tg iter : Expr} {ifs : List Expr} {rest : List Comprehension} {scope : Scope} {own : List (Str × Nat)} {pos pos' : Pos} {wi : TI} {g : TG} {tt : TT} {B : Addr → TB} {use : Option (Value → Sem Unit)} {Qf : Value → Shared → Prop}
    (hc : X.calm = true) (hN : X.N.Nodup) (I : Inv X pins σ H s) (hi : PI X tg iter wi) (ok : BlkOk X.N X.env.scope scope own) (hg : ∀ (s : Shared) (H : Hp) (C : Addr) (cl : List (Str × Addr)) (fp : List Addr), PG (X.blk s H scope (compEnvC scope cl C X.env) fp) tg g)
    (ht : ∀ (s : Shared) (H : Hp) (C : Addr) (cl : List (Str × Addr)) (fp : List Addr), PTs (X.blk s H scope (compEnvC scope cl C X.env) fp) ifs tt) (body : RestOk X elt tg iter ifs rest scope pos B (own.map (·.2))) (hs : ∀ x, foldedSetIterable iter X.env x = pure x) (h : tLcN wi B g tt (own.map (·.2)) σ H Q)
    (out : ∀ D C s2 m H2, Inv X pins σ H2 s2 → Q (.ref D) H2 → s2.heap.Ns C m → FpOk X pins H2 C → compPost (model X.prog X.w) X.A X.xe use Qf (.ref D) C (.ok .next) s2) :
    wpAny (model X.prog X.w) X.A (comprehension (.ListComp elt (⟨tg, iter, ifs, 0⟩ :: rest) scope pos) scope X.env pos' (newList []) false (eval iter X.env) use) Qf X.xe s := by
  have frees : ∀ y ∈ scope.names, y.2 = .free → ∃ c, X.env.cells.lookup y.1 = some c := by
    intro y hy e
    exact (ok.free y hy e).elim (fun k => I.ok.has _ (.inl k)) fun k => I.ok.has _ (.inr k)
  refine wpAny_comprehension_free (use := use) rfl hs (closure_ok frees) ok.kind (fun y hy e => by rw [ok.uniq y hy, e]) (thn (hi.run pins s σ H _ I h) fun xv s1 hx => thn hx fun itv s2 ⟨it, fp, tn, J, H2, e, I2, T, st2, f2, q⟩ => ?_)
  subst e
  refine wpAny_newObj_type (newEnv_comp ?_) (by show 0 ≤ sizeLine; decide)
  generalize hD : s2.heap.objs.size = D
  have freshD : H2 D = none := I2.hok.fresh (Nat.le_of_eq hD)
  obtain ⟨W, ⟨m0, w0⟩, turn⟩ := q D freshD
  generalize hs3 : ({ s2 with heap := s2.heap.push { cls := .type "list", data := .seq ([] : List Value).toArray } } : Shared) = s3
  have pushed : s3.heap = s2.heap.push { cls := .type "list", data := .seq ([] : List Value).toArray } := by rw [← hs3]
  have I3 : Inv X pins σ (upd H2 D (.lst [])) s3 := by
    subst hs3
    refine I2.laid (t' := s2.toks) (fun b o z => Heap.get?_push_of_some _ z) (Nat.le_of_eq hD) ⟨Nat.zero_le _, [], 0, .nil, ?_⟩
    subst hD
    exact Heap.get?_push_size _ rfl
  have f3 : ∀ b ∈ fp, FpOk X pins (upd H2 D (.lst [])) b ∧ b < s3.heap.objs.size := by
    intro b hb
    obtain ⟨o, z, _⟩ := T.obj _ _ st2 b hb
    have lt := Heap.lt_size z
    refine ⟨⟨?_, (f2 b hb).2⟩, ?_⟩
    · rw [upd_ne (by rw [← hD]; exact Nat.ne_of_lt lt)]
      exact (f2 b hb).1
    · rw [pushed, Heap.size_push]
      exact Nat.lt_succ_of_lt lt
  have st3 : tn 0 s3.heap := T.keep _ _ _ st2 fun b _ o z => by rw [pushed]; exact Heap.get?_push_of_some _ z
  have I4 := block_start I3 ok hN f3
  have pg := hg s3 (upd H2 D (.lst [])) s3.heap.objs.size (cellsFrom (s3.heap.objs.size + 1) scope.names (cloFrom X.env.cells scope.names [])) fp
  have pt := ht s3 (upd H2 D (.lst [])) s3.heap.objs.size (cellsFrom (s3.heap.objs.size + 1) scope.names (cloFrom X.env.cells scope.names [])) fp
  obtain ⟨run, hb, loop0⟩ := body s3 (upd H2 D (.lst [])) s3.heap.objs.size (cellsFrom (s3.heap.objs.size + 1) scope.names (cloFrom X.env.cells scope.names [])) fp D _ rfl
  show codeAny _ _ (.compStart (.ListComp elt (⟨tg, iter, ifs, 0⟩ :: rest) scope pos) 0 (.ref it) (.ref D) (compEnvC scope (cellsFrom (s3.heap.objs.size + 1) scope.names (cloFrom X.env.cells scope.names [])) s3.heap.objs.size X.env)) (compPost (model X.prog X.w) X.A X.xe use Qf (.ref D) s3.heap.objs.size) _
  have nf : ∀ b ∈ fp, (upd H2 D (.lst [])) b = none := fun b hb => (f3 b hb).1.1
  generalize hce : compEnvC scope (cellsFrom (s3.heap.objs.size + 1) scope.names (cloFrom X.env.cells scope.names [])) s3.heap.objs.size X.env = ce at I4 pg pt hb loop0 ⊢
  have cL : ce.locals = s3.heap.objs.size := by subst hce; rfl
  generalize hs4 : ({ s3 with heap := pushCells (s3.heap.push { cls := .type "dict", data := .dict #[] }) scope.names } : Shared) = s4 at I4 ⊢
  have st4 : tn 0 s4.heap := T.keep _ _ _ st3 fun b _ o z => by subst hs4; exact pushCells_keeps _ _ _ _ (Heap.get?_push_of_some _ z)
  generalize hY : X.blk s3 (upd H2 D (.lst [])) scope ce fp = Y at I4 pg pt hb loop0
  have fpY : ∀ {H' : Hp}, (∀ b ∈ fp, H' b = none) → (∃ σ' s', Inv Y [] σ' H' s') → ∀ b ∈ fp, FpOk Y [] H' b := by
    subst hY
    rintro H' hn ⟨σ', s', I'⟩ b hb
    have x := I'.ok.exf b hb
    exact ⟨hn b hb, x.1, I'.ok.exfs b hb, .inl hb, fun y c z => x.2 y c z, fun p hp => absurd (show p ∈ ([] : List (Addr × Obj)) ++ [] from hp) (by simp)⟩
  have lp : codeAny (model X.prog X.w) X.A (.compLoop (.ListComp elt (⟨tg, iter, ifs, 0⟩ :: rest) scope pos) 0 (.ref it) (.ref D) ce) (compPost (model X.prog X.w) X.A X.xe use Qf (.ref D) s3.heap.objs.size) s4 := by
    have e1 : Y.prog = X.prog := by rw [← hY]
    have e2 : Y.w = X.w := by rw [← hY]
    have e3 : Y.A = X.A := by rw [← hY]
    have e4 : Y.env = ce := by rw [← hY]
    have e5 : Y.xe = NoE := by rw [← hY]
    have e6 : Y.calm = true := by rw [← hY]; exact hc
    have T' : Turn Y.prog Y.w Y.K tg J fp it tn := by rw [← hY]; exact T
    have z := loop0 (.ref it) (compPost (model X.prog X.w) X.A X.xe use Qf (.ref D) s3.heap.objs.size) (fun n s' => ∃ j H', Inv Y [] (L2.wipe σ (own.map (·.2))) H' s' ∧ tn j s'.heap ∧ (∀ b ∈ fp, H' b = none) ∧ W j n H') (fun n s' ⟨j, H', I', st', n', w'⟩ => by
      have q := lp_turn e6 T' pg pt (hb σ) turn fpY I' st' n' w' (Pd := compPost (model X.prog X.w) X.A X.xe use Qf (.ref D) s3.heap.objs.size (.ok .next)) fun H5 s5 I5 nx => by
        subst hY
        have I7 : Inv X pins σ H5 s5 := I3.call' (ch := fp) I5.os I5.base I5.hok I5.bare fun b hb => ⟨(f3 b hb).1.2.2.2.1, (f3 b hb).1.2.1, (f3 b hb).1.2.2.2.2.1, (f3 b hb).1.2.2.2.2.2⟩
        have nC : H5 ce.locals = none := I5.free
        obtain ⟨m, hn, _⟩ := I5.loc
        have hn : s5.heap.Ns ce.locals m := hn
        rw [cL] at hn nC
        exact out D s3.heap.objs.size s5 m H5 I7 nx hn (I3.fpOk (Nat.le_refl _) nC)
      rw [e5] at q
      exact q) m0 s4 ⟨0, _, I4, st4, nf, w0⟩
    rw [e1, e2, e3, e4] at z
    exact z
  exact codeAny_compStart_list lp (T.self X.A 0 _ _ _ st4 lp)
theorem pe_lcN {elt tg iter : Expr} {ifs : List Expr} {rest : List Comprehension} {scope : Scope} {own : List (Str × Nat)} {pos : Pos} {wi : TI} {g : TG} {tt : TT} {B : Addr → TB} (hc : X.calm = true) (hN : X.N.Nodup) (hi : PI X tg iter wi) (ok : BlkOk X.N X.env.scope scope own)
    (hg : ∀ (s : Shared) (H : Hp) (C : Addr) (cl : List (Str × Addr)) (fp : List Addr), PG (X.blk s H scope (compEnvC scope cl C X.env) fp) tg g) (ht : ∀ (s : Shared) (H : Hp) (C : Addr) (cl : List (Str × Addr)) (fp : List Addr), PTs (X.blk s H scope (compEnvC scope cl C X.env) fp) ifs tt)
    (body : RestOk X elt tg iter ifs rest scope pos B (own.map (·.2))) (hs : ∀ x, foldedSetIterable iter X.env x = pure x := by intro _; rfl) : PE X (.ListComp elt (⟨tg, iter, ifs, 0⟩ :: rest) scope pos) (tLcN wi B g tt (own.map (·.2))) := by
  refine ⟨fun pins s σ H Q I h => ?_⟩
  rw [eval_ListComp]
  refine lcN_core hc hN I hi ok hg ht body hs h fun D C s2 m H2 I2 q hn f => ⟨m, hn, fun h2 sb => ?_⟩
  obtain ⟨f0, f1, f2, f3, f4, f5⟩ := f
  exact ⟨.ref D, H2, I2.turned (t' := s2.toks) (fun b o hb z => (sb.2 b hb).trans z) f0 f1 f3 f4 f5, rfl, q⟩
theorem ps_setLcN {i : Nat} {y : Str} {py : Pos} {elt tg iter : Expr} {ifs : List Expr} {rest : List Comprehension} {scope : Scope} {own : List (Str × Nat)} {pos spos : Pos} {wi : TI} {g : TG} {tt : TT} {B : Addr → TB} (hc : X.calm = true) (hN : X.N.Nodup) (hy : X.N[i]? = some y) (hyl : X.env.scope.names.lookup y = some .local)
    (hsw : swapsWith (.ListComp elt (⟨tg, iter, ifs, 0⟩ :: rest) scope pos) (some (.Name y py)) spos.line X.env = pure true) (hi : PI X tg iter wi) (ok : BlkOk X.N X.env.scope scope own)
    (hg : ∀ (s : Shared) (H : Hp) (C : Addr) (cl : List (Str × Addr)) (fp : List Addr), PG (X.blk s H scope (compEnvC scope cl C X.env) fp) tg g) (ht : ∀ (s : Shared) (H : Hp) (C : Addr) (cl : List (Str × Addr)) (fp : List Addr), PTs (X.blk s H scope (compEnvC scope cl C X.env) fp) ifs tt)
    (body : RestOk X elt tg iter ifs rest scope pos B (own.map (·.2))) (hs : ∀ x, foldedSetIterable iter X.env x = pure x := by intro _; rfl) :
    PS X (.Assign [.Name y py] (.ListComp elt (⟨tg, iter, ifs, 0⟩ :: rest) scope pos) spos) (tAsg (tLcN wi B g tt (own.map (·.2))) (gName i)) := by
  refine ⟨fun pins s σ H Dn I h => ?_⟩
  rw [exec_Assign_Name_used _ _ _ _ hsw]
  refine wpAny_bind (wpAny_standAt (wpAny_bind ?_))
  show wpAny _ X.A (do let _ ← comprehension (.ListComp elt (⟨tg, iter, ifs, 0⟩ :: rest) scope pos) scope X.env (firstIterPos (⟨tg, iter, ifs, 0⟩ :: rest) pos) (newList []) false (eval iter X.env) (some (assign (.Name y py) X.env))) _ _ s
  have h : tLcN wi B g tt (own.map (·.2)) σ H (fun x H1 => gName i x σ H1 Dn.nx) := h
  refine wpAny_bind (thn (lcN_core (Qf := fun _ s2 => SP X pins Dn .next s2) hc hN I hi ok hg ht body hs h fun L C s2 m H2 I2 q hn f => ?_) fun _ s2 z => wpAny_pure (wpAny_pure z))
  show wpAny _ _ (assign (.Name y py) X.env (.ref L)) _ _ _
  refine wpAny_assign_Name (store_ok2 (v := V.ref L) I2 hN hy (.inl hyl) rfl (fun s3 I3 ⟨a, sb, ha⟩ => ?_) (.inr hyl))
  obtain ⟨f0, f1, f2, f3, f4, f5⟩ := f
  have ne : C ≠ a := ha.elim (fun z => by rw [z]; exact f1) fun z e => f4 y a z e.symm
  exact ⟨m, hn.sameBut sb ne, fun h3 sb3 => ⟨_, H2, I3.turned (t' := s3.toks) (fun b o hb z => (sb3.2 b hb).trans z) f0 f1 f3 f4 f5, q⟩⟩
end
/-! ## two clauses, three clauses -/
section
variable {X : Cx} {elt t0 i0 t1 i1 t2 i2 : Expr} {f0 f1 f2 : List Expr} {scope : Scope} {pos : Pos} {vs vs1 vs2 : List Nat} {w1 w2 : TI} {g1 g2 : TG} {tt1 tt2 : TT} {te : TE}
theorem wipe_vs {σ : St} {vs ws : List Nat} (h : ∀ j ∈ ws, j ∈ vs) : ∀ (j : Nat) v, (L2.wipe σ vs)[j]? = some (some v) → j ∉ ws := fun j v e m => (wipe_some e).2 (h j m)
theorem rest2 (hc : X.calm = true) (hv : ∀ j ∈ vs1, j ∈ vs)
    (hi1 : ∀ (s : Shared) (H : Hp) (C : Addr) (cl : List (Str × Addr)) (fp : List Addr), PI (X.blk s H scope (compEnvC scope cl C X.env) fp) t1 i1 w1) (hg1 : ∀ (s : Shared) (H : Hp) (C : Addr) (cl : List (Str × Addr)) (fp : List Addr), PG (X.blk s H scope (compEnvC scope cl C X.env) fp) t1 g1)
    (ht1 : ∀ (s : Shared) (H : Hp) (C : Addr) (cl : List (Str × Addr)) (fp : List Addr), PTs (X.blk s H scope (compEnvC scope cl C X.env) fp) f1 tt1) (he : ∀ (s : Shared) (H : Hp) (C : Addr) (cl : List (Str × Addr)) (fp : List Addr), PE (X.blk s H scope (compEnvC scope cl C X.env) fp) elt te)
    (hs1 : ∀ env x, foldedSetIterable i1 env x = pure x := by intro _ _; rfl) : RestOk X elt t0 i0 f0 [⟨t1, i1, f1, 0⟩] scope pos (fun D => tNest w1 (tEm te D) g1 tt1 vs1) vs := by
  intro s H C cl fp D Y hY
  have e5 : Y.xe = NoE := by rw [hY]
  have e6 : Y.calm = true := by rw [hY]; exact hc
  refine ⟨runN Y i1 (.ListComp elt [⟨t0, i0, f0, 0⟩, ⟨t1, i1, f1, 0⟩] scope pos) 0 (.ref D), fun σ => ?_, fun it R I turn n s h => goO rfl (fun M hM => by subst hM; rfl) rfl (by rfl) (hs1 _) I turn n h⟩
  have a1 := hi1 s H C cl fp
  have a2 := hg1 s H C cl fp
  have a3 := ht1 s H C cl fp
  have a4 := he s H C cl fp
  rw [← hY] at a1 a2 a3 a4
  exact bodyN e6 e5 rfl a1 a2 a3 (fun σ _ => bodyE e5 a4) (wipe_vs hv) (fun M it hM => by subst hM; rfl) (fun it => rfl) fun it R I turn n s h => goI rfl (fun M hM => by subst hM; rfl) rfl (by rfl) I turn n h
theorem rest3 (hc : X.calm = true) (hv : ∀ j ∈ vs1, j ∈ vs) (hv2 : ∀ j ∈ vs2, j ∈ vs1)
    (hi1 : ∀ (s : Shared) (H : Hp) (C : Addr) (cl : List (Str × Addr)) (fp : List Addr), PI (X.blk s H scope (compEnvC scope cl C X.env) fp) t1 i1 w1) (hg1 : ∀ (s : Shared) (H : Hp) (C : Addr) (cl : List (Str × Addr)) (fp : List Addr), PG (X.blk s H scope (compEnvC scope cl C X.env) fp) t1 g1)
    (ht1 : ∀ (s : Shared) (H : Hp) (C : Addr) (cl : List (Str × Addr)) (fp : List Addr), PTs (X.blk s H scope (compEnvC scope cl C X.env) fp) f1 tt1)
    (hi2 : ∀ (s : Shared) (H : Hp) (C : Addr) (cl : List (Str × Addr)) (fp : List Addr), PI (X.blk s H scope (compEnvC scope cl C X.env) fp) t2 i2 w2) (hg2 : ∀ (s : Shared) (H : Hp) (C : Addr) (cl : List (Str × Addr)) (fp : List Addr), PG (X.blk s H scope (compEnvC scope cl C X.env) fp) t2 g2)
    (ht2 : ∀ (s : Shared) (H : Hp) (C : Addr) (cl : List (Str × Addr)) (fp : List Addr), PTs (X.blk s H scope (compEnvC scope cl C X.env) fp) f2 tt2) (he : ∀ (s : Shared) (H : Hp) (C : Addr) (cl : List (Str × Addr)) (fp : List Addr), PE (X.blk s H scope (compEnvC scope cl C X.env) fp) elt te)
    (hs1 : ∀ env x, foldedSetIterable i1 env x = pure x := by intro _ _; rfl) (hs2 : ∀ env x, foldedSetIterable i2 env x = pure x := by intro _ _; rfl) :
    RestOk X elt t0 i0 f0 [⟨t1, i1, f1, 0⟩, ⟨t2, i2, f2, 0⟩] scope pos (fun D => tNest w1 (tNest w2 (tEm te D) g2 tt2 vs2) g1 tt1 vs1) vs := by
  intro s H C cl fp D Y hY
  have e5 : Y.xe = NoE := by rw [hY]
  have e6 : Y.calm = true := by rw [hY]; exact hc
  refine ⟨runN Y i1 (.ListComp elt [⟨t0, i0, f0, 0⟩, ⟨t1, i1, f1, 0⟩, ⟨t2, i2, f2, 0⟩] scope pos) 0 (.ref D), fun σ => ?_, fun it R I turn n s h => goO rfl (fun M hM => by subst hM; rfl) rfl (by rfl) (hs1 _) I turn n h⟩
  have a1 := hi1 s H C cl fp
  have a2 := hg1 s H C cl fp
  have a3 := ht1 s H C cl fp
  have b1 := hi2 s H C cl fp
  have b2 := hg2 s H C cl fp
  have b3 := ht2 s H C cl fp
  have a4 := he s H C cl fp
  rw [← hY] at a1 a2 a3 a4 b1 b2 b3
  refine bodyN e6 e5 rfl a1 a2 a3 (run := runN Y i2 (.ListComp elt [⟨t0, i0, f0, 0⟩, ⟨t1, i1, f1, 0⟩, ⟨t2, i2, f2, 0⟩] scope pos) 1 (.ref D)) (fun σ _ => ?_) (wipe_vs hv) (fun M it hM => by subst hM; rfl) (fun it => rfl) fun it R I turn n s h => goO rfl (fun M hM => by subst hM; rfl) rfl (by rfl) (hs2 _) I turn n h
  exact bodyN e6 e5 rfl b1 b2 b3 (fun σ _ => bodyE e5 a4) (wipe_vs hv2) (fun M it hM => by subst hM; rfl) (fun it => rfl) fun it R I turn n s h => goI rfl (fun M hM => by subst hM; rfl) rfl (by rfl) I turn n h
end
end DL

set_option maxHeartbeats 4000000
namespace DL
open PySem PySem.Spec L2
open PyProof.Rows hiding St
/-! ## several clauses, by value: acc is what is made so far -/
abbrev DTB := DS → List Dv → DH → (List Dv → DH → Prop) → Prop
def dEm (te : DTE) : DTB := fun σ acc H Nx => te σ H fun y H1 => acc.length < sizeLine ∧ Nx (acc ++ [y]) H1
/-- one clause's turns; GG: the source stands -/
def dLp (B : DTB) (g : DTG) (tt : DTT) (vs : List Nat) (GG : DIt → List Dv → DH → Prop) (σ : DS) (acc : List Dv) (I : DIt) (H : DH) (Nx : List Dv → DH → Prop) : Prop := ∃ Pv : Nat → List Dv → DH → Prop, Pv 0 acc H ∧ (∀ i acc H, i ≤ I.n → Pv i acc H → GG I acc H) ∧
  (∀ i acc H, i < I.n → Pv i acc H → g (I.f i) (wipeD σ vs) H fun σ2 H2 => tt σ2 H2 fun b H3 => (b = true → B σ2 acc H3 (Pv (i + 1))) ∧ (b = false → Pv (i + 1) acc H3)) ∧ ∀ acc H, Pv I.n acc H → Nx acc H
/-- a further clause: D stands for the list that is being made; the source is found without a change -/
def dNest (it : DTI) (B : DTB) (g : DTG) (tt : DTT) (vs : List Nat) : DTB := fun σ acc H Nx => ∀ D, H D = none → it σ (upD H D (.lst acc)) fun I H1 => H1 = upD H D (.lst acc) ∧ dLp B g tt vs (fun I acc H => I.G (upD H D (.lst acc))) σ acc I H Nx
def dLcN (it : DTI) (B : DTB) (g : DTG) (tt : DTT) (vs : List Nat) : DTE := fun σ H Q => it σ H fun I H1 => dLp B g tt vs (fun I _ H => I.G H) σ [] I H1 fun acc H2 => Q (.lsv acc) H2
section
variable {K : PySem.W.Frag} {D : Addr}
/-- a step that may change the list at D -/
theorem Stp.plus {H H' : Hp} {Hd Hd' : DH} (s : Stp H Hd H' Hd') (a a' : List Dv) : Stp H (upD Hd D (.lst a)) H' (upD Hd' D (.lst a')) := by
  refine ⟨fun b o e n => ?_, s.dom, fun b n => ?_⟩
  · by_cases z : b = D
    · rw [z, upD_same] at n; cases n
    · rw [upD_ne z] at n; exact s.frame b o e n
  · by_cases z : b = D
    · exact .inl (by rw [z, upD_same]; exact fun q => nomatch q)
    · rw [upD_ne z] at n ⊢; exact s.new b n
theorem Stp.any {H H' : Hp} {Hd Hd' : DH} {a a' b b' : List Dv} (s : Stp H (upD Hd D (.lst a)) H' (upD Hd' D (.lst a'))) : Stp H (upD Hd D (.lst b)) H' (upD Hd' D (.lst b')) := by
  refine ⟨fun c o e n => ?_, s.dom, fun c n => ?_⟩
  · by_cases z : c = D
    · rw [z, upD_same] at n; cases n
    · rw [upD_ne z] at n; exact s.frame c o e (by rw [upD_ne z]; exact n)
  · by_cases z : c = D
    · exact .inl (by rw [z, upD_same]; exact fun q => nomatch q)
    · rw [upD_ne z] at n ⊢
      have := s.new c (by rw [upD_ne z]; exact n)
      rwa [upD_ne z] at this
theorem RepH.plus {H : Hp} {Hd : DH} {a : List Dv} {ws : List V} (r : RepH K H Hd) (e : H D = some (.lst ws)) (l : RepL K H a ws) : RepH K H (upD Hd D (.lst a)) := fun b o h => by
  by_cases z : b = D
  · subst z
    rw [upD_same] at h
    cases h
    exact ⟨ws, e, l⟩
  · rw [upD_ne z] at h; exact r b o h
theorem RepH.less {H : Hp} {Hd : DH} {a : List Dv} (r : RepH K H (upD Hd D (.lst a))) (n : Hd D = none) : RepH K H Hd ∧ ∃ ws, H D = some (.lst ws) ∧ RepL K H a ws := by
  refine ⟨fun b o h => ?_, ?_⟩
  · have z : b ≠ D := fun z => by rw [z, n] at h; cases h
    exact r b o (by rw [upD_ne z]; exact h)
  · exact r D _ upD_same
/-- where one may have come to -/
def Closed (D : Addr) (GS : Hp → DH → Prop) : Prop := ∀ H Hd H' Hd' a a', GS H Hd → Stp H (upD Hd D (.lst a)) H' (upD Hd' D (.lst a')) → Hd' D = none → GS H' Hd'
/-- a state while the list is made -/
structure LS (K : PySem.W.Frag) (D : Addr) (GS : Hp → DH → Prop) (H : Hp) (Hd : DH) (acc : List Dv) (ws : List V) : Prop where
  gs : GS H Hd
  rh : RepH K H Hd
  at' : H D = some (.lst ws)
  no : Hd D = none
  rl : RepL K H acc ws
def SD (K : PySem.W.Frag) (D : Addr) (GS : Hp → DH → Prop) (P : List Dv → DH → Prop) : Hp → Prop := fun H => ∃ acc ws Hd, LS K D GS H Hd acc ws ∧ P acc Hd
theorem LS.step {GS : Hp → DH → Prop} (cl : Closed D GS) {H H' : Hp} {Hd Hd' : DH} {acc : List Dv} {ws : List V} (l : LS K D GS H Hd acc ws) (s : Stp H Hd H' Hd') (r : RepH K H' Hd') : LS K D GS H' Hd' acc ws := by
  have n : Hd' D = none := by
    cases e : Hd' D with
    | none => rfl
    | some o =>
      rcases s.new D (by rw [e]; exact fun z => nomatch z) with z | z
      · exact absurd l.no z
      · rw [l.at'] at z; cases z
  exact ⟨cl _ _ _ _ acc acc l.gs (s.plus _ _) n, r, s.frame D _ l.at' l.no, n, s.repL l.rh l.rl⟩
/-- the body below serves the body above -/
def BLow (K : PySem.W.Frag) (D : Addr) (B : TB) (Bd : DTB) : Prop := ∀ (GS : Hp → DH → Prop) (σ : St) (σd : DS) (H : Hp) (acc : List Dv) (ws : List V) (Hd : DH) (P : List Dv → DH → Prop), Closed D GS → LS K D GS H Hd acc ws → RepS K H σd σ → Bd σd acc Hd P → B σ H (SD K D GS P)
theorem low_em {te : DTE} : BLow K D (tEm (lE K te) D) (dEm te) := by
  intro GS σ σd H acc ws Hd P cl l rs q
  refine ⟨σd, Hd, _, rs, l.rh, q, fun v H5 d Hd5 s5 r5 rv ⟨hz, nx⟩ => ?_⟩
  have l5 := l.step cl s5 r5
  have rp := r5.plus l5.at' l5.rl
  have sp : Stp H5 (upD Hd5 D (.lst acc)) (upd H5 D (.lst (ws ++ [v]))) (upD (upD Hd5 D (.lst acc)) D (.lst (acc ++ [d]))) := Stp.put upD_same
  rw [upD_upD] at sp
  refine ⟨ws, l5.at', by rw [← l5.rl.length]; exact hz, acc ++ [d], ws ++ [v], Hd5, ⟨cl _ _ _ _ _ _ l5.gs sp l5.no, ?_, upd_same, l5.no, (sp.repL rp l5.rl).append (.one (sp.rep rp rv))⟩, nx⟩
  intro b o e
  have z : b ≠ D := fun z => by rw [z, l5.no] at e; cases e
  exact (r5 b o e).keep (Hd := upD Hd5 D (.lst acc)) sp rp (upd_ne z)
/-- what is walked, while the list is made -/
structure JL (K : PySem.W.Frag) (D : Addr) (GS : Hp → DH → Prop) (J : It) (I : DIt) (GG : List Dv → DH → Prop) : Prop where
  go : ∀ H Hd acc ws, LS K D GS H Hd acc ws → GG acc Hd → ∀ i, i < I.n → J.go i H
  stop : ∀ H Hd acc ws, LS K D GS H Hd acc ws → GG acc Hd → J.stop I.n H
  yld : ∀ H Hd acc ws, LS K D GS H Hd acc ws → GG acc Hd → ∀ i x H', i < I.n → J.yld i H x H' → Stp H (upD Hd D (.lst acc)) H' (upD Hd D (.lst acc)) ∧ RepH K H' (upD Hd D (.lst acc)) ∧ Rep K H' (I.f i) x
theorem low_lp {B : TB} {Bd : DTB} (low : BLow K D B Bd) {GS : Hp → DH → Prop} (cl : Closed D GS) {g : DTG} {tt : DTT} {vs : List Nat} {GG : DIt → List Dv → DH → Prop} {σ : St} {σd : DS} {H2 : Hp} {Hd2 : DH} {acc : List Dv} {ws : List V} {J : It} {I : DIt} {P : List Dv → DH → Prop}
    (l2 : LS K D GS H2 Hd2 acc ws) (rs : RepS K H2 σd σ) (w : JL K D GS J I (GG I)) (q : dLp Bd g tt vs GG σd acc I Hd2 P) : tLp B (lGc K vs g) (lT K tt) vs σ J H2 (SD K D GS P) := by
  obtain ⟨Pv, p0, hG, step, fin⟩ := q
  -- the base of the loop is kept beside
  have cl2 : Closed D fun H Hd => GS H Hd ∧ ∃ a a', Stp H2 (upD Hd2 D (.lst a)) H (upD Hd D (.lst a')) := by
    rintro H Hd H' Hd' a a' ⟨h1, b, b', h2⟩ s n
    exact ⟨cl _ _ _ _ _ _ h1 s n, a, a', (h2.any (b := a) (b' := a)).trans s⟩
  have wk : ∀ {H Hd acc ws}, LS K D (fun H Hd => GS H Hd ∧ ∃ a a', Stp H2 (upD Hd2 D (.lst a)) H (upD Hd D (.lst a'))) H Hd acc ws → LS K D GS H Hd acc ws := fun l => ⟨l.gs.1, l.rh, l.at', l.no, l.rl⟩
  have know : ∀ {H Hd acc ws}, LS K D (fun H Hd => GS H Hd ∧ ∃ a a', Stp H2 (upD Hd2 D (.lst a)) H (upD Hd D (.lst a'))) H Hd acc ws → RepS K H σd σ := fun {H Hd acc' ws'} l => by
    obtain ⟨_, a, a', s⟩ := l.gs
    exact (s.any (b := acc) (b' := acc)).repS (l2.rh.plus l2.at' l2.rl) rs
  refine ⟨fun j m H => m = I.n - j ∧ j ≤ I.n ∧ SD K D (fun H Hd => GS H Hd ∧ ∃ a a', Stp H2 (upD Hd2 D (.lst a)) H (upD Hd D (.lst a'))) (Pv j) H, ⟨_, rfl, Nat.zero_le _, acc, ws, Hd2, ⟨⟨l2.gs, acc, acc, .refl⟩, l2.rh, l2.at', l2.no, l2.rl⟩, p0⟩, ?_⟩
  rintro j m H ⟨rfl, hj, acc', ws', Hd, l, p⟩
  have gg := hG j acc' Hd hj p
  by_cases lt : j < I.n
  · refine .inr ⟨w.go H Hd acc' ws' (wk l) gg j lt, SD K D (fun H Hd => GS H Hd ∧ ∃ a a', Stp H2 (upD Hd2 D (.lst a)) H (upD Hd D (.lst a'))) (Pv (j + 1)), fun H' h => ⟨I.n - (j + 1), by omega, rfl, lt, h⟩, fun x H3 y => ?_⟩
    obtain ⟨s3, r3, rx⟩ := w.yld H Hd acc' ws' (wk l) gg j x H3 lt y
    obtain ⟨r3', ws3, e3, l3'⟩ := r3.less l.no
    have l3 : LS K D (fun H Hd => GS H Hd ∧ ∃ a a', Stp H2 (upD Hd2 D (.lst a)) H (upD Hd D (.lst a'))) H3 Hd acc' ws3 := ⟨cl2 _ _ _ _ _ _ l.gs s3 l.no, r3', e3, l.no, l3'⟩
    refine ⟨I.f j, wipeD σd vs, Hd, _, rx, (know l3).wipe vs, r3', step j acc' Hd lt p, fun σ4 H4 σd4 Hd4 wp s4 r4 rs4 q4 => ⟨?_, σd4, Hd4, _, rs4, r4, q4, fun b H5 Hd5 s5 r5 q5 => ?_⟩⟩
    · rw [wp]
      apply List.ext_getElem?
      intro k
      rw [wipe_at, wipe_at]
      by_cases m : k ∈ vs
      · rw [if_pos m, if_pos m]
        cases σ[k]? <;> rfl
      · rw [if_neg m, if_neg m]
    · have l5 := (l3.step cl2 s4 r4).step cl2 s5 r5
      cases b with
      | false => exact iteF ⟨acc', ws3, Hd5, l5, q5.2 rfl⟩
      | true => exact iteT (low _ σ4 σd4 H5 acc' ws3 Hd5 _ cl2 l5 (s5.repS r4 rs4) (q5.1 rfl))
  · have e : j = I.n := by omega
    subst e
    exact .inl ⟨w.stop H Hd acc' ws' (wk l) gg, acc', ws', Hd, wk l, fin _ _ p⟩
theorem low_nest {it : DTI} {B : TB} {Bd : DTB} {g : DTG} {tt : DTT} {vs : List Nat} (low : BLow K D B Bd) : BLow K D (tNest (lI K it) B (lGc K vs g) (lT K tt) vs) (dNest it Bd g tt vs) := by
  intro GS σ σd H acc ws Hd P cl l rs q
  refine ⟨σd, upD Hd D (.lst acc), _, rs, l.rh.plus l.at' l.rl, q D l.no, fun J H2 I Hd2 s2 r2 w ⟨e2, q2⟩ => ?_⟩
  subst e2
  obtain ⟨r2', ws2, e2, l2⟩ := r2.less l.no
  have l' : LS K D (fun H3 Hd3 => GS H3 Hd3 ∧ ∃ a a', Stp H2 (upD Hd D (.lst a)) H3 (upD Hd3 D (.lst a'))) H2 Hd acc ws2 := ⟨⟨cl _ _ _ _ _ _ l.gs s2 l.no, acc, acc, .refl⟩, r2', e2, l.no, l2⟩
  have cl2 : Closed D fun H3 Hd3 => GS H3 Hd3 ∧ ∃ a a', Stp H2 (upD Hd D (.lst a)) H3 (upD Hd3 D (.lst a')) := by
    rintro H Hd H' Hd' a a' ⟨h1, b, b', h2⟩ s n
    exact ⟨cl _ _ _ _ _ _ h1 s n, a, a', (h2.any (b := a) (b' := a)).trans s⟩
  have z := low_lp (J := J) (P := P) low cl2 l' (s2.repS (l.rh.plus l.at' l.rl) rs) ⟨fun H3 Hd3 acc3 ws3 l3 gg i hi => ?_, fun H3 Hd3 acc3 ws3 l3 gg => ?_, fun H3 Hd3 acc3 ws3 l3 gg i x H4 hi y => ?_⟩ q2
  · obtain ⟨W, w0, turn⟩ := z
    refine ⟨W, w0, fun j k H4 h => ?_⟩
    rcases turn j k H4 h with ⟨h1, acc5, ws5, Hd5, l5, p5⟩ | h2
    · exact .inl ⟨h1, acc5, ws5, Hd5, ⟨l5.gs.1, l5.rh, l5.at', l5.no, l5.rl⟩, p5⟩
    · exact .inr h2
  · obtain ⟨_, a, a', s⟩ := l3.gs
    exact w.go H3 _ s.any (l3.rh.plus l3.at' l3.rl) gg i hi
  · obtain ⟨_, a, a', s⟩ := l3.gs
    exact w.stop H3 _ s.any (l3.rh.plus l3.at' l3.rl) gg
  · obtain ⟨_, a, a', s⟩ := l3.gs
    exact w.yld H3 _ s.any (l3.rh.plus l3.at' l3.rl) gg i x H4 hi y
end
/-- the whole: the list is new, nothing else stands where it is laid -/
theorem lcN_low {K : PySem.W.Frag} {it : DTI} {B : Addr → TB} {Bd : DTB} {g : DTG} {tt : DTT} {vs : List Nat} (low : ∀ D, BLow K D (B D) Bd) {fin : List Dv → DH → DVK → Prop} {σ : St} {H : Hp} {Q : VK} {σd : DS} {Hd : DH} {Qd : DVK} (rs : RepS K H σd σ) (rh : RepH K H Hd)
    (q : it σd Hd fun I H1 => dLp Bd g tt vs (fun I _ H => I.G H) σd [] I H1 fun acc H2 => fin acc H2 Qd)
    (last : ∀ H' Hd' D acc ws, Stp H Hd H' Hd' → H D = none → RepH K H' Hd' → H' D = some (.lst ws) → Hd' D = none → RepL K H' acc ws → fin acc Hd' Qd → Q (.ref D) H') : tLcN (lI K it) B (lGc K vs g) (lT K tt) vs σ H Q := by
  refine ⟨σd, Hd, _, rs, rh, q, fun J H1 I Hd1 s1 r1 w q1 D hD => ?_⟩
  have hD0 : H D = none := by
    cases e : H D with
    | none => rfl
    | some o => exact absurd hD (s1.dom D (by rw [e]; exact fun z => nomatch z))
  have dD : Hd1 D = none := r1.free hD
  have cl : Closed D fun H3 Hd3 => Stp H1 Hd1 H3 Hd3 := by
    intro H3 Hd3 H4 Hd4 a a' s s2 n
    refine ⟨fun b o e nb => ?_, fun b e => s2.dom b (s.dom b e), fun b e => ?_⟩
    · have z : b ≠ D := fun z => by rw [z, hD] at e; cases e
      refine s2.frame b o (s.frame b o e nb) ?_
      rw [upD_ne z]
      cases e3 : Hd3 b with
      | none => rfl
      | some u =>
        rcases s.new b (by rw [e3]; exact fun z => nomatch z) with y | y
        · exact absurd nb y
        · rw [e] at y; cases y
    · have z : b ≠ D := fun z => e (by rw [z, n])
      rcases s2.new b (by rw [upD_ne z]; exact e) with y | y
      · rw [upD_ne z] at y; exact s.new b y
      · refine .inr ?_
        cases e3 : H1 b with
        | none => rfl
        | some u => exact absurd y (s.dom b (by rw [e3]; exact fun z => nomatch z))
  have l : LS K D (fun H3 Hd3 => Stp H1 Hd1 H3 Hd3) (upd H1 D (.lst [])) Hd1 [] [] := ⟨.lay hD, r1.lay hD, upd_same, dD, rfl⟩
  have z := low_lp (J := J) (P := fun acc H2 => fin acc H2 Qd) (low D) cl l ((s1.trans (.lay hD)).repS rh rs) ⟨fun H3 Hd3 acc3 ws3 l3 gg i hi => w.go H3 Hd3 l3.gs l3.rh gg i hi, fun H3 Hd3 acc3 ws3 l3 gg => w.stop H3 Hd3 l3.gs l3.rh gg, fun H3 Hd3 acc3 ws3 l3 gg i x H4 hi y => ?_⟩ q1
  · obtain ⟨W, w0, turn⟩ := z
    refine ⟨W, w0, fun j k H4 h => ?_⟩
    rcases turn j k H4 h with ⟨h1, acc5, ws5, Hd5, l5, p5⟩ | h2
    · exact .inl ⟨h1, last H4 Hd5 D acc5 ws5 (s1.trans l5.gs) hD0 l5.rh l5.at' l5.no l5.rl p5⟩
    · exact .inr h2
  · obtain ⟨s4, r4, rx⟩ := w.yld H3 Hd3 l3.gs l3.rh gg i x H4 hi y
    exact ⟨s4.plus _ _, r4.plus (s4.frame D _ l3.at' l3.no) (s4.repL l3.rh l3.rl), rx⟩
section
variable {X : Cx} {elt t0 i0 t1 i1 t2 i2 : Expr} {f0 f1 f2 : List Expr} {scope : Scope} {own : List (Str × Nat)} {pos spos : Pos} {vs1 vs2 : List Nat} {it it1 it2 : DTI} {g g1 g2 : DTG} {tt tt1 tt2 : DTT} {te : DTE}
theorem lcN_frz {K : PySem.W.Frag} {it : DTI} {B : Addr → TB} {Bd : DTB} {g : DTG} {tt : DTT} {vs : List Nat} (low : ∀ D, BLow K D (B D) Bd) {σ : St} {H : Hp} {Q : VK} (h : lE K (dLcN it Bd g tt vs) σ H Q) : tFrz (tLcN (lI K it) B (lGc K vs g) (lT K tt) vs) σ H Q := by
  obtain ⟨σd, Hd, Qd, rs, rh, q, k⟩ := h
  exact lcN_low low (fin := fun acc H2 Q => Q (.lsv acc) H2) rs rh q fun H' Hd' D acc ws st hD r' eD nD rl z => ⟨D, ws, eD, fun od => lock_end k st hD r' eD nD rl z⟩
theorem de_lcN {rest : List Comprehension} {B : Addr → TB} {Bd : DTB} (low : ∀ D, BLow X.K D (B D) Bd) (hc : X.calm = true) (hN : X.N.Nodup) (hi : DI X t0 i0 it) (ok : BlkOk X.N X.env.scope scope own)
    (hg : ∀ (s : Shared) (H : Hp) (C : Addr) (cl : List (Str × Addr)) (fp : List Addr), PG (X.blk s H scope (compEnvC scope cl C X.env) fp) t0 (lGc X.K (own.map (·.2)) g)) (ht : ∀ (s : Shared) (H : Hp) (C : Addr) (cl : List (Str × Addr)) (fp : List Addr), PTs (X.blk s H scope (compEnvC scope cl C X.env) fp) f0 (lT X.K tt))
    (body : RestOk X elt t0 i0 f0 rest scope pos B (own.map (·.2))) (hs : ∀ x, foldedSetIterable i0 X.env x = pure x := by intro _; rfl) : DE X (.ListComp elt (⟨t0, i0, f0, 0⟩ :: rest) scope pos) (dLcN it Bd g tt (own.map (·.2))) :=
  pe_mono (pe_fz (pe_lcN hc hN hi ok hg ht body hs)) fun _ _ _ h => lcN_frz low h
theorem ds_setLcN {i : Nat} {y : Str} {py : Pos} {rest : List Comprehension} {B : Addr → TB} {Bd : DTB} (low : ∀ D, BLow X.K D (B D) Bd) (hc : X.calm = true) (hN : X.N.Nodup) (hy : X.N[i]? = some y) (hyl : X.env.scope.names.lookup y = some .local)
    (hsw : swapsWith (.ListComp elt (⟨t0, i0, f0, 0⟩ :: rest) scope pos) (some (.Name y py)) spos.line X.env = pure true) (hi : DI X t0 i0 it) (ok : BlkOk X.N X.env.scope scope own)
    (hg : ∀ (s : Shared) (H : Hp) (C : Addr) (cl : List (Str × Addr)) (fp : List Addr), PG (X.blk s H scope (compEnvC scope cl C X.env) fp) t0 (lGc X.K (own.map (·.2)) g)) (ht : ∀ (s : Shared) (H : Hp) (C : Addr) (cl : List (Str × Addr)) (fp : List Addr), PTs (X.blk s H scope (compEnvC scope cl C X.env) fp) f0 (lT X.K tt))
    (body : RestOk X elt t0 i0 f0 rest scope pos B (own.map (·.2))) (hs : ∀ x, foldedSetIterable i0 X.env x = pure x := by intro _; rfl) : DSt X (.Assign [.Name y py] (.ListComp elt (⟨t0, i0, f0, 0⟩ :: rest) scope pos) spos) (dSet i (dLcN it Bd g tt (own.map (·.2)))) :=
  ds_of (ps_fzSet (ps_setLcN hc hN hy hyl hsw hi ok hg ht body hs)) fun D σ H σd Hd Dd rs rh q k1 _ _ _ => lcN_frz low ⟨σd, Hd, fun d H1 => Dd.nx (σd.set i (some d)) H1, rs, rh, q, fun v H1 d Hd1 s1 r1 rv q1 => k1 _ _ _ _ s1 r1 ((s1.repS rh rs).set i rv) q1⟩
abbrev dLc2 (it : DTI) (g : DTG) (tt : DTT) (vs : List Nat) (it1 : DTI) (g1 : DTG) (tt1 : DTT) (vs1 : List Nat) (te : DTE) : DTE := dLcN it (dNest it1 (dEm te) g1 tt1 vs1) g tt vs
abbrev dLc3 (it : DTI) (g : DTG) (tt : DTT) (vs : List Nat) (it1 : DTI) (g1 : DTG) (tt1 : DTT) (vs1 : List Nat) (it2 : DTI) (g2 : DTG) (tt2 : DTT) (vs2 : List Nat) (te : DTE) : DTE := dLcN it (dNest it1 (dNest it2 (dEm te) g2 tt2 vs2) g1 tt1 vs1) g tt vs
theorem low2 {K : PySem.W.Frag} (D : Addr) : BLow K D (tNest (lI K it1) (tEm (lE K te) D) (lGc K vs1 g1) (lT K tt1) vs1) (dNest it1 (dEm te) g1 tt1 vs1) := low_nest low_em
theorem low3 {K : PySem.W.Frag} (D : Addr) : BLow K D (tNest (lI K it1) (tNest (lI K it2) (tEm (lE K te) D) (lGc K vs2 g2) (lT K tt2) vs2) (lGc K vs1 g1) (lT K tt1) vs1) (dNest it1 (dNest it2 (dEm te) g2 tt2 vs2) g1 tt1 vs1) := low_nest (low_nest low_em)
end
end DL

set_option maxHeartbeats 8000000
namespace DL
open PySem PySem.Spec L2
open PyProof.Rows hiding St
/-! ## texts -/
section
variable {X : Cx} {o e a b c : Expr} {to te ta tb tc : DTE} {apos pos : Pos}
/-- a text of one sign -/
abbrev sgn (c : Nat) : Str := ⟨#[c]⟩
def dLow (to : DTE) : DTE := fun σ H Q => to σ H fun d H1 => match d with
  | .str x => x.length ≤ 5000000 ∧ Q (.str (Txt.lower x)) H1
  | _ => False
def dUpp (to : DTE) : DTE := fun σ H Q => to σ H fun d H1 => match d with
  | .str x => x.length ≤ 5000000 ∧ Q (.str (Txt.upper x)) H1
  | _ => False
theorem de_lower (ho : DE X o to) (hbase : attributeBase o "lower" X.env (eval o X.env) = eval o X.env := by rfl) (hline : (apos.endLine == pos.line) = true := by rfl) : DE X (.Call (.Attribute o "lower" apos) [] [] pos) (dLow to) :=
  de_of (pe_lower ho hbase hline) fun σ H Q σd Hd Qd rs rh q k => ⟨σd, Hd, _, rs, rh, q, fun v H1 d Hd1 s1 r1 rv q1 => by
    cases d with
    | str x =>
      cases (show v = _ from rv)
      exact ⟨⟨x, rfl⟩, x, rfl, rfl, by omega, k _ H1 (.str _) Hd1 s1 r1 rfl q1.2⟩
    | _ => exact q1.elim⟩
theorem de_upper (ho : DE X o to) (hbase : attributeBase o "upper" X.env (eval o X.env) = eval o X.env := by rfl) (hline : (apos.endLine == pos.line) = true := by rfl) : DE X (.Call (.Attribute o "upper" apos) [] [] pos) (dUpp to) :=
  de_of (pe_upper ho hbase hline) fun σ H Q σd Hd Qd rs rh q k => ⟨σd, Hd, _, rs, rh, q, fun v H1 d Hd1 s1 r1 rv q1 => by
    cases d with
    | str x =>
      cases (show v = _ from rv)
      exact ⟨⟨x, rfl⟩, x, rfl, rfl, by omega, k _ H1 (.str _) Hd1 s1 r1 rfl q1.2⟩
    | _ => exact q1.elim⟩
theorem repL_strs {K : PySem.W.Frag} {H : Hp} : ∀ {ys : List Str} {vs : List V}, RepL K H (ys.map .str) vs → vs = ys.map .str
  | [], _, h => h
  | y :: ys, _, h => by
    obtain ⟨v, r, rfl, h1, h2⟩ := h
    cases (show v = _ from h1)
    rw [repL_strs h2]; rfl
def dJoin (to te : DTE) : DTE := fun σ H Q => to σ H fun d H1 => (∃ x, d = .str x) ∧ te σ H1 fun y H2 => ∃ (x : Str) (ys : List Str), d = .str x ∧ (y = .lsv (ys.map .str) ∨ y = .tup (ys.map .str)) ∧ (ys.map (·.length)).sum + ys.length * x.length ≤ 16777216 ∧ Q (.str (Txt.join x ys)) H2
theorem de_join (ho : DE X o to) (he : DE X e te) (hs : starEach [e] X.env = [(false, eval e X.env)] := by rfl) (hbase : attributeBase o "join" X.env (eval o X.env) = eval o X.env := by rfl) (hline : (apos.endLine == pos.line) = true := by rfl) :
    DE X (.Call (.Attribute o "join" apos) [e] [] pos) (dJoin to te) :=
  de_of (pe_join ho he hs hbase hline) fun σ H Q σd Hd Qd rs rh q k => ⟨σd, Hd, _, rs, rh, q, fun v H1 d Hd1 s1 r1 rv ⟨⟨x, hx⟩, q1⟩ => by
    subst hx
    cases (show v = _ from rv)
    refine ⟨⟨x, rfl⟩, σd, Hd1, _, s1.repS rh rs, r1, q1, fun u H2 y Hd2 s2 r2 ru ⟨x', ys, e1, e2, hz, q2⟩ => ?_⟩
    cases e1
    have fin := k _ H2 (.str (Txt.join x ys)) Hd2 (s1.trans s2) r2 rfl q2
    rcases e2 with rfl | rfl
    · obtain ⟨p, vs, rfl, h, l⟩ := ru
      have := repL_strs l
      subst this
      exact ⟨x, p, ys, rfl, rfl, .inl h.sq, hz, fin⟩
    · obtain ⟨p, vs, rfl, h, l⟩ := ru
      have := repL_strs l
      subst this
      exact ⟨x, p, ys, rfl, rfl, .inr h, hz, fin⟩⟩
/-- in, not in, a text too (one sign in it) -/
def fInS (g : Bool → Bool) : D2 := fun x y H Q => match y with
  | .str z => match x with
    | .str u => ∃ c, u = sgn c ∧ Q (.bl (g (decide (c ∈ z.cps.toList)))) H
    | _ => False
  | _ => fIn g x y H Q
abbrev fInSA : D2 := fInS fun k => k
abbrev fNotInSA : D2 := fInS fun k => !k
theorem c_inS (hu : X.A.units + 64 < cLine) : CmpOk X .In fInSA := by
  refine ⟨_, OpR.or (op_inAny hu) op_in_sign, ?_⟩
  intro H Hd x y dx dy Q Qd rh rx ry q k
  unfold fInSA fInS at q
  split at q
  · split at q
    · obtain ⟨c, rfl, q⟩ := q
      exact .inr ⟨c, _, rx, ry, k _ H (.bl _) Hd .refl rh rfl q⟩
    · exact q.elim
  · exact .inl ⟨dx, dy, Hd, Qd, rh, rx, ry, q, k⟩
theorem c_notInS (hu : X.A.units + 64 < cLine) : CmpOk X .NotIn fNotInSA := by
  refine ⟨_, OpR.or (op_notInAny hu) op_notIn_sign, ?_⟩
  intro H Hd x y dx dy Q Qd rh rx ry q k
  unfold fNotInSA fInS at q
  split at q
  · split at q
    · obtain ⟨c, rfl, q⟩ := q
      exact .inr ⟨c, _, rx, ry, k _ H (.bl _) Hd .refl rh rfl q⟩
    · exact q.elim
  · exact .inl ⟨dx, dy, Hd, Qd, rh, rx, ry, q, k⟩
/-- a text walked -/
def dWalkS (te : DTE) : DTI := fun σ H R => te σ H fun d H1 => match d with
  | .str x => R ⟨x.length, fun i => .str (sgn (x.cps.toList.getD i 0)), fun _ => True⟩ H1
  | _ => False
theorem jw_str {K : PySem.W.Frag} {H : Hp} {Hd : DH} {x : Str} : JW K H Hd (Its x) ⟨x.length, fun i => .str (sgn (x.cps.toList.getD i 0)), fun _ => True⟩ where
  go := fun H' Hd' s r _ i hi => hi
  stop := fun H' Hd' s r _ => Nat.le_refl _
  yld := fun H' Hd' s r _ i y H2 hi ⟨e, c, hc, ey⟩ => by
    subst e ey
    refine ⟨.refl, r, ?_⟩
    show V.str ⟨#[c]⟩ = .str (sgn (x.cps.toList.getD i 0))
    rw [List.getD_eq_getElem?_getD, Array.getElem?_toList, hc]; rfl
theorem di_str {tg : Expr} (he : DE X e te) : DI X tg e (dWalkS te) := di_of (pi_str he) fun σ H R σd Hd Rd rs rh q k => ⟨σd, Hd, _, rs, rh, q, fun v H1 d Hd1 s1 r1 rv q1 => by
  cases d with
  | str x =>
    cases (show v = _ from rv)
    exact ⟨x, rfl, k _ H1 _ Hd1 s1 r1 jw_str q1⟩
  | _ => exact q1.elim⟩
/-! slices, of a text too -/
theorem SlR.or3 {r r' : V → Option Int → Option Int → Hp → VK → Prop} (h : SlR X r) (h' : SlR X r') : SlR X (fun x lo hi H Q => r x lo hi H Q ∨ r' x lo hi H Q) := SlR.or h h'
def fSlG (d : Dv) (lo hi : Option Int) (H : DH) (Q : DVK) : Prop := match d with
  | .str x => x.length ≤ sizeLine ∧ Q (.str (cutS x lo hi)) H
  | d => fSlF d lo hi H Q
def dSlG (t : DTE) (tl th : DTO) : DTE := fun σ H Q => t σ H fun d H1 => tl σ H1 fun l H2 => th σ H2 fun u H3 => fSlG d l u H3 Q
theorem de_sliceG {lo hi : Option Expr} {tl th : DTO} {p2 : Pos} (he : DE X e ta) (hl : DOp X lo tl) (hu : DOp X hi th) : DE X (.Subscript e (.Slice lo hi none p2) pos) (dSlG ta tl th) :=
  de_of (pe_slice (SlR.or sl_str (SlR.or sl_tupA (SlR.fz sl_list))) he hl hu) fun σ H Q σd Hd Qd rs rh q k => ⟨σd, Hd, _, rs, rh, q, fun v H1 d Hd1 s1 r1 rv q1 =>
    ⟨σd, Hd1, _, s1.repS rh rs, r1, q1, fun l H2 Hd2 s2 r2 q2 => ⟨σd, Hd2, _, (s1.trans s2).repS rh rs, r2, q2, fun u H3 Hd3 s3 r3 q3 => by
      have st := (s1.trans s2).trans s3
      have rv3 := (s2.trans s3).rep r1 rv
      unfold fSlG at q3
      split at q3
      · exact .inl ⟨_, rv3, q3.1, k _ H3 (.str _) Hd3 st r3 rfl q3.2⟩
      unfold fSlF at q3
      split at q3
      · obtain ⟨p, vs, rfl, h, w⟩ := rv3
        refine .inr (.inl ⟨p, vs, rfl, h, fun z => ?_, fun _ r hr => ?_⟩)
        · refine k _ _ (.tup _) Hd3 st r3 ⟨p, vs, rfl, h, ?_⟩ q3
          unfold cutD
          rw [w.length, z.1, z.2, List.drop_zero, Nat.sub_zero, ← w.length, List.take_length]
          exact w
        · exact k _ _ (.tup _) Hd3 (st.trans (.lay hr)) (r3.lay hr) ⟨r, _, rfl, .of upd_same, (Stp.lay (Hd := Hd3) hr).repL r3 (w.cut l u)⟩ q3
      · obtain ⟨p, vs, rfl, h, w⟩ := rv3
        exact .inr (.inr ⟨p, vs, rfl, h.sq, fun r hr => fz_end (k.at st) r3 hr (w.cut l u) q3⟩)
      · obtain ⟨ds, h, q3⟩ := q3
        obtain ⟨vs, e, w⟩ := r3 _ _ h
        exact .inr (.inr ⟨_, vs, rv3, .of e, fun r hr => fz_end (k.at st) r3 hr (w.cut l u) q3⟩)
      · exact q3.elim⟩⟩⟩
/-! ## in a range -/
theorem cr_range1 : CallR X (.type "range") (fun vs H Q => ∃ j, vs = [V.int j] ∧ ∀ p, H p = none → Q (.ref p) (upd H p (.rng 0 j))) := by
  intro pins s σ H vs us Q I r ⟨j, ev, q⟩
  subst ev
  obtain ⟨u1, rfl, t, rfl⟩ := vals1 r
  refine call_range_1 ⟨.ref s.heap.objs.size, upd H s.heap.objs.size (.rng 0 j), I.laid (t' := s.toks + 1 + 1) (fun b o e => Heap.get?_push_of_some _ e) (Nat.le_refl _) ?_, rfl, q _ (I.hok.fresh (Nat.le_refl _))⟩
  exact ⟨s.toks, t, s.toks + 1, Heap.get?_push_size _ rfl⟩
theorem op_notIn_rng : OpR X (compareOp .NotIn) (fun x y H Q => ∃ i a lo hi, x = V.int i ∧ y = V.ref a ∧ H a = some (.rng lo hi) ∧ Q (.bl (!decide (lo ≤ i ∧ i < hi))) H) := by
  intro pins s σ H x y v u Q I rx ry ⟨i, a, lo, hi, ex, ey, ha, q⟩
  subst ex ey
  obtain ⟨k, rfl⟩ := rx
  cases (show u = Value.ref a from ry)
  obtain ⟨t1, t2, t3, ho⟩ := I.hok a _ ha
  show wpAny _ _ (do return Value.bool (!(← contains (Value.ref a) (Value.int i k)))) _ _ s
  refine wpAny_bind (wpAny_contains_slot (T := "range") ⟨_, ho, rfl⟩ F.slot_range_contains (call_meets F.slot_range_contains ⟨_, ho, rfl⟩ F.entry_range_contains (F.args_range_contains_2 _ _) (q_contains a lo hi i t1 t2 t3 k) ⟨ho, ?_⟩))
  refine wpAny_truthy_bool (wpAny_pure ⟨.bl _, H, I, rfl, ?_⟩)
  rw [place1]
  exact q
def dInR (g : Bool → Bool) (ta : DTE) (lo : DTE) (hi : DTE) : DTE := fun σ H Q => ta σ H fun x H1 => lo σ H1 fun a H2 => hi σ H2 fun b H3 => match x, a, b with
  | .int i, .int l, .int u => Q (.bl (g (decide (l ≤ i ∧ i < u)))) H3
  | _, _, _ => False
theorem inR_of {K : PySem.W.Frag} {g : Bool → Bool} {σ : St} {H : Hp} {Q : VK} (h : lE K (dInR g ta tb tc) σ H Q) : lE K ta σ H fun x H1 => lE K tb σ H1 fun a H2 => lE K tc σ H2 fun b H3 => ∃ i l u, x = .int i ∧ a = .int l ∧ b = .int u ∧ ∀ p, H3 p = none → Q (.bl (g (decide (l ≤ i ∧ i < u)))) (upd H3 p (.rng l u)) := by
  obtain ⟨σd, Hd, Qd, rs, rh, q, k⟩ := h
  refine ⟨σd, Hd, _, rs, rh, q, fun v H1 d Hd1 s1 r1 rv q1 => ⟨σd, Hd1, _, s1.repS rh rs, r1, q1, fun v2 H2 d2 Hd2 s2 r2 rv2 q2 => ⟨σd, Hd2, _, (s1.trans s2).repS rh rs, r2, q2, fun v3 H3 d3 Hd3 s3 r3 rv3 q3 => ?_⟩⟩⟩
  have a1 := (s2.trans s3).rep r1 rv
  have a2 := s3.rep r2 rv2
  split at q3
  · exact ⟨_, _, _, a1, a2, rv3, fun p hp => k _ _ (.bl _) Hd3 (((s1.trans s2).trans s3).trans (.lay hp)) (r3.lay hp) rfl q3⟩
  · exact q3.elim
def tRng2 (X : Cx) (tb tc : DTE) : TE := fun σ H Q => lE X.K tb σ H fun a H2 => lE X.K tc σ H2 fun b H3 => ∃ l u, a = .int l ∧ b = .int u ∧ ∀ p, H3 p = none → Q (.ref p) (upd H3 p (.rng l u))
def tRng1 (X : Cx) (tc : DTE) : TE := fun σ H Q => lE X.K tc σ H fun b H3 => ∃ u, b = .int u ∧ ∀ p, H3 p = none → Q (.ref p) (upd H3 p (.rng 0 u))
theorem pe_rng2 {p q : Pos} {tb tc : DTE} (hg : Gl X "range") (hm : X.mg "range" = none) (hb : DE X b tb) (hc : DE X c tc) (hs : starEach [b, c] X.env = (false, eval b X.env) :: starEach [c] X.env := by rfl) (hs2 : starEach [c] X.env = (false, eval c X.env) :: starEach [] X.env := by rfl)
    (hpl : (backTo q (starEach [c] X.env)).any (·.1) = false := by rfl) : PE X (.Call (.Name "range" p) [b, c] [] q) (tRng2 X tb tc) :=
  pe_mono (pe_callTy cr_range2 hg hm (by decide +kernel) (pa_cons hb (pa_cons hc pa_nil hs2) hs) (by decide) (by decide) hs hpl) fun σ H Q ⟨σd, Hd, Qd, rs, rh, q, k⟩ => ⟨σd, Hd, Qd, rs, rh, q, fun v H1 d Hd1 s1 r1 rv q1 => by
    obtain ⟨σ2, Hd2, Qd2, rs2, rh2, q2, k2⟩ := k v H1 d Hd1 s1 r1 rv q1
    exact ⟨σ2, Hd2, Qd2, rs2, rh2, q2, fun v3 H3 d3 Hd3 s3 r3 rv3 q3 => by
      obtain ⟨l, u, rfl, rfl, z⟩ := k2 v3 H3 d3 Hd3 s3 r3 rv3 q3
      exact ⟨l, u, rfl, z⟩⟩⟩
theorem pe_rng1 {p q : Pos} {tc : DTE} (hg : Gl X "range") (hm : X.mg "range" = none) (hc : DE X c tc) (hs : starEach [c] X.env = (false, eval c X.env) :: starEach [] X.env := by rfl) (hpl : (backTo q (starEach [] X.env)).any (·.1) = false := by rfl) :
    PE X (.Call (.Name "range" p) [c] [] q) (tRng1 X tc) :=
  pe_mono (pe_callTy cr_range1 hg hm (by decide +kernel) (pa_cons hc pa_nil hs) (by decide) (by decide) hs hpl) fun σ H Q ⟨σd, Hd, Qd, rs, rh, q, k⟩ => ⟨σd, Hd, Qd, rs, rh, q, fun v H1 d Hd1 s1 r1 rv q1 => by
    obtain ⟨u, rfl, z⟩ := k v H1 d Hd1 s1 r1 rv q1
    exact ⟨u, rfl, z⟩⟩
theorem de_inR2 {r : Expr} (ha : DE X a ta) (hr : PE X r (tRng2 X tb tc)) (hmk : behindInMarks .In r = false) : DE X (.Compare a [.In] [r] pos) (dInR (fun k => k) ta tb tc) :=
  pe_mono (pe_cmpR op_in_rng ha hr hmk) fun σ H Q h => by
    obtain ⟨σd, Hd, Qd, rs, rh, q, k⟩ := inR_of h
    refine ⟨σd, Hd, Qd, rs, rh, q, fun v H1 d Hd1 s1 r1 rv q1 => ?_⟩
    obtain ⟨σ2, Hd2, Qd2, rs2, rh2, q2, k2⟩ := k v H1 d Hd1 s1 r1 rv q1
    refine ⟨σ2, Hd2, Qd2, rs2, rh2, q2, fun v2 H2 d2 Hd2 s2 r2 rv2 q2 => ?_⟩
    obtain ⟨σ3, Hd3, Qd3, rs3, rh3, q3, k3⟩ := k2 v2 H2 d2 Hd2 s2 r2 rv2 q2
    refine ⟨σ3, Hd3, Qd3, rs3, rh3, q3, fun v3 H3 d3 Hd3 s3 r3 rv3 q3 => ?_⟩
    obtain ⟨i, l, u, rfl, rfl, rfl, z⟩ := k3 v3 H3 d3 Hd3 s3 r3 rv3 q3
    exact ⟨l, u, rfl, rfl, fun p hp => ⟨i, p, l, u, rfl, rfl, upd_same, z p hp⟩⟩
theorem dt_inR2 {r : Expr} (ha : DE X a ta) (hr : PE X r (tRng2 X tb tc)) (hmk : behindInMarks .In r = false) : DT X (.Compare a [.In] [r] pos) (dTest (dInR (fun k => k) ta tb tc)) :=
  pt_mono (pt_cmpR op_in_rng ha hr hmk) fun σ H Q h => test_of (fun σ H Q h => by
    obtain ⟨σd, Hd, Qd, rs, rh, q, k⟩ := inR_of h
    refine ⟨σd, Hd, Qd, rs, rh, q, fun v H1 d Hd1 s1 r1 rv q1 => ?_⟩
    obtain ⟨σ2, Hd2, Qd2, rs2, rh2, q2, k2⟩ := k v H1 d Hd1 s1 r1 rv q1
    refine ⟨σ2, Hd2, Qd2, rs2, rh2, q2, fun v2 H2 d2 Hd2 s2 r2 rv2 q2 => ?_⟩
    obtain ⟨σ3, Hd3, Qd3, rs3, rh3, q3, k3⟩ := k2 v2 H2 d2 Hd2 s2 r2 rv2 q2
    refine ⟨σ3, Hd3, Qd3, rs3, rh3, q3, fun v3 H3 d3 Hd3 s3 r3 rv3 q3 => ?_⟩
    obtain ⟨i, l, u, rfl, rfl, rfl, z⟩ := k3 v3 H3 d3 Hd3 s3 r3 rv3 q3
    exact ⟨l, u, rfl, rfl, fun p hp => ⟨i, p, l, u, rfl, rfl, upd_same, z p hp⟩⟩) σ H Q h
theorem de_notInR2 {r : Expr} (ha : DE X a ta) (hr : PE X r (tRng2 X tb tc)) (hmk : behindInMarks .NotIn r = false) : DE X (.Compare a [.NotIn] [r] pos) (dInR (fun k => !k) ta tb tc) :=
  pe_mono (pe_cmpR op_notIn_rng ha hr hmk) fun σ H Q h => by
    obtain ⟨σd, Hd, Qd, rs, rh, q, k⟩ := inR_of h
    refine ⟨σd, Hd, Qd, rs, rh, q, fun v H1 d Hd1 s1 r1 rv q1 => ?_⟩
    obtain ⟨σ2, Hd2, Qd2, rs2, rh2, q2, k2⟩ := k v H1 d Hd1 s1 r1 rv q1
    refine ⟨σ2, Hd2, Qd2, rs2, rh2, q2, fun v2 H2 d2 Hd2 s2 r2 rv2 q2 => ?_⟩
    obtain ⟨σ3, Hd3, Qd3, rs3, rh3, q3, k3⟩ := k2 v2 H2 d2 Hd2 s2 r2 rv2 q2
    refine ⟨σ3, Hd3, Qd3, rs3, rh3, q3, fun v3 H3 d3 Hd3 s3 r3 rv3 q3 => ?_⟩
    obtain ⟨i, l, u, rfl, rfl, rfl, z⟩ := k3 v3 H3 d3 Hd3 s3 r3 rv3 q3
    exact ⟨l, u, rfl, rfl, fun p hp => ⟨i, p, l, u, rfl, rfl, upd_same, z p hp⟩⟩
theorem dt_notInR2 {r : Expr} (ha : DE X a ta) (hr : PE X r (tRng2 X tb tc)) (hmk : behindInMarks .NotIn r = false) : DT X (.Compare a [.NotIn] [r] pos) (dTest (dInR (fun k => !k) ta tb tc)) :=
  pt_mono (pt_cmpR op_notIn_rng ha hr hmk) fun σ H Q h => test_of (fun σ H Q h => by
    obtain ⟨σd, Hd, Qd, rs, rh, q, k⟩ := inR_of h
    refine ⟨σd, Hd, Qd, rs, rh, q, fun v H1 d Hd1 s1 r1 rv q1 => ?_⟩
    obtain ⟨σ2, Hd2, Qd2, rs2, rh2, q2, k2⟩ := k v H1 d Hd1 s1 r1 rv q1
    refine ⟨σ2, Hd2, Qd2, rs2, rh2, q2, fun v2 H2 d2 Hd2 s2 r2 rv2 q2 => ?_⟩
    obtain ⟨σ3, Hd3, Qd3, rs3, rh3, q3, k3⟩ := k2 v2 H2 d2 Hd2 s2 r2 rv2 q2
    refine ⟨σ3, Hd3, Qd3, rs3, rh3, q3, fun v3 H3 d3 Hd3 s3 r3 rv3 q3 => ?_⟩
    obtain ⟨i, l, u, rfl, rfl, rfl, z⟩ := k3 v3 H3 d3 Hd3 s3 r3 rv3 q3
    exact ⟨l, u, rfl, rfl, fun p hp => ⟨i, p, l, u, rfl, rfl, upd_same, z p hp⟩⟩) σ H Q h
theorem inR1_of {K : PySem.W.Frag} {g : Bool → Bool} {σ : St} {H : Hp} {Q : VK} (h : lE K (dInR g ta (dC (.int 0)) tc) σ H Q) : lE K ta σ H fun x H1 => lE K tc σ H1 fun b H3 => ∃ i u, x = .int i ∧ b = .int u ∧ ∀ p, H3 p = none → Q (.bl (g (decide (0 ≤ i ∧ i < u)))) (upd H3 p (.rng 0 u)) := by
  obtain ⟨σd, Hd, Qd, rs, rh, q, k⟩ := h
  refine ⟨σd, Hd, _, rs, rh, q, fun v H1 d Hd1 s1 r1 rv q1 => ⟨σd, Hd1, _, s1.repS rh rs, r1, q1, fun v3 H3 d3 Hd3 s3 r3 rv3 q3 => ?_⟩⟩
  have a1 := s3.rep r1 rv
  cases d with
  | int i =>
    cases d3 with
    | int u => exact ⟨_, _, a1, rv3, fun p hp => k _ _ (.bl _) Hd3 ((s1.trans s3).trans (.lay hp)) (r3.lay hp) rfl q3⟩
    | _ => exact q3.elim
  | _ => exact q3.elim
theorem de_inR1 {r : Expr} (ha : DE X a ta) (hr : PE X r (tRng1 X tc)) (hmk : behindInMarks .In r = false) : DE X (.Compare a [.In] [r] pos) (dInR (fun k => k) ta (dC (.int 0)) tc) :=
  pe_mono (pe_cmpR op_in_rng ha hr hmk) fun σ H Q h => by
    obtain ⟨σd, Hd, Qd, rs, rh, q, k⟩ := inR1_of h
    refine ⟨σd, Hd, Qd, rs, rh, q, fun v H1 d Hd1 s1 r1 rv q1 => ?_⟩
    obtain ⟨σ3, Hd3, Qd3, rs3, rh3, q3, k3⟩ := k v H1 d Hd1 s1 r1 rv q1
    refine ⟨σ3, Hd3, Qd3, rs3, rh3, q3, fun v3 H3 d3 Hd3 s3 r3 rv3 q3 => ?_⟩
    obtain ⟨i, u, rfl, rfl, z⟩ := k3 v3 H3 d3 Hd3 s3 r3 rv3 q3
    exact ⟨u, rfl, fun p hp => ⟨i, p, 0, u, rfl, rfl, upd_same, z p hp⟩⟩
theorem dt_inR1 {r : Expr} (ha : DE X a ta) (hr : PE X r (tRng1 X tc)) (hmk : behindInMarks .In r = false) : DT X (.Compare a [.In] [r] pos) (dTest (dInR (fun k => k) ta (dC (.int 0)) tc)) :=
  pt_mono (pt_cmpR op_in_rng ha hr hmk) fun σ H Q h => test_of (fun σ H Q h => by
    obtain ⟨σd, Hd, Qd, rs, rh, q, k⟩ := inR1_of h
    refine ⟨σd, Hd, Qd, rs, rh, q, fun v H1 d Hd1 s1 r1 rv q1 => ?_⟩
    obtain ⟨σ3, Hd3, Qd3, rs3, rh3, q3, k3⟩ := k v H1 d Hd1 s1 r1 rv q1
    refine ⟨σ3, Hd3, Qd3, rs3, rh3, q3, fun v3 H3 d3 Hd3 s3 r3 rv3 q3 => ?_⟩
    obtain ⟨i, u, rfl, rfl, z⟩ := k3 v3 H3 d3 Hd3 s3 r3 rv3 q3
    exact ⟨u, rfl, fun p hp => ⟨i, p, 0, u, rfl, rfl, upd_same, z p hp⟩⟩) σ H Q h
theorem de_notInR1 {r : Expr} (ha : DE X a ta) (hr : PE X r (tRng1 X tc)) (hmk : behindInMarks .NotIn r = false) : DE X (.Compare a [.NotIn] [r] pos) (dInR (fun k => !k) ta (dC (.int 0)) tc) :=
  pe_mono (pe_cmpR op_notIn_rng ha hr hmk) fun σ H Q h => by
    obtain ⟨σd, Hd, Qd, rs, rh, q, k⟩ := inR1_of h
    refine ⟨σd, Hd, Qd, rs, rh, q, fun v H1 d Hd1 s1 r1 rv q1 => ?_⟩
    obtain ⟨σ3, Hd3, Qd3, rs3, rh3, q3, k3⟩ := k v H1 d Hd1 s1 r1 rv q1
    refine ⟨σ3, Hd3, Qd3, rs3, rh3, q3, fun v3 H3 d3 Hd3 s3 r3 rv3 q3 => ?_⟩
    obtain ⟨i, u, rfl, rfl, z⟩ := k3 v3 H3 d3 Hd3 s3 r3 rv3 q3
    exact ⟨u, rfl, fun p hp => ⟨i, p, 0, u, rfl, rfl, upd_same, z p hp⟩⟩
theorem dt_notInR1 {r : Expr} (ha : DE X a ta) (hr : PE X r (tRng1 X tc)) (hmk : behindInMarks .NotIn r = false) : DT X (.Compare a [.NotIn] [r] pos) (dTest (dInR (fun k => !k) ta (dC (.int 0)) tc)) :=
  pt_mono (pt_cmpR op_notIn_rng ha hr hmk) fun σ H Q h => test_of (fun σ H Q h => by
    obtain ⟨σd, Hd, Qd, rs, rh, q, k⟩ := inR1_of h
    refine ⟨σd, Hd, Qd, rs, rh, q, fun v H1 d Hd1 s1 r1 rv q1 => ?_⟩
    obtain ⟨σ3, Hd3, Qd3, rs3, rh3, q3, k3⟩ := k v H1 d Hd1 s1 r1 rv q1
    refine ⟨σ3, Hd3, Qd3, rs3, rh3, q3, fun v3 H3 d3 Hd3 s3 r3 rv3 q3 => ?_⟩
    obtain ⟨i, u, rfl, rfl, z⟩ := k3 v3 H3 d3 Hd3 s3 r3 rv3 q3
    exact ⟨u, rfl, fun p hp => ⟨i, p, 0, u, rfl, rfl, upd_same, z p hp⟩⟩) σ H Q h
end
end DL

set_option maxHeartbeats 8000000
namespace DL
open PySem PySem.Spec L2
open PyProof.Rows hiding St
/-! ## set(xs) of a list of whole numbers and texts: how many different ones -/
theorem hasK_iff (ks : List Key) (k : Key) : hasK ks k = true ↔ k ∈ ks := by
  unfold hasK
  rw [List.any_eq_true]
  constructor
  · rintro ⟨x, hx, e⟩; rw [← of_decide_eq_true e]; exact hx
  · intro h; exact ⟨k, h, decide_eq_true rfl⟩
theorem hasK_snoc (ks : List Key) (x k : Key) : hasK (ks ++ [x]) k = (hasK ks k || decide (k = x)) := by
  unfold hasK
  rw [List.any_append]
  have : decide (x = k) = decide (k = x) := by
    by_cases h : x = k
    · rw [decide_eq_true h, decide_eq_true h.symm]
    · rw [decide_eq_false h, decide_eq_false (fun z => h z.symm)]
  simp [this]
def ddK (ks : List Key) : List Key := ks.foldl (fun acc k => if hasK acc k = true then acc else acc ++ [k]) []
def distN (ks : List Key) : Nat := (ddK ks).length
theorem ddK_snoc (ks : List Key) (k : Key) : ddK (ks ++ [k]) = if hasK (ddK ks) k = true then ddK ks else ddK ks ++ [k] := by
  unfold ddK; rw [List.foldl_append]; rfl
theorem mem_foldK (ks : List Key) : ∀ (acc : List Key) (x : Key), x ∈ ks.foldl (fun acc k => if hasK acc k = true then acc else acc ++ [k]) acc ↔ x ∈ acc ∨ x ∈ ks := by
  induction ks with
  | nil => intro acc x; simp
  | cons k ks ih =>
    intro acc x
    rw [List.foldl_cons, ih]
    by_cases h : k ∈ acc
    · rw [if_pos ((hasK_iff _ _).mpr h), List.mem_cons]
      constructor
      · rintro (a | a)
        · exact .inl a
        · exact .inr (.inr a)
      · rintro (a | a | a)
        · exact .inl a
        · exact .inl (a ▸ h)
        · exact .inr a
    · rw [if_neg (fun z => h ((hasK_iff _ _).mp z)), List.mem_cons, List.mem_append, List.mem_singleton]
      constructor
      · rintro ((a | a) | a)
        · exact .inl a
        · exact .inr (.inl a)
        · exact .inr (.inr a)
      · rintro (a | a | a)
        · exact .inl (.inl a)
        · exact .inl (.inr a)
        · exact .inr a
theorem mem_ddK (ks : List Key) (x : Key) : x ∈ ddK ks ↔ x ∈ ks := by
  unfold ddK; rw [mem_foldK]; simp
theorem distN_snoc (ks : List Key) (k : Key) : distN (ks ++ [k]) = if hasK ks k = true then distN ks else distN ks + 1 := by
  unfold distN
  rw [ddK_snoc]
  by_cases h : k ∈ ks
  · rw [if_pos ((hasK_iff _ _).mpr ((mem_ddK ks k).mpr h)), if_pos ((hasK_iff _ _).mpr h)]
  · rw [if_neg (fun z => h ((mem_ddK ks k).mp ((hasK_iff _ _).mp z))), if_neg (fun z => h ((hasK_iff _ _).mp z)), List.length_append]; rfl
theorem distN_le (ks : List Key) : ∀ n, n ≤ ks.length → distN (ks.take n) ≤ n := by
  intro n
  induction n with
  | zero => intro _; simp [distN, ddK]
  | succ n ih =>
    intro h
    have a := ih (by omega)
    have e : ks.take (n + 1) = ks.take n ++ [ks[n]] := by rw [List.take_succ_eq_append_getElem h]
    rw [e, distN_snoc]
    split <;> omega
/-- all are different exactly if none is lost -/
theorem distN_nodup (ks : List Key) : distN ks = ks.length ↔ ks.Nodup := by
  have key : ∀ n, n ≤ ks.length → (distN (ks.take n) = n ↔ (ks.take n).Nodup) := by
    intro n
    induction n with
    | zero => intro _; simp [distN, ddK]
    | succ n ih =>
      intro h
      have a := ih (by omega)
      have b := distN_le ks n (by omega)
      have e : ks.take (n + 1) = ks.take n ++ [ks[n]] := by rw [List.take_succ_eq_append_getElem h]
      rw [e, distN_snoc, List.nodup_append]
      by_cases m : ks[n] ∈ ks.take n
      · rw [if_pos ((hasK_iff _ _).mpr m)]
        constructor
        · intro z; omega
        · rintro ⟨_, _, z⟩
          exact absurd rfl (z _ m _ (List.mem_singleton.mpr rfl))
      · rw [if_neg (fun z => m ((hasK_iff _ _).mp z))]
        constructor
        · intro z
          refine ⟨a.mp (by omega), List.pairwise_singleton _ _, fun x hx y hy => ?_⟩
          rw [List.mem_singleton.mp hy]
          exact fun q => m (q ▸ hx)
        · rintro ⟨z, _, _⟩
          have := a.mpr z
          omega
  have := key ks.length (Nat.le_refl _)
  rwa [List.take_length] at this
theorem distN_len (ks : List Key) : distN ks ≤ ks.length := by
  have := distN_le ks ks.length (Nat.le_refl _)
  rwa [List.take_length] at this
section
variable {P : Program} {w : World} {A : Around} {E : Value → Shared → Prop} {s : Shared}
theorem setOf_congr {h : Heap} {a : Addr} {S S' : Key → Bool} {n n' : Nat} (R : h.SetOf (mixKind P w) a S n) (e : S = S') (en : n = n') : h.SetOf (mixKind P w) a S' n' := by subst e en; exact R
theorem fill_keys {I : Addr} {fp wr : List Addr} {G : Array GenState → Array GenState → Prop} {n : Nat} {Pv : Nat → Value → Prop} {St : Nat → Shared → Prop} {R : Result → Shared → Prop} (W : WalksS P w A.in1 I fp wr G n Pv St) (a : Addr) (na : a ∉ fp) (ks : List Key) (hn : n = ks.length)
    (hb : ks.length + 1 < scanBound) (vals : ∀ i v, Pv i v → ∃ k, ks[i]? = some k ∧ RelV (kV k) v) : ∀ (m i : Nat) (s : Shared), n - i = m → i ≤ n → St i s → s.heap.SetOf (mixKind P w) a (fun j => hasK (ks.take i) j) (distN (ks.take i)) →
      (∀ s2, Moved (a :: wr) G s s2 → s2.heap.SetOf (mixKind P w) a (fun j => hasK ks j) (distN ks) → R (.ok (.ret .none)) s2) → codeAny (model P w) A (.builtin "set.update.loop" ⟨[.ref a, .ref I], []⟩) R s := by
  have nw : a ∉ wr := fun h => na (W.sub _ h)
  have wider : ∀ b ∈ wr, b ∈ a :: wr := fun b hb => List.mem_cons_of_mem _ hb
  intro m
  induction m with
  | zero =>
    intro i s hm hi st hS out
    have e : i = n := by omega
    subst e
    refine codeAny_builtin F.entry_set_update_loop ?_
    rw [Around.under_plainId F.plain_set_update_loop _]
    show wpAny _ A.in1 (pyNext (.ref I) >>= _) _ _ s
    refine wpAny_bind (W.done s _ _ st fun s2 mv => ?_)
    show wpAny _ A.in1 (ret Value.none) _ _ s2
    rw [List.take_of_length_le (by omega)] at hS
    exact wpAny_pure (out s2 (mv.mono wider) (setOf_at hS fun o e => mv.heap a o nw e))
  | succ m ih =>
    intro i s hm hi st hS out
    have lt : i < n := by omega
    refine codeAny_builtin F.entry_set_update_loop ?_
    rw [Around.under_plainId F.plain_set_update_loop _]
    show wpAny _ A.in1 (pyNext (.ref I) >>= _) _ _ s
    refine wpAny_bind (W.item i s _ _ lt st fun v s2 hP st2 mv => ?_)
    obtain ⟨k, hk, rk⟩ := vals i v hP
    have hS2 : s2.heap.SetOf (mixKind P w) a (fun j => hasK (ks.take i) j) (distN (ks.take i)) := setOf_at hS fun o e => mv.heap a o nw e
    have small := distN_le ks i (by omega)
    show wpAny _ A.in1 (holding [v] (setAdd a v) >>= _) _ _ s2
    refine wpAny_bind (wpAny_holding ?_)
    unfold setAdd
    refine wpAny_holding ?_
    refine wpAny_bind ((mixKind P w).pyHash (k := k) (kV_is rk) ?_)
    refine wpAny_setAddHashed_of (s := { s2 with toks := s2.toks + 1 }) (kV_is rk) (key_scan rk) hS2 (by omega) fun h3 sb hS3 => ?_
    have e : ks.take (i + 1) = ks.take i ++ [k] := by rw [List.take_add_one, hk]; rfl
    have hS4 : h3.SetOf (mixKind P w) a (fun j => hasK (ks.take (i + 1)) j) (distN (ks.take (i + 1))) := by
      refine setOf_congr hS3 ?_ ?_
      · funext j
        rw [e, hasK_snoc]
      · rw [e, distN_snoc]
    refine wpAny_pure ⟨plainId_quiet F.plain_set_update_loop _, ih (i + 1) _ (by omega) lt (W.frame _ s2 _ _ st2 (Nat.le_succ _) fun b hb o z => ?_) hS4 fun s5 mv5 hS5 => ?_⟩
    · rw [sb.2 b (fun q : b = a => na (by rw [← q]; exact hb))]; exact z
    · refine out s5 (Moved.trans W.gtrans ((mv.mono wider).then_heap (Nat.le_succ _) fun b o hb z => ?_) mv5) hS5
      rw [sb.2 b (fun q : b = a => hb (by rw [q]; exact List.mem_cons_self))]; exact z
theorem call_setK {l : Addr} {its : Array Value} (ks : List Key) {Q : Value → Shared → Prop} (hh : A.handled = none) (hl : s.heap.IsList l its) (rel : Vals (ks.map kV) its.toList) (hb : ks.length + 1 < scanBound)
    (fin : ∀ (h2 : Heap) (tk : Nat), h2.SetOf (mixKind P w) s.heap.objs.size (fun j => hasK ks j) (distN ks) → (∀ b o, s.heap.get? b = some o → h2.get? b = some o) → Q (.ref s.heap.objs.size) { s with heap := h2, toks := tk }) : wpAny (model P w) A (call (.type "set") [.ref l]) Q E s := by
  have len : its.size = ks.length := by rw [← Array.length_toList, ← rel.length, List.length_map]
  have ⟨mc, mt, m0⟩ := F.called_set.mro
  have m1 := F.called_set.made
  have m2 := F.called_set.sub
  have m3 := F.called_set.notType
  have m4 := F.called_set.canCreate
  have m5 := F.typeCall_set_1 (.ref l)
  apply wpAny_call
  apply codeAny_of_tree
  show wpAny _ _ (callAny (.type "set") _) _ _ _
  apply wpAny_pure
  refine ⟨Code.quiet_builtin _ (by decide +kernel), codeAny_builtin F.entry_type_call ?_⟩
  rw [Around.under_plain (weight_type_call_type "set" [.ref l] []) rfl]
  repeat (any_goals (first | assumption | wp_step))
  refine codeAny_mono (code_set_led1 (.ref l) (E := E) (Q₁ := fun o s' => o = .ref s.heap.objs.size ∧ s' = { s with heap := s.heap.push (bornSet w) }) ⟨rfl, rfl⟩) fun r s₁ hr => ?_
  cases r with
  | error e => exact hr
  | ok fl =>
  cases fl with
  | next => exact hr.elim
  | brk => exact hr.elim
  | cont => exact hr.elim
  | ret o =>
  obtain ⟨rfl, rfl⟩ := hr
  have at0 : (s.heap.push (bornSet w)).get? s.heap.objs.size = some (bornSet w) := Heap.get?_push_size _ rfl
  have isS : Shared.TypeIs { s with heap := s.heap.push (bornSet w) } (.ref s.heap.objs.size) "set" := ⟨_, at0, rfl⟩
  have i1 := F.called_set.init.lookup
  have i2 := F.called_set.init.bind (.ref s.heap.objs.size)
  repeat (any_goals (first | assumption | wp_step))
  have new : ∀ {b : Addr} {x : Obj}, s.heap.get? b = some x → b < s.heap.objs.size := fun e => Heap.lt_size e
  let W : Value → Shared → Prop := fun r s₂ => r = .none ∧ ∃ h' tk, s₂ = { s with heap := h', toks := tk } ∧ h'.SetOf (mixKind P w) s.heap.objs.size (fun j => hasK ks j) (distN ks) ∧ ∀ b x, s.heap.get? b = some x → h'.get? b = some x
  refine codeAny_mono (codeAny_call_builtin (R := wants W E) F.called_set.init.plain F.entry_set_init (check_set_init_1 isS ?_)) fun r₂ s₂ hr₂ => ?_
  · obtain ⟨⟨oc, od, ot, os⟩, g1, g2, gn, g3⟩ := hl
    simp only at g2 g3
    subst g2 g3
    have old : (s.heap.push (bornSet w)).get? l = some { cls := .type "list", dict := od, data := .seq its gn, slots := os } := Heap.get?_push_of_some _ g1
    have k1 := F.sub_list_set
    have k2 := F.sub_list_frozenset
    have k3 : (Value.type "list" == Value.type "dict") = false := by decide
    have isL : (s.heap.push (bornSet w)).IsList l its := ⟨_, old, rfl, gn, rfl⟩
    have ls := new g1
    have sz : (s.heap.push (bornSet w)).objs.size = s.heap.objs.size + 1 := Heap.size_push ..
    unfold Builtin.«set.__init__» noKeywords Builtin.Frozenset.updateFrom
    generalize hI : pyIter = Iter
    wp_walk
    subst hI
    refine wpAny_pyIter_list isL (wpAny_bind (wpAny_runValue ?_))
    have free : A.in1.in1.in1.handled = none := by simp [hh]
    have n1 : l ≠ (s.heap.push (bornSet w)).objs.size := by rw [sz]; exact Nat.ne_of_lt (Nat.lt_succ_of_lt ls)
    have n2 : s.heap.objs.size ∉ [(s.heap.push (bornSet w)).objs.size, l] := by
      rw [sz]
      intro m
      rcases List.mem_cons.mp m with z | z
      · exact absurd z (Nat.ne_of_lt (Nat.lt_succ_self _))
      · rw [List.mem_singleton] at z; exact absurd z (Nat.ne_of_gt ls)
    have vals : ∀ (i : Nat) (v : Value), its[i]? = some v → ∃ k, ks[i]? = some k ∧ RelV (kV k) v := fun i v e => by
      have hi : i < ks.length := by rw [← len]; exact (Array.getElem?_eq_some_iff.mp e).1
      have g : (ks.map kV)[i]? = some (kV ks[i]) := by rw [List.getElem?_map, List.getElem?_eq_getElem hi]; rfl
      obtain ⟨u, z, r⟩ := rel.get g
      rw [Array.getElem?_toList, e] at z
      cases z
      exact ⟨ks[i], List.getElem?_eq_getElem hi, r⟩
    have born : ((s.heap.push (bornSet w)).push { cls := .type "list_iterator", data := .fields #[.ref l, .int 0 0] }).SetOf (mixKind P w) s.heap.objs.size (fun j => hasK (ks.take 0) j) (distN (ks.take 0)) := by
      refine setOf_congr (S := fun _ => false) (n := 0) ⟨_, #[], 0, _, Heap.get?_push_of_some _ at0, ⟨rfl, rfl, rfl⟩, rfl, (fun e he => by simp at he), (fun k => by simp), (by decide), (by rfl), rfl⟩ ?_ ?_
      · funext j; rfl
      · rfl
    refine fill_keys ((Walks.list free _ l n1 its).toS) s.heap.objs.size n2 ks len hb vals (its.size - 0) 0 _ (by omega) (Nat.zero_le _) ⟨⟨_, Heap.get?_push_size _ rfl, rfl, rfl⟩, isL.push _⟩ born ?_
    rintro ⟨h', gs, dr, tk', os'⟩ hm hS'
    have e1 : gs = s.gens := hm.gens
    have e2 : dr = s.drawn := hm.drawn
    have e3 : os' = s.os := hm.os
    subst e1 e2 e3
    show wpAny _ _ _ _ _ _
    apply wpAny_pure
    show wpAny _ _ (ret Value.none) _ _ _
    refine wpAny_pure ⟨rfl, h', tk', rfl, hS', fun b x e => hm.heap b x ?_ (Heap.get?_push_of_some _ (Heap.get?_push_of_some _ e))⟩
    have lb := new e
    intro m
    rcases List.mem_cons.mp m with z | z
    · exact absurd z (Nat.ne_of_lt lb)
    · rcases List.mem_cons.mp z with z | z
      · rw [sz] at z; exact absurd z (Nat.ne_of_lt (Nat.lt_succ_of_lt lb))
      · cases z
  · cases r₂ with
    | error e => exact hr₂
    | ok f₂ =>
      cases f₂ with
      | next => exact hr₂.elim
      | brk => exact hr₂.elim
      | cont => exact hr₂.elim
      | ret r =>
        obtain ⟨rfl, h', tk, rfl, q1, q3⟩ := hr₂
        repeat (any_goals (first | assumption | wp_step))
        exact fin h' tk q1 q3
end
def rSetK (K : PySem.W.Frag) (P : Program) (w : World) : List V → Hp → VK → Prop := fun xs H Q => ∃ (a : Addr) (ks : List Key), xs = [.ref a] ∧ SqL K H a (ks.map kV) ∧ ks.length + 1 < scanBound ∧ ∀ p, H p = none → Q (.ref p) (upd H p (SetK P w p (fun j => hasK ks j) (distN ks)))
theorem cr_setK {X : Cx} (hc : X.calm = true) : CallR X (.type "set") (rSetK X.K X.prog X.w) := by
  intro pins s σ H vs us Q I r ⟨a, ks, ev, sq, hb, q⟩
  subst ev
  obtain ⟨u, rfl, ru⟩ := vals1 r
  cases (show u = Value.ref a from ru)
  obtain ⟨its, rv, pl, _⟩ := I.list sq
  refine call_setK ks (I.ok.hd hc) pl.isList rv hb fun h2 tk hS k => ?_
  exact ⟨.ref s.heap.objs.size, _, I.laid (t' := tk) k (Nat.le_refl _) (setK_new hS), rfl, q _ (I.hok.fresh (Nat.le_refl _))⟩
/-- len(set(..)) -/
theorem call_lenK {X : Cx} : CallR X (.builtin "len") (fun xs H Q => ∃ a S n, xs = [.ref a] ∧ H a = some (SetK X.prog X.w a S n) ∧ Q (.int (n : Nat)) H) := by
  intro pins s σ H vs us Q I r ⟨a, S, n, ev, ha, q⟩
  subst ev
  obtain ⟨u, rfl, ru⟩ := vals1 r
  cases (show u = Value.ref a from ru)
  obtain ⟨o, es, ep, t, ho, hx, hd, _, _, hb, hf, hn⟩ := setK_get I ha
  subst hn
  exact call_len_set ho hx hd hf (by have : scanBound = 4096 := rfl; omega) ⟨.int (es.size : Nat), H, I.tok _, ⟨_, rfl⟩, q⟩
def keysOf : List Dv → Option (List Key)
  | [] => some []
  | d :: ds => match keyD d, keysOf ds with
    | some k, some ks => some (k :: ks)
    | _, _ => none
theorem keysOf_rep {K : PySem.W.Frag} {H : Hp} : ∀ {ds : List Dv} {ks : List Key} {vs : List V}, keysOf ds = some ks → RepL K H ds vs → vs = ks.map kV
  | [], _, _, e, l => by cases e; exact l
  | d :: ds, _, _, e, l => by
    obtain ⟨v, r, rfl, h1, h2⟩ := l
    rw [keysOf] at e
    cases e1 : keyD d with
    | none => rw [e1] at e; cases e
    | some k =>
      cases e2 : keysOf ds with
      | none => rw [e1, e2] at e; cases e
      | some ks =>
        rw [e1, e2] at e; cases e
        rw [keyD_rep e1 h1, keysOf_rep e2 h2]; rfl
def dLenSet (te : DTE) : DTE := fun σ H Q => te σ H fun d H1 => seqL d H1 fun ds => ∃ ks, keysOf ds = some ks ∧ ks.length ≤ 4000 ∧ Q (.int (distN ks : Nat)) H1
theorem de_lenSet {X : Cx} {e : Expr} {te : DTE} {p p2 q pos : Pos} (hc : X.calm = true) (hg : Gl X "len") (hm : X.mg "len" = none) (hg2 : Gl X "set") (hm2 : X.mg "set" = none) (he : DE X e te) (hs : starEach [e] X.env = (false, eval e X.env) :: starEach [] X.env := by rfl)
    (hs2 : starEach [Expr.Call (.Name "set" p2) [e] [] q] X.env = (false, eval (Expr.Call (.Name "set" p2) [e] [] q) X.env) :: starEach [] X.env := by rfl) (hp1 : (backTo q (starEach [] X.env)).any (·.1) = false := by rfl) (hp2 : (backTo pos (starEach [] X.env)).any (·.1) = false := by rfl) :
    DE X (.Call (.Name "len" p) [.Call (.Name "set" p2) [e] [] q] [] pos) (dLenSet te) := by
  have inner := pe_callTy (p := p2) (pos := q) (cr_setK hc) hg2 hm2 (by decide +kernel) (pa_cons he pa_nil hs) (by decide) (by decide) hs hp1
  refine de_of (pe_callB call_lenK hg hm (by decide +kernel) (pa_cons inner pa_nil hs2) (by decide) (by decide) hs2 hp2) fun σ H Q σd Hd Qd rs rh q k => ⟨σd, Hd, _, rs, rh, q, fun v H1 d Hd1 s1 r1 rv q1 => ?_⟩
  obtain ⟨a, vs, ds, rfl, sq, l, ks, e1, hz, q2⟩ := seqL_of r1 rv q1
  have := keysOf_rep e1 l
  subst this
  have small : ks.length + 1 < scanBound := by have : scanBound = 4096 := rfl; omega
  exact ⟨a, ks, rfl, sq, small, fun p hp => ⟨p, _, _, rfl, upd_same, k _ _ (.int _) Hd1 (s1.trans (.lay hp)) (r1.lay hp) rfl q2⟩⟩
end DL

set_option maxHeartbeats 4000000
namespace DL
open PySem PySem.Spec L2
open PyProof.Rows hiding St
/-! ## a bool as a number, to the left of an int -/
section
variable {prog : Program} {w : World} {A : Around} {E : Value → Shared → Prop} {s : Shared} {a : Int} {t : Tok} {b : Bool}
abbrev bi (b : Bool) : Int := if b = true then 1 else 0
theorem gv_add (b : Bool) (a : Int) (t : Tok) : Gives (Builtin.«int.__add__» ⟨[.bool b, .int a t], []⟩) (.int (bi b + a)) :=
  .of_wp fun M A E s Q h => by obtain ⟨hp, g, d, tk, os⟩ := s; wp_walk; exact ⟨_, rfl, h⟩
theorem gv_sub (b : Bool) (a : Int) (t : Tok) : Gives (Builtin.«int.__sub__» ⟨[.bool b, .int a t], []⟩) (.int (bi b - a)) :=
  .of_wp fun M A E s Q h => by obtain ⟨hp, g, d, tk, os⟩ := s; wp_walk; exact ⟨_, rfl, h⟩
theorem gv_neg (b : Bool) : Gives (Builtin.«int.__neg__» ⟨[.bool b], []⟩) (.int (-(bi b))) :=
  .of_wp fun M A E s Q h => by obtain ⟨hp, g, d, tk, os⟩ := s; wp_walk; exact ⟨_, rfl, h⟩
theorem gv_mul (b : Bool) (a : Int) (t : Tok) : Gives (Builtin.«int.__mul__» ⟨[.bool b, .int a t], []⟩) (.int (bi b * a)) := by
  have hm : IntMulOk (bi b) a := .of_left (by cases b <;> decide)
  refine .of_eq ?_
  show (ite _ _ _ : Sem Fin) = _
  rw [if_neg hm]; rfl
theorem sub_int_bool : isSubtype (.type "int") (.type "bool") = pure false := by kernel_rfl
theorem add_bool_int {Q : Value → Shared → Prop} (h : Q (.int (bi b + a) s.toks) { s with toks := s.toks + 1 }) : wpAny (model prog w) A (binaryOp .Add (.bool b) (.int a t)) Q E s :=
  binaryOp_left_gives (op := .Add) (T := "bool") (U := "int") (by decide) rfl (fun s' => typeIs_int s' a t) F.fills_bool_add F.fills_int_add sub_int_bool F.slot_bool_add F.slot_int_radd F.entry_int_add (F.args_int_add_2 _ _) (gv_add b a t) trivial h
theorem sub_bool_int {Q : Value → Shared → Prop} (h : Q (.int (bi b - a) s.toks) { s with toks := s.toks + 1 }) : wpAny (model prog w) A (binaryOp .Sub (.bool b) (.int a t)) Q E s :=
  binaryOp_left_gives (op := .Sub) (T := "bool") (U := "int") (by decide) rfl (fun s' => typeIs_int s' a t) F.fills_bool_sub F.fills_int_sub sub_int_bool F.slot_bool_sub F.slot_int_rsub F.entry_int_sub (F.args_int_sub_2 _ _) (gv_sub b a t) trivial h
theorem mul_bool_int {Q : Value → Shared → Prop} (h : Q (.int (bi b * a) s.toks) { s with toks := s.toks + 1 }) : wpAny (model prog w) A (binaryOp .Mult (.bool b) (.int a t)) Q E s :=
  binaryOp_left_gives (op := .Mult) (T := "bool") (U := "int") (by decide) rfl (fun s' => typeIs_int s' a t) F.fills_bool_mul F.fills_int_mul sub_int_bool F.slot_bool_mul F.slot_int_rmul F.entry_int_mul (F.args_int_mul_2 _ _) (gv_mul b a t) trivial h
theorem neg_bool {Q : Value → Shared → Prop} (h : Q (.int (-(bi b)) s.toks) { s with toks := s.toks + 1 }) : wpAny (model prog w) A (unaryOp .USub (.bool b)) Q E s :=
  unaryOp_gives (op := .USub) (T := "bool") rfl rfl F.slot_bool_neg F.entry_int_neg (F.args_int_neg_1 _) (gv_neg b) h
end
/-! ## a tuple so many times, any number -/
section
theorem gv_tmul1 (l : Addr) (items : Array Value) (n : Nat) (dd : Option Addr) (sl : Array (Option Value)) (x : Int) (u : Tok) (c0 : (decide (x < -(2 ^ 63)) || decide (x ≥ 2 ^ 63)) = false) (c1 : (items.isEmpty || x == 1) = true) :
    Meets (Builtin.«tuple.__mul__» ⟨[.ref l, .int x u], []⟩) (fun _ R s => s.heap.get? l = some { cls := .type "tuple", dict := dd, data := .seq items n, slots := sl } ∧ R (.ok (.ret (.ref l))) s) :=
  .of_wp fun prog w A R s h => by
    obtain ⟨hp, g, d, tk, os⟩ := s
    obtain ⟨hl, h⟩ := h
    have f1 := AutoSeq1.idx_int
    wp_walk using wpAny_loadPart' hl
    repeat (first
      | (refine wpAny_ite_false (decide_eq_false (by rw [c0]; exact Bool.false_ne_true)) ?_; wp_walk using wpAny_loadPart' hl)
      | (refine wpAny_ite_true (decide_eq_true (by rw [c1])) ?_; wp_walk using wpAny_loadPart' hl))
    exact ⟨_, rfl, h⟩
theorem gv_tmul0 (l : Addr) (items : Array Value) (n : Nat) (dd : Option Addr) (sl : Array (Option Value)) (x : Int) (u : Tok) (c0 : (decide (x < -(2 ^ 63)) || decide (x ≥ 2 ^ 63)) = false) (c1 : (items.isEmpty || x == 1) = false) (c2 : (decide (x ≤ 0) || items.isEmpty) = true) :
    Meets (Builtin.«tuple.__mul__» ⟨[.ref l, .int x u], []⟩) (fun _ R s => s.heap.get? l = some { cls := .type "tuple", dict := dd, data := .seq items n, slots := sl } ∧
      R (.ok (.ret (Value.ref s.heap.objs.size))) { s with heap := s.heap.push { cls := Value.type "tuple", data := Data.seq #[] }, toks := s.toks }) :=
  .of_wp fun prog w A R s h => by
    obtain ⟨hp, g, d, tk, os⟩ := s
    obtain ⟨hl, h⟩ := h
    have f1 := AutoSeq1.idx_int
    wp_walk using wpAny_loadPart' hl
    repeat (first
      | (refine wpAny_ite_false (decide_eq_false (by rw [c0]; exact Bool.false_ne_true)) ?_; wp_walk using wpAny_loadPart' hl)
      | (refine wpAny_ite_false (decide_eq_false (by rw [c1]; exact Bool.false_ne_true)) ?_; wp_walk using wpAny_loadPart' hl)
      | (refine wpAny_ite_true (decide_eq_true (by rw [c2])) ?_; wp_walk using wpAny_loadPart' hl))
    exact ⟨_, rfl, h⟩
end
def rTimesT0 (K : PySem.W.Frag) : R2 := fun x y H Q => ∃ l k xs, x = .ref l ∧ y = .int k ∧ SqT K H l xs ∧ k < 2 ^ 63 ∧ -(2 ^ 63) ≤ k ∧ (((xs = [] ∨ k = 1) ∧ Q (.ref l) H) ∨ (xs ≠ [] ∧ k ≤ 0 ∧ ∀ p, H p = none → Q (.ref p) (upd H p (.tup []))))
theorem op_timesT0 {X : Cx} : OpR X (binaryOp .Mult) (rTimesT0 X.K) := by
  intro pins s σ H x y v u Q I rx ry h
  obtain ⟨l, k, xs, rfl, rfl, hT, h1, h2, q⟩ := h
  cases rx
  obtain ⟨t, rfl⟩ := ry
  obtain ⟨its, r, ⟨⟨cls, dd, data, sl⟩, ho, hc, n, hd⟩, _⟩ := I.tuple hT
  simp only at hc hd
  subst hc hd
  have len : its.length = xs.length := r.length.symm
  have c0 : (decide (k < -(2 ^ 63)) || decide (k ≥ 2 ^ 63)) = false := by
    have z1 : ¬ k < -(2 ^ 63) := by omega
    have z2 : ¬ k ≥ 2 ^ 63 := by omega
    rw [decide_eq_false z1, decide_eq_false z2]; rfl
  refine wpAny_binaryOp_repeat_ref (T := "tuple") (U := "int") (by decide) ⟨_, ho, rfl⟩ (fun s' => typeIs_int s' k t) noFill_tuple_mul F.fills_int_mul F.slot_int_rmul
    repeat_tuple F.slot_int_index.lookup ?_
  refine call_meets F.slot_int_rmul (typeIs_int s k t) F.entry_int_rmul (F.args_int_rmul_2 _ _) (int_rmul_tuple k t l its.toArray n dd sl) ⟨ho, rfl, ⟨_, ho, rfl⟩, ?_⟩
  rcases q with ⟨e, q⟩ | ⟨ne, hk, q⟩
  · have c1 : (its.toArray.isEmpty || k == 1) = true := by
      rcases e with e | e
      · subst e
        have : its = [] := List.eq_nil_of_length_eq_zero len
        subst this; rfl
      · subst e; simp
    exact call_meets F.slot_tuple_mul ⟨_, ho, rfl⟩ F.entry_tuple_mul (F.args_tuple_mul_2 _ _) (gv_tmul1 l its.toArray n dd sl k t c0 c1) ⟨ho, .ref l, H, I, rfl, q⟩
  · have pos : its ≠ [] := fun e => ne (List.eq_nil_of_length_eq_zero (by rw [← len, e]; rfl))
    have emp : its.toArray.isEmpty = false := by
      cases its with
      | nil => exact absurd rfl pos
      | cons a b => rfl
    have c1 : (its.toArray.isEmpty || k == 1) = false := by
      have z : (k == 1) = false := beq_eq_false_iff_ne.mpr (by omega)
      rw [emp, z]; rfl
    have c2 : (decide (k ≤ 0) || its.toArray.isEmpty) = true := by rw [decide_eq_true hk]; rfl
    refine call_meets F.slot_tuple_mul ⟨_, ho, rfl⟩ F.entry_tuple_mul (F.args_tuple_mul_2 _ _) (gv_tmul0 l its.toArray n dd sl k t c0 c1 c2) ⟨ho, ?_⟩
    have fresh := I.hok.fresh (Nat.le_refl s.heap.objs.size)
    have laid := I.laid (t' := s.toks) (a := s.heap.objs.size) (o := .tup []) (fun b ob e => Heap.get?_push_of_some _ e) (Nat.le_refl _) ⟨Nat.zero_le _, [], .nil, IsTup.new _ _⟩
    exact ⟨.ref s.heap.objs.size, _, laid, rfl, q _ fresh⟩
/-! ## the rules by value -/
def fAddB : D2 := fun x y H Q => match x, y with
  | .bl b, .int j => Q (.int (bi b + j)) H
  | x, y => fAddF x y H Q
def fSubB : D2 := fun x y H Q => match x, y with
  | .bl b, .int j => Q (.int (bi b - j)) H
  | x, y => fSubI x y H Q
def fNegB : D1 := fun x H Q => match x with
  | .bl b => Q (.int (-(bi b))) H
  | x => fNeg x H Q
/-- any number of times, a tuple; a bool's product -/
def fMulB : D2 := fun x y H Q => match x, y with
  | .bl b, .int j => Q (.int (bi b * j)) H
  | .tup xs, .int k => k < 2 ^ 63 ∧ -(2 ^ 63) ≤ k ∧ xs.length * k.toNat ≤ sizeLine ∧ Q (.tup (List.replicate k.toNat xs).flatten) H
  | x, y => fMulF x y H Q
def rBool (op : Bool → Int → Int) : R2 := fun x y H Q => ∃ b j, x = .bl b ∧ y = .int j ∧ Q (.int (op b j)) H
section
variable {X : Cx} {a b : Expr} {ta tb : DTE} {pos : Pos}
theorem op_addBl : OpR X (binaryOp .Add) (rBool fun b j => bi b + j) := by
  intro pins s σ H x y v u Q I rx ry ⟨k, j, ex, ey, q⟩
  subst ex ey; cases rx; obtain ⟨t, rfl⟩ := ry
  exact add_bool_int ⟨.int _, H, I.tok _, ⟨_, rfl⟩, q⟩
theorem op_subBl : OpR X (binaryOp .Sub) (rBool fun b j => bi b - j) := by
  intro pins s σ H x y v u Q I rx ry ⟨k, j, ex, ey, q⟩
  subst ex ey; cases rx; obtain ⟨t, rfl⟩ := ry
  exact sub_bool_int ⟨.int _, H, I.tok _, ⟨_, rfl⟩, q⟩
theorem op_mulBl : OpR X (binaryOp .Mult) (rBool fun b j => bi b * j) := by
  intro pins s σ H x y v u Q I rx ry ⟨k, j, ex, ey, q⟩
  subst ex ey; cases rx; obtain ⟨t, rfl⟩ := ry
  exact mul_bool_int ⟨.int _, H, I.tok _, ⟨_, rfl⟩, q⟩
theorem un_negBl : UnR X (unaryOp .USub) (fun x H Q => ∃ b, x = .bl b ∧ Q (.int (-(bi b))) H) := by
  intro pins s σ H x v Q I rx ⟨b, ex, q⟩
  subst ex; cases rx
  exact neg_bool ⟨.int _, H, I.tok _, ⟨_, rfl⟩, q⟩
theorem UnR_or {f : Value → Sem Value} {r r' : V → Hp → VK → Prop} (h : UnR X f r) (h' : UnR X f r') : UnR X f (fun x H Q => r x H Q ∨ r' x H Q) := by
  intro pins s σ H x v Q I rx q
  rcases q with q | q
  · exact h pins s σ H x v Q I rx q
  · exact h' pins s σ H x v Q I rx q
theorem rBool_ok {K : PySem.W.Frag} {op : Bool → Int → Int} {H : Hp} {Hd : DH} {x y : V} {b : Bool} {j : Int} {Q : VK} {Qd : DVK} (rh : RepH K H Hd) (rx : Rep K H (.bl b) x) (ry : Rep K H (.int j) y) (q : Qd (.int (op b j)) Hd) (k : KE K H Hd Qd Q) : rBool op x y H Q :=
  ⟨b, j, rx, ry, k _ H (.int _) Hd .refl rh rfl q⟩
theorem de_addB (ha : DE X a ta) (hb : DE X b tb) : DE X (.BinOp a .Add b pos) (dOp fAddB ta tb) := de_op (OpR.or op_addBl (OpR.or op_addAll op_catS)) (by
  intro H Hd x y dx dy Q Qd rh rx ry q k
  unfold fAddB at q
  split at q
  · exact .inl (rBool_ok rh rx ry q k)
  · exact .inr (ok_addF H Hd x y dx dy Q Qd rh rx ry q k)) ha hb
theorem de_subB (ha : DE X a ta) (hb : DE X b tb) : DE X (.BinOp a .Sub b pos) (dOp fSubB ta tb) := de_op (OpR.or op_subBl op_sub) (by
  intro H Hd x y dx dy Q Qd rh rx ry q k
  unfold fSubB at q
  split at q
  · exact .inl (rBool_ok rh rx ry q k)
  · exact .inr (i20 (g := fun i j => .int (i - j)) (gd := fun i j => .int (i - j)) (fun _ _ _ => rfl) H Hd x y dx dy Q Qd rh rx ry q k)) ha hb
theorem de_negB (ha : DE X a ta) : DE X (.UnaryOp .USub a pos) (dUn fNegB ta) := de_un (UnR_or un_negBl un_neg) (by
  intro H Hd x dx Q Qd rh rx q k
  unfold fNegB at q
  split at q
  · exact .inl ⟨_, rx, k _ H (.int _) Hd .refl rh rfl q⟩
  · unfold fNeg at q
    split at q
    · exact .inr ⟨_, rx, k _ H (.int _) Hd .refl rh rfl q⟩
    · exact q.elim) ha
theorem de_mulB (ha : DE X a ta) (hb : DE X b tb) : DE X (.BinOp a .Mult b pos) (dOp fMulB ta tb) := de_op (OpR.or op_mulBl (OpR.or op_timesT0 op_mulF)) (by
  intro H Hd x y dx dy Q Qd rh rx ry q k
  unfold fMulB at q
  split at q
  · exact .inl (rBool_ok rh rx ry q k)
  · rename_i xs n
    obtain ⟨q1, q2, q3, q4⟩ := q
    by_cases e : xs = [] ∨ n = 1
    · obtain ⟨p, vs, rfl, hx, lx⟩ := rx
      refine .inr (.inl ⟨p, n, vs, rfl, ry, hx, q1, q2, .inl ⟨?_, ?_⟩⟩)
      · rcases e with e | e
        · subst e; exact .inl lx
        · exact .inr e
      · refine k _ H (.tup _) Hd .refl rh ⟨p, vs, rfl, hx, ?_⟩ q4
        rcases e with e | e
        · subst e
          rw [show (List.replicate n.toNat ([] : List Dv)).flatten = [] by simp]
          exact lx
        · subst e
          rw [show (List.replicate (1 : Int).toNat xs).flatten = xs by simp]
          exact lx
    · by_cases e2 : n ≤ 0
      · obtain ⟨p, vs, rfl, hx, lx⟩ := rx
        refine .inr (.inl ⟨p, n, vs, rfl, ry, hx, q1, q2, .inr ⟨fun z => e (.inl (List.eq_nil_of_length_eq_zero (by rw [lx.length, z]; rfl))), e2, fun r hr => ?_⟩⟩)
        refine k _ _ (.tup _) Hd (.lay hr) (rh.lay hr) ⟨r, _, rfl, .of upd_same, ?_⟩ q4
        have : n.toNat = 0 := by omega
        rw [this]; rfl
      · exact .inr (.inr (ok_mulF H Hd x y (.tup xs) (.int n) Q Qd rh rx ry ⟨fun z => e (.inl z), by omega, q3, q4⟩ k))
  · exact .inr (.inr (ok_mulF H Hd x y dx dy Q Qd rh rx ry q k))) ha hb
end
end DL

set_option maxHeartbeats 4000000
namespace DL
open PySem PySem.Spec L2
open PyProof.Rows hiding St
/-- a try in a def that lets nothing out -/
abbrev dQt (t : DTS) : DTS := fun D σ H => t { D with ex := fun _ _ _ _ => False } σ H
theorem hu2_of {A : Around} {k : Nat} (hr : Room k A) : A.units + 200 < cLine := by have := hr.un; omega
/-- which class is caught by which -/
def subTab : List (Str × Str × Bool) → Str → Str → Option Bool
  | [], _, _ => none
  | (n, c, b) :: r, m, d => if n = m ∧ c = d then some b else subTab r m d
section
variable {K : PySem.W.Frag} {mg : Str → Option Value} {c c' n : Str} {C N : Value} {b : Bool} {tab : List (Str × Str × Bool)}
theorem subOk_nil : SubOk K mg (subTab []) c C := fun _ _ _ e => nomatch e
theorem subOk_cons (hn : mg n = some N) (he : PySem.W.exmOne K N C = some b) (r : SubOk K mg (subTab tab) c C) : SubOk K mg (subTab ((n, c, b) :: tab)) c C := by
  intro m b' M e hm
  unfold subTab at e
  split at e
  · rename_i h
    obtain ⟨rfl, _⟩ := h
    rw [hn] at hm
    cases hm
    cases e
    exact he
  · exact r m b' M e hm
theorem subOk_skip (h : c' ≠ c) (r : SubOk K mg (subTab tab) c C) : SubOk K mg (subTab ((n, c', b) :: tab)) c C := by
  intro m b' M e hm
  unfold subTab at e
  rw [if_neg (fun z => h z.2)] at e
  exact r m b' M e hm
end
end DL

set_option maxHeartbeats 4000000
namespace DL
open PySem PySem.Spec L2
open PyProof.Rows hiding St
/-! ## len of a dict -/
def fLenD : DF := fun ds H Q => match ds with
  | [d] => dicD d H fun ks _ => Q (.int ks.length) H
  | _ => False
theorem call_lenDA {X : Cx} : CallR X (.builtin "len") (lRC X.K fLenD) := by
  intro pins s σ H vs us Q I r1 ⟨ds, Hd, Qd, rh, rl, q, k⟩
  unfold fLenD at q
  split at q
  · obtain ⟨v, rfl, r⟩ := len_one rl
    obtain ⟨u, rfl, ru⟩ := vals1 r1
    obtain ⟨p, kvs, ks, ds', rfl, h, e1, l, q⟩ := dicD_of rh r q
    cases (show u = Value.ref p from ru)
    refine d_len I h fun t s' I' => ⟨.int kvs.length, H, I', ⟨t, rfl⟩, ?_⟩
    have : ks.length = kvs.length := by rw [← e1, List.length_map]
    rw [← this]
    exact k _ H (.int _) Hd .refl rh rfl q
  · exact q.elim
theorem ok_lenDA {K : PySem.W.Frag} : CallOk K (lRC K fLenD) fLenD := lRC_ok
end DL

set_option maxHeartbeats 4000000
namespace DL
open PySem PySem.Spec L2
open PyProof.Rows hiding St
/-! ## comprehensions that change nothing, by what each turn adds -/
theorem flat_snoc {α : Type} (F : Nat → List α) (n : Nat) : (List.range (n + 1)).flatMap F = (List.range n).flatMap F ++ F n := by
  rw [List.range_succ, List.flatMap_append]; simp
theorem flat_le {α : Type} (F : Nat → List α) {i n : Nat} (h : i ≤ n) : ((List.range i).flatMap F).length ≤ ((List.range n).flatMap F).length := by
  obtain ⟨d, rfl⟩ := Nat.exists_eq_add_of_le h
  induction d with
  | zero => exact Nat.le_refl _
  | succ d ih => rw [← Nat.add_assoc, flat_snoc, List.length_append]; have := ih (Nat.le_add_right _ _); omega
section
variable {g : DTG} {tt : DTT} {te : DTE} {vs : List Nat} {σ : DS} {H : DH} {I : DIt} {P : List Dv → DH → Prop}
theorem lc_all (F : Nat → List Dv) (hz : ((List.range I.n).flatMap F).length ≤ sizeLine) (hG : I.G H)
    (h : ∀ i (acc : List Dv) (N : List Dv → DH → Prop), i < I.n → acc.length + (F i).length ≤ sizeLine → N (acc ++ F i) H → g (I.f i) (wipeD σ vs) H fun σ2 H2 => tt σ2 H2 fun b H3 => (b = true → te σ2 H3 fun y H4 => acc.length < sizeLine ∧ N (acc ++ [y]) H4) ∧ (b = false → N acc H3))
    (fin : P ((List.range I.n).flatMap F) H) :
    ∃ Pv : Nat → List Dv → DH → Prop, Pv 0 [] H ∧ (∀ i acc H, i ≤ I.n → Pv i acc H → I.G H) ∧
      (∀ i acc H, i < I.n → Pv i acc H → g (I.f i) (wipeD σ vs) H fun σ2 H2 => tt σ2 H2 fun b H3 => (b = true → te σ2 H3 fun y H4 => acc.length < sizeLine ∧ Pv (i + 1) (acc ++ [y]) H4) ∧ (b = false → Pv (i + 1) acc H3)) ∧
      ∀ acc H, Pv I.n acc H → P acc H := by
  refine ⟨fun i acc H' => H' = H ∧ acc = (List.range i).flatMap F, ⟨rfl, rfl⟩, ?_, ?_, ?_⟩
  · rintro i acc H' _ ⟨rfl, _⟩; exact hG
  · rintro i acc H' hi ⟨rfl, rfl⟩
    have := flat_le F (show i + 1 ≤ I.n from hi)
    rw [flat_snoc, List.length_append] at this
    exact h i ((List.range i).flatMap F) (fun acc H4 => H4 = H' ∧ acc = (List.range (i + 1)).flatMap F) hi (by omega) ⟨rfl, (flat_snoc F i).symm⟩
  · rintro acc H' ⟨rfl, rfl⟩; exact fin
theorem flat_one {α : Type} (f : Nat → α) (n : Nat) : (List.range n).flatMap (fun i => [f i]) = (List.range n).map f := by
  induction n with
  | zero => rfl
  | succ n ih => rw [flat_snoc, ih, List.range_succ, List.map_append]; rfl
/-- one thing each -/
theorem lc_map (f : Nat → Dv) (hz : I.n ≤ sizeLine) (hG : I.G H) (h : ∀ i (N : Dv → DH → Prop), i < I.n → N (f i) H → g (I.f i) (wipeD σ vs) H fun σ2 H2 => te σ2 H2 N)
    (fin : P ((List.range I.n).map f) H) :
    ∃ Pv : Nat → List Dv → DH → Prop, Pv 0 [] H ∧ (∀ i acc H, i ≤ I.n → Pv i acc H → I.G H) ∧
      (∀ i acc H, i < I.n → Pv i acc H → g (I.f i) (wipeD σ vs) H fun σ2 H2 => dYes σ2 H2 fun b H3 => (b = true → te σ2 H3 fun y H4 => acc.length < sizeLine ∧ Pv (i + 1) (acc ++ [y]) H4) ∧ (b = false → Pv (i + 1) acc H3)) ∧
      ∀ acc H, Pv I.n acc H → P acc H := by
  refine ⟨fun i acc H' => H' = H ∧ acc = (List.range i).map f, ⟨rfl, rfl⟩, ?_, ?_, ?_⟩
  · rintro i acc H' _ ⟨rfl, _⟩; exact hG
  · rintro i acc H' hi ⟨rfl, rfl⟩
    have z : ∀ (t : DTE → DS → DH → Prop), True := fun _ => trivial
    have := h i (fun y H4 => ((List.range i).map f).length < sizeLine ∧ H4 = H' ∧ (List.range i).map f ++ [y] = (List.range (i + 1)).map f) hi ⟨by rw [List.length_map, List.length_range]; omega, rfl, by rw [List.range_succ, List.map_append]; rfl⟩
    have conv : (fun (σ2 : DS) (H2 : DH) => te σ2 H2 fun y H4 => ((List.range i).map f).length < sizeLine ∧ H4 = H' ∧ (List.range i).map f ++ [y] = (List.range (i + 1)).map f) = fun σ2 H2 => dYes σ2 H2 fun b H3 => (b = true → te σ2 H3 fun y H4 => ((List.range i).map f).length < sizeLine ∧ H4 = H' ∧ (List.range i).map f ++ [y] = (List.range (i + 1)).map f) ∧ (b = false → H3 = H' ∧ (List.range i).map f = (List.range (i + 1)).map f) := by
      funext σ2 H2
      exact propext ⟨fun q => ⟨fun _ => q, fun e => nomatch e⟩, fun q => q.1 rfl⟩
    rw [conv] at this
    exact this
  · rintro acc H' ⟨rfl, rfl⟩; exact fin
/-- a clause of several -/
theorem lp_all {B : DTB} {GG : DIt → List Dv → DH → Prop} {acc0 : List Dv} (F : Nat → List Dv) (hz : acc0.length + ((List.range I.n).flatMap F).length ≤ sizeLine) (hG : ∀ acc, GG I acc H)
    (h : ∀ i (acc : List Dv) (N : List Dv → DH → Prop), i < I.n → acc.length + (F i).length ≤ sizeLine → N (acc ++ F i) H → g (I.f i) (wipeD σ vs) H fun σ2 H2 => tt σ2 H2 fun b H3 => (b = true → B σ2 acc H3 N) ∧ (b = false → N acc H3))
    (fin : P (acc0 ++ (List.range I.n).flatMap F) H) : dLp B g tt vs GG σ acc0 I H P := by
  refine ⟨fun i acc H' => H' = H ∧ acc = acc0 ++ (List.range i).flatMap F, ⟨rfl, (List.append_nil _).symm⟩, ?_, ?_, ?_⟩
  · rintro i acc H' _ ⟨rfl, _⟩; exact hG _
  · rintro i acc H' hi ⟨rfl, rfl⟩
    have := flat_le F (show i + 1 ≤ I.n from hi)
    rw [flat_snoc, List.length_append] at this
    exact h i (acc0 ++ (List.range i).flatMap F) (fun acc H4 => H4 = H' ∧ acc = acc0 ++ (List.range (i + 1)).flatMap F) hi (by rw [List.length_append]; omega) ⟨rfl, by rw [flat_snoc, List.append_assoc]⟩
  · rintro acc H' ⟨rfl, rfl⟩; exact fin
end
theorem flat_nth {α β : Type} (f : α → List β) (xs : List α) (g : Nat → List β) (h : ∀ i (hi : i < xs.length), g i = f xs[i]) : (List.range xs.length).flatMap g = xs.flatMap f := by
  have : ∀ n, n ≤ xs.length → (List.range n).flatMap g = (xs.take n).flatMap f := by
    intro n
    induction n with
    | zero => intro _; rfl
    | succ n ih =>
      intro hn
      rw [flat_snoc, ih (by omega), h n (by omega), List.take_succ, List.getElem?_eq_getElem (by omega), List.flatMap_append]
      simp
  have := this xs.length (Nat.le_refl _)
  rwa [List.take_length] at this
theorem log2_lt {n a : Nat} (h : n < 2 ^ a) (ha : 0 < a) : n.log2 < a := by
  by_cases e : n = 0
  · subst e; simpa using ha
  · exact (Nat.log2_lt e).mpr h
theorem cmulW_of {i j : Int} (a b : Nat) (hi : i.natAbs < 2 ^ a) (hj : j.natAbs < 2 ^ b) (h : a + b ≤ 1000000) (ha : 0 < a := by decide) (hb : 0 < b := by decide) : CMulW i j := by
  have h1 := log2_lt hi ha
  have h2 := log2_lt hj hb
  unfold CMulW; omega
theorem cdivW_of {i j : Int} (b : Nat) (h0 : 0 < j) (hj : j.natAbs < 2 ^ b) (h : b ≤ 9000) (hb : 0 < b := by decide) : CDivW i j := by
  have h2 := log2_lt hj hb
  unfold CDivW; omega
theorem le_sz (n : Nat) (h : n ≤ 1000) : n ≤ sizeLine := Nat.le_trans h (by decide +kernel)
theorem nth_ints {ns : List Int} {i : Nat} (h : i < ns.length) : ∃ n, nth (ns.map .int) i = .int n := by
  refine ⟨ns[i], ?_⟩
  unfold nth
  rw [List.getD_eq_getElem?_getD, List.getElem?_map, List.getElem?_eq_getElem h]; rfl
theorem cpow_of {i j : Int} (h : (decide (0 ≤ j) && decide (j ≤ 1000000) && decide (i.natAbs < 2 ^ 64)) = true) : CPow i j := by
  simp only [Bool.and_eq_true, decide_eq_true_eq] at h
  exact ⟨h.1.1, h.1.2, h.2⟩
theorem atI_mem {ds : List Dv} {i : Int} (h0 : 0 ≤ i) (h1 : i < ds.length) : ∃ d, atI ds i = some d ∧ d ∈ ds := by
  refine ⟨_, atI_nth h0 (by omega), ?_⟩
  exact List.mem_of_getElem? (nth_at (by omega))
theorem ix_any {L : List Dv} {r : Int} {H : DH} {Q : DVK} (h0 : 0 ≤ r) (h1 : r < (L.length : Int)) (q : ∀ d ∈ L, Q d H) : fIx (.lsv L) (.int r) H Q := by
  obtain ⟨d, e, m⟩ := atI_mem h0 h1
  exact ⟨d, e, q d m⟩
theorem cut_len {α : Type} (ds : List α) (lo hi : Option Int) : (cutD ds lo hi).length ≤ ds.length := by
  unfold cutD
  rw [List.length_take, List.length_drop]; omega
theorem log2_nat {n a : Nat} (h : n < 2 ^ a) (ha : 0 < a) : (n : Int).natAbs.log2 < a := by
  rw [Int.natAbs_natCast]; exact log2_lt h ha
theorem rd_ifH {c : DTT} {t v u : DTS} {D : DEnds} {σ : DS} {H : DH} (M1 M0 : DH → Prop) (h : ∀ Q : Bool → DH → Prop, (∀ H1, M1 H1 → Q true H1) → (∀ H1, M0 H1 → Q false H1) → c σ H Q) (h1 : ∀ H1, M1 H1 → t { D with nx := u D } σ H1) (h0 : ∀ H1, M0 H1 → v { D with nx := u D } σ H1) : dSeq (dIf c t v) u D σ H :=
  h _ (fun H1 m => ⟨fun _ => h1 H1 m, fun e => Bool.noConfusion e⟩) (fun H1 m => ⟨fun e => Bool.noConfusion e, fun _ => h0 H1 m⟩)
theorem log2_len {n : Nat} (h : n ≤ 1000000) : (n : Int).natAbs.log2 < 9000 := Nat.lt_of_lt_of_le (log2_nat (a := 20) (by omega) (by decide)) (by decide)
end DL

set_option maxHeartbeats 4000000
namespace DL
open PySem PySem.Spec L2
open PyProof.Rows hiding St
/-! ## data of all kinds: whole numbers below 2 ^ b, texts of plain signs, how long it is written, how deep -/
mutual
def okD (b : Nat) : Dv → Bool
  | .ref _ => false
  | .ty _ => false
  | .dcv ks ds => ks.isEmpty && ds.isEmpty
  | .tup ds => okDs b ds
  | .lsv ds => okDs b ds
  | .int i => decide (i.natAbs < 2 ^ b)
  | .str x => x.cps.toList.all (· < 128)
  | .bl _ => true
  | .non => true
def okDs (b : Nat) : List Dv → Bool
  | [] => true
  | d :: ds => okD b d && okDs b ds
end
mutual
def szD : Dv → Nat
  | .tup ds => 3 + szDs ds
  | .lsv ds => 3 + szDs ds
  | .int i => i.natAbs.log2 + 3
  | .str x => 10 * x.length + 2
  | .bl _ => 5
  | .non => 4
  | .dcv _ _ => 2
  | .ref _ => 0
  | .ty _ => 0
def szDs : List Dv → Nat
  | [] => 0
  | d :: ds => szD d + 2 + szDs ds
end
mutual
def dpD : Dv → Nat
  | .tup ds => dpDs ds + 1
  | .lsv ds => dpDs ds + 1
  | .dcv _ _ => 1
  | _ => 0
def dpDs : List Dv → Nat
  | [] => 0
  | d :: ds => max (dpD d) (dpDs ds)
end
def shD (d : Dv) : Str := match pyD d with
  | some p => p.shown
  | none => ""
theorem okDs_all {b : Nat} : ∀ {ds : List Dv}, okDs b ds = true ↔ ∀ d ∈ ds, okD b d = true
  | [] => by simp [okDs]
  | d :: ds => by rw [okDs, Bool.and_eq_true, okDs_all]; simp
theorem dpDs_le {n : Nat} : ∀ {ds : List Dv}, dpDs ds ≤ n ↔ ∀ d ∈ ds, dpD d ≤ n
  | [] => by simp [dpDs]
  | d :: ds => by rw [dpDs, Nat.max_le, dpDs_le]; simp
theorem szDs_append (xs ys : List Dv) : szDs (xs ++ ys) = szDs xs + szDs ys := by
  induction xs with
  | nil => simp [szDs]
  | cons x xs ih => simp only [List.cons_append, szDs, ih]; omega
theorem szDs_mem {ds : List Dv} {d : Dv} (h : d ∈ ds) : szD d + 2 ≤ szDs ds := by
  induction ds with
  | nil => cases h
  | cons x xs ih =>
    rw [szDs]
    rcases List.mem_cons.mp h with rfl | h
    · omega
    · have := ih h; omega
theorem szDs_len (ds : List Dv) : 2 * ds.length ≤ szDs ds := by
  induction ds with
  | nil => exact Nat.le_refl _
  | cons x xs ih => rw [szDs, List.length_cons]; omega
theorem szDs_sub {xs ys : List Dv} (h : xs.Sublist ys) : szDs xs ≤ szDs ys := by
  induction h with
  | slnil => exact Nat.le_refl _
  | cons a h ih => rw [szDs]; omega
  | cons_cons a h ih => rw [szDs, szDs]; omega
/-- data: ints below 2 ^ b, at most n deep, at most z long when written -/
structure Val (b n z : Nat) (d : Dv) : Prop where
  ok : okD b d = true
  dp : dpD d ≤ n
  sz : szD d ≤ z
structure Vals' (b n z : Nat) (ds : List Dv) : Prop where
  ok : ∀ d ∈ ds, okD b d = true
  dp : ∀ d ∈ ds, dpD d ≤ n
  sz : szDs ds ≤ z
theorem pow_le {b b' : Nat} (h : b ≤ b') : 2 ^ b ≤ 2 ^ b' := Nat.pow_le_pow_right (by decide) h
mutual
theorem okD_mono {b b' : Nat} (h : b ≤ b') : ∀ {d : Dv}, okD b d = true → okD b' d = true
  | .ref _, e => by cases e
  | .ty _, e => by cases e
  | .dcv _ _, e => e
  | .tup ds, e => by rw [okD] at e ⊢; exact okDs_mono h e
  | .lsv ds, e => by rw [okD] at e ⊢; exact okDs_mono h e
  | .int i, e => by rw [okD, decide_eq_true_eq] at e ⊢; exact Nat.lt_of_lt_of_le e (pow_le h)
  | .str _, e => e
  | .bl _, _ => rfl
  | .non, _ => rfl
theorem okDs_mono {b b' : Nat} (h : b ≤ b') : ∀ {ds : List Dv}, okDs b ds = true → okDs b' ds = true
  | [], _ => rfl
  | d :: ds, e => by
    rw [okDs, Bool.and_eq_true] at e ⊢
    exact ⟨okD_mono h e.1, okDs_mono h e.2⟩
end
section
variable {b b' n n' z z' : Nat} {d : Dv} {ds es : List Dv}
theorem Val.mono (h : Val b n z d) (hb : b ≤ b' := by omega) (hn : n ≤ n' := by omega) (hz : z ≤ z' := by omega) : Val b' n' z' d := ⟨okD_mono hb h.ok, Nat.le_trans h.dp hn, Nat.le_trans h.sz hz⟩
theorem Vals'.mono (h : Vals' b n z ds) (hb : b ≤ b' := by omega) (hn : n ≤ n' := by omega) (hz : z ≤ z' := by omega) : Vals' b' n' z' ds := ⟨fun d m => okD_mono hb (h.ok d m), fun d m => Nat.le_trans (h.dp d m) hn, Nat.le_trans h.sz hz⟩
theorem val_tup : Val b (n + 1) z (.tup ds) ↔ Vals' b n (z - 3) ds ∧ 3 ≤ z := by
  constructor
  · rintro ⟨h1, h2, h3⟩
    rw [okD, okDs_all] at h1
    rw [dpD] at h2
    rw [szD] at h3
    exact ⟨⟨h1, dpDs_le.mp (by omega), by omega⟩, by omega⟩
  · rintro ⟨⟨h1, h2, h3⟩, h4⟩
    exact ⟨by rw [okD, okDs_all]; exact h1, by rw [dpD]; have := dpDs_le.mpr h2; omega, by rw [szD]; omega⟩
theorem val_lsv : Val b (n + 1) z (.lsv ds) ↔ Vals' b n (z - 3) ds ∧ 3 ≤ z := by
  constructor
  · rintro ⟨h1, h2, h3⟩
    rw [okD, okDs_all] at h1
    rw [dpD] at h2
    rw [szD] at h3
    exact ⟨⟨h1, dpDs_le.mp (by omega), by omega⟩, by omega⟩
  · rintro ⟨⟨h1, h2, h3⟩, h4⟩
    exact ⟨by rw [okD, okDs_all]; exact h1, by rw [dpD]; have := dpDs_le.mpr h2; omega, by rw [szD]; omega⟩
theorem Vals'.tup (h : Vals' b n z ds) : Val b (n + 1) (z + 3) (.tup ds) := val_tup.mpr ⟨h.mono, by omega⟩
theorem Vals'.lsv (h : Vals' b n z ds) : Val b (n + 1) (z + 3) (.lsv ds) := val_lsv.mpr ⟨h.mono, by omega⟩
theorem Vals'.nil : Vals' b n 0 [] := ⟨(fun _ h => nomatch h), (fun _ h => nomatch h), Nat.le_refl _⟩
theorem Vals'.cons (h : Val b n z d) (h' : Vals' b n z' ds) : Vals' b n (z + 2 + z') (d :: ds) :=
  ⟨fun e m => (List.mem_cons.mp m).elim (fun q => q ▸ h.ok) (h'.ok e), fun e m => (List.mem_cons.mp m).elim (fun q => q ▸ h.dp) (h'.dp e), by rw [szDs]; have := h.sz; have := h'.sz; omega⟩
theorem Vals'.append (h : Vals' b n z ds) (h' : Vals' b n z' es) : Vals' b n (z + z') (ds ++ es) :=
  ⟨fun e m => (List.mem_append.mp m).elim (h.ok e) (h'.ok e), fun e m => (List.mem_append.mp m).elim (h.dp e) (h'.dp e), by rw [szDs_append]; have := h.sz; have := h'.sz; omega⟩
theorem Vals'.sub (h : Vals' b n z ds) (s : es.Sublist ds) : Vals' b n z es := ⟨fun e m => h.ok e (s.subset m), fun e m => h.dp e (s.subset m), Nat.le_trans (szDs_sub s) h.sz⟩
theorem Vals'.cut (h : Vals' b n z ds) (lo hi : Option Int) : Vals' b n z (cutD ds lo hi) := h.sub ((List.take_sublist _ _).trans (List.drop_sublist _ _))
theorem Vals'.mem (h : Vals' b n z ds) (m : d ∈ ds) : Val b n z d := ⟨h.ok d m, h.dp d m, by have := szDs_mem m; have := h.sz; omega⟩
theorem Vals'.one (h : Val b n z d) : Vals' b n (z + 2) [d] := Vals'.cons (z' := 0) h ⟨(fun _ h => nomatch h), (fun _ h => nomatch h), Nat.le_refl _⟩
theorem Vals'.len (h : Vals' b n z ds) : 2 * ds.length ≤ z := Nat.le_trans (szDs_len ds) h.sz
theorem Val.tups {n : Nat} (h : Val b n z (.tup ds)) : ∃ m, n = m + 1 ∧ Vals' b m (z - 3) ds ∧ 3 ≤ z := by
  cases n with
  | zero => have := h.dp; rw [dpD] at this; omega
  | succ m => exact ⟨m, rfl, val_tup.mp h⟩
theorem Val.lsvs {n : Nat} (h : Val b n z (.lsv ds)) : ∃ m, n = m + 1 ∧ Vals' b m (z - 3) ds ∧ 3 ≤ z := by
  cases n with
  | zero => have := h.dp; rw [dpD] at this; omega
  | succ m => exact ⟨m, rfl, val_lsv.mp h⟩
theorem Vals'.rep (h : Vals' b n z ds) : ∀ k : Nat, Vals' b n (z * k) (List.replicate k ds).flatten
  | 0 => (Vals'.nil : Vals' b n 0 [])
  | k + 1 => by
    rw [List.replicate_succ, List.flatten_cons]
    exact (h.append (h.rep k)).mono (hz := by rw [Nat.mul_succ]; omega)
theorem val_int {i : Int} (h : i.natAbs < 2 ^ b) (hb : 0 < b := by omega) : Val b n (b + 3) (.int i) := ⟨by rw [okD]; exact decide_eq_true h, Nat.zero_le _, by rw [szD]; have := PySem.Flt.log2_lt_of hb h; omega⟩
theorem val_str {x : Str} (h : x.cps.toList.all (· < 128) = true) : Val b n (10 * x.length + 2) (.str x) := ⟨h, Nat.zero_le _, Nat.le_refl _⟩
theorem val_bl {k : Bool} : Val b n 5 (.bl k) := ⟨rfl, Nat.zero_le _, Nat.le_refl _⟩
theorem val_non : Val b n 4 .non := ⟨rfl, Nat.zero_le _, Nat.le_refl _⟩
theorem val_dic : Val b (n + 1) 2 (.dcv [] []) := ⟨rfl, by rw [dpD]; omega, Nat.le_refl _⟩
end
/-! what repr writes of it -/
theorem join_len (ts : List Str) : (Str.join ", " ts).length ≤ piled ts := by
  by_cases h : ts = []
  · subst h; exact Nat.zero_le _
  · have := join_length_add ts h; omega
theorem tupleText_len (ts : List Str) : (tupleText ts).length ≤ piled ts + 3 := by
  unfold tupleText
  rw [strLen_append, strLen_append]
  have h := join_len ts
  have e : ((if ts.length == 1 then ",)" else ")" : String) : Str).length ≤ 2 := by split <;> decide
  have e2 : ((("(" : String) : Str)).length = 1 := rfl
  omega
theorem textFrom_le : ∀ (ts : List Str) (k : Nat) (acc : Str), (textFrom k acc ts).length ≤ acc.length + piled ts
  | [], k, acc => Nat.le_add_right _ _
  | t :: r, k, acc => by
    have ih := textFrom_le r (k + 1) (acc ++ (if k > 0 then ", " else "" : String) ++ t)
    rw [strLen_append, strLen_append] at ih
    have e : ((if k > 0 then ", " else "" : String) : Str).length ≤ 2 := by split <;> decide
    show (textFrom (k + 1) _ r).length ≤ _
    rw [piled_cons]
    omega
theorem listText_len (ts : List Str) : (listText ts).length ≤ piled ts + 3 := by
  unfold listText
  rw [strLen_append]
  have h := textFrom_le ts 0 "["
  have e : ((("[" : String) : Str)).length = 1 := rfl
  have e2 : ((("]" : String) : Str)).length = 1 := rfl
  omega
mutual
theorem shD_ok : ∀ {d : Dv}, okD 1900 d = true → ∃ p, pyD d = some p ∧ p.showable = true ∧ p.depth ≤ dpD d ∧ p.shown.length ≤ szD d
  | .non, _ => ⟨_, rfl, rfl, Nat.le_refl _, Nat.le_refl _⟩
  | .bl b, _ => ⟨_, rfl, rfl, Nat.le_refl _, by cases b <;> decide⟩
  | .int i, e => by
    rw [okD, decide_eq_true_eq] at e
    have h := PySem.Flt.log2_lt_of (by decide) e
    refine ⟨_, rfl, by rw [PyData.showable]; exact decide_eq_true (by omega), Nat.le_refl _, ?_⟩
    rw [PyData.shown, szD]
    have : (Str.ofString (toString i)).length ≤ i.natAbs.log2 + 3 := by
      rw [PySem.ofString_length]
      have := int_text_length_le (a := i) (k := i.natAbs.log2 + 1) (by omega) (by omega)
      omega
    exact this
  | .str x, e => by
    rw [okD, List.all_eq_true] at e
    refine ⟨_, rfl, rfl, Nat.le_refl _, ?_⟩
    rw [PyData.shown, szD]
    exact PySem.StrLaws.reprText_len x fun c hc => by have := of_decide_eq_true (e c hc); omega
  | .tup ds, e => by
    rw [okD] at e
    obtain ⟨ps, h1, h2, h3, h4⟩ := shDs_ok e
    refine ⟨.tuple ps, by rw [pyD, h1]; rfl, by rw [PyData.showable]; exact h2, by rw [PyData.depth, dpD]; omega, ?_⟩
    rw [PyData.shown, szD]
    have := tupleText_len (PyData.shownAll ps)
    omega
  | .lsv ds, e => by
    rw [okD] at e
    obtain ⟨ps, h1, h2, h3, h4⟩ := shDs_ok e
    refine ⟨.list ps, by rw [pyD, h1]; rfl, by rw [PyData.showable]; exact h2, by rw [PyData.depth, dpD]; omega, ?_⟩
    rw [PyData.shown, szD]
    have := listText_len (PyData.shownAll ps)
    omega
  | .dcv [] [], _ => ⟨.dict [], by rw [pyD], rfl, by rw [PyData.depth, dpD]; exact Nat.le_refl _, by decide⟩
  | .dcv (_ :: _) _, e => by simp [okD] at e
  | .dcv [] (_ :: _), e => by simp [okD] at e
  | .ref _, e => by cases e
  | .ty _, e => by cases e
theorem shDs_ok : ∀ {ds : List Dv}, okDs 1900 ds = true → ∃ ps, pyDs ds = some ps ∧ PyData.showableAll ps = true ∧ PyData.depthAll ps ≤ dpDs ds ∧ piled (PyData.shownAll ps) ≤ szDs ds
  | [], _ => ⟨[], by rw [pyDs], rfl, Nat.le_refl _, Nat.le_refl _⟩
  | d :: ds, e => by
    rw [okDs, Bool.and_eq_true] at e
    obtain ⟨p, a1, a2, a3, a4⟩ := shD_ok e.1
    obtain ⟨ps, b1, b2, b3, b4⟩ := shDs_ok e.2
    refine ⟨p :: ps, by rw [pyDs, a1, b1]; rfl, by rw [PyData.showableAll, a2, b2]; rfl, ?_, ?_⟩
    · rw [PyData.depthAll, dpDs]; exact Nat.max_le.mpr ⟨Nat.le_trans a3 (Nat.le_max_left _ _), Nat.le_trans b3 (Nat.le_max_right _ _)⟩
    · rw [PyData.shownAll, piled_cons, szDs]; omega
end
theorem repr_ok {b n z : Nat} {d : Dv} (h : Val b n z d) (hb : b ≤ 1900 := by omega) (hn : n ≤ 100 := by omega) (hz : z ≤ 16777216 := by omega) : ReprOk d (shD d) := by
  obtain ⟨p, h1, h2, h3, h4⟩ := shD_ok (okD_mono hb h.ok)
  refine ⟨p, h1, h2, Nat.le_trans h3 (Nat.le_trans h.dp hn), ?_, by unfold shD; rw [h1]⟩
  rw [sizeLine_eq]
  exact Nat.le_trans h4 (Nat.le_trans h.sz hz)
/-- of what one may ask the kind -/
def okI : Dv → Bool
  | .ref _ => false
  | .ty _ => false
  | _ => true
theorem okK_ofI {d : Dv} {H : DH} (h : okI d = true) : okK d H := by cases d <;> first | trivial | cases h
theorem okI_of {b : Nat} {d : Dv} (h : okD b d = true) : okI d = true := by cases d <;> first | rfl | cases h
end DL

set_option maxHeartbeats 4000000
namespace DL
open PySem PySem.Spec L2
open PyProof.Rows hiding St
/-! # the promises -/
def isWhole : Dv → Bool
  | .int _ => true
  | _ => false
def wIn (d : Dv) (lo hi : Int) : Bool := match d with
  | .int i => decide (lo ≤ i) && decide (i ≤ hi)
  | _ => false
def letB (d : Dv) : Bool := match d with
  | .int i => decide (-20 ≤ i) && decide (i ≤ 20) && decide (i ≠ 0)
  | _ => false
def gt1 (d : Dv) : Bool := match d with
  | .int i => decide (1 < i)
  | _ => false
def ruleB (d : Dv) (k : Int) : Bool := match d with
  | .tup [.str s] => s == "none"
  | .tup [.str s, x] => s == "letter" && letB x
  | .tup [.str s, x, y] => wIn x 0 (k - 1) && ((s == "pair" && wIn y 0 (k - 1)) || (s == "power" && gt1 y))
  | _ => false
/-- rules from place i on -/
def rulesB : List Dv → Int → Bool
  | [], _ => true
  | d :: ds, k => ruleB d k && rulesB ds (k + 1)
def strB (d : Dv) : Bool := match d with
  | .tup ds => decide (1 ≤ ds.length) && decide (ds.length ≤ 4000) && rulesB ds 0
  | _ => false
def sp_is_int : DSp := fun ds H Q => ∃ d, ds = [d] ∧ okS d = true ∧ Q (.bl (isWhole d)) H
def sp_within : DSp := fun ds H Q => ∃ d lo hi, ds = [d, .int lo, .int hi] ∧ okS d = true ∧ Q (.bl (wIn d lo hi)) H
def rowB (d : Dv) (lo hi : Int) : Bool := match d with
  | .tup xs => decide (lo ≤ (xs.length : Int)) && decide ((xs.length : Int) ≤ hi)
  | _ => false
def sp_is_row : DSp := fun ds H Q => ∃ d lo hi, ds = [d, .int lo, .int hi] ∧ okS d = true ∧ Q (.bl (rowB d lo hi)) H
def sp_is_letter : DSp := fun ds H Q => ∃ d, ds = [d] ∧ okS d = true ∧ Q (.bl (letB d)) H
def sp_is_rule : DSp := fun ds H Q => ∃ d k, ds = [d, .int k] ∧ pureD d = true ∧ Q (.bl (ruleB d k)) H
def sp_is_straight : DSp := fun ds H Q => ∃ d, ds = [d] ∧ pureD d = true ∧ Q (.bl (strB d)) H
def sp__law_is_whole : DSp := sp_is_int
def sp__law_is_straight : DSp := sp_is_straight
/-- the cup c holds n sips still -/
def CupAt (c : Addr) (n : Nat) (H : DH) : Prop := ∃ (d b k : Int) (l : Addr) (ns : List Int), H c = some (.lst [.int d, .int b, .int k, .ref l]) ∧ H l = some (.lst (ns.map .int)) ∧ c ≠ l ∧ 0 ≤ d ∧ 0 ≤ b ∧ b < 2 ^ 40 ∧ 0 ≤ k ∧ k + n < 2 ^ 60
/-- from H to H' only the cup c may have changed, n sips are left -/
def CupTo (c : Addr) (n : Nat) (H H' : DH) : Prop := CupAt c n H' ∧ ∃ l, (∃ d b k, H c = some (.lst [d, b, k, .ref l])) ∧ (∃ d b k, H' c = some (.lst [d, b, k, .ref l])) ∧ ∀ a, a ≠ c → a ≠ l → H' a = H a
def sp__law_cup : DSp := fun ds H Q => ∃ ns : List Int, ds = [.lsv (ns.map .int)] ∧ ns.length ≤ sizeLine ∧ ∀ c H', H c = none → CupAt c (2 ^ 50) H' → (∀ a, H a ≠ none → H' a = H a) → Q (.ref c) H'
def sp__law_sip : DSp := fun ds H Q => ∃ c m n, ds = [.ref c, .int m] ∧ 0 < m ∧ m.natAbs.log2 < 9000 ∧ CupAt c (n + 1) H ∧ ∀ r H', 0 ≤ r → r < m → CupTo c n H H' → Q (.int r) H'
/-- a rule of a straight text -/
inductive Rl where
  | non
  | lt (a : Int)
  | pr (i j : Nat)
  | pw (i : Nat) (k : Int)
def Rl.D : Rl → Dv
  | .non => .tup [.str "none"]
  | .lt a => .tup [.str "letter", .int a]
  | .pr i j => .tup [.str "pair", .int (i : Nat), .int (j : Nat)]
  | .pw i k => .tup [.str "power", .int (i : Nat), .int k]
/-- the rule at place n, with the sizes so far -/
def Rl.ok (n : Nat) : Rl → Prop
  | .non => True
  | .lt a => -20 ≤ a ∧ a ≤ 20 ∧ a ≠ 0
  | .pr i j => i < n ∧ j < n
  | .pw i k => i < n ∧ 2 ≤ k ∧ k < 2 ^ 70
def Rl.sz (ss : List Int) : Rl → Int
  | .non => 0
  | .lt _ => 1
  | .pr i j => ss.getD i 0 + ss.getD j 0
  | .pw i k => ss.getD i 0 * k
/-- a straight text, and the lengths of what its rules stand for -/
def TextOk (rs : List Rl) (ss : List Int) (cap : Int) : Prop := rs.length = ss.length ∧ ∀ n r, rs[n]? = some r → r.ok n ∧ ss.getD n 0 = r.sz ss ∧ 0 ≤ ss.getD n 0 ∧ (ss.getD n 0 ≤ cap ∨ ss.getD n 0 ≤ 1)
def sp__law_text : DSp := fun ds H Q => ∃ c many cap n, ds = [.ref c, .int (many : Nat), .int cap] ∧ 0 < many ∧ many ≤ 100000 ∧ cap < 2 ^ 1000 ∧ CupAt c (n + (2 + 9 * many)) H ∧ ∀ rs ss H', TextOk rs ss cap → 1 ≤ rs.length → rs.length ≤ many → CupTo c n H H' → Q (.tup (rs.map Rl.D)) H'
end DL

set_option maxHeartbeats 4000000
namespace DL
open PySem PySem.Spec L2
open PyProof.Rows hiding St
/-! # kinds and trees: the promises -/
abbrev VD (d : Dv) : Prop := Val 1900 90 16000000 d
def loC (c : Nat) : Bool := decide (97 ≤ c) && decide (c ≤ 122)
def upC (c : Nat) : Bool := decide (65 ≤ c) && decide (c ≤ 90)
def dgC (c : Nat) : Bool := decide (48 ≤ c) && decide (c ≤ 57)
def runC (c : Nat) : Bool := loC c || upC c || dgC c
/-- the signs of a text -/
abbrev sg (x : Str) : List Nat := x.cps.toList
def dkS (x : Str) : Bool := decide (1 ≤ x.length) && decide (x.length ≤ 10) && !dgC ((sg x).headD 0) && (sg x).all runC
def hiS (x : Str) : Bool := decide (1 ≤ x.length) && decide (x.length ≤ 10) && upC ((sg x).headD 0) && (sg x).all runC
def loS (x : Str) : Bool := decide (1 ≤ x.length) && decide (x.length ≤ 10) && loC ((sg x).headD 0) && (sg x).all runC
def dkD (d : Dv) : Bool := match d with
  | .str x => dkS x
  | _ => false
def hiD (d : Dv) : Bool := match d with
  | .str x => hiS x
  | _ => false
/-! ## kinds -/
abbrev Mk := Str × List Str
abbrev Knd := Str × List Mk
abbrev Knds := List Knd
def mkD (m : Mk) : Dv := .tup [.str m.1, .tup (m.2.map .str)]
def kdD (k : Knd) : Dv := .tup [.str k.1, .tup (k.2.map mkD)]
def ksD (ks : Knds) : Dv := .tup (ks.map kdD)
/-- as it should be built, the names too -/
def fmM (d : Dv) : Bool := match d with
  | .tup [a, .tup fs] => hiD a && decide (fs.length ≤ 4) && fs.all hiD
  | _ => false
def fmK (d : Dv) : Bool := match d with
  | .tup [a, .tup ms] => hiD a && decide (1 ≤ ms.length) && decide (ms.length ≤ 8) && ms.all fmM
  | _ => false
def formB (d : Dv) : Bool := match d with
  | .tup ks => decide (1 ≤ ks.length) && decide (ks.length ≤ 60) && ks.all fmK
  | _ => false
def strOf (d : Dv) : Str := match d with
  | .str x => x
  | _ => ""
def itemsOf (d : Dv) : List Dv := match d with
  | .tup ds => ds
  | _ => []
/-- read again -/
def rdM (d : Dv) : Mk := (strOf (nth (itemsOf d) 0), (itemsOf (nth (itemsOf d) 1)).map strOf)
def rdK (d : Dv) : Knd := (strOf (nth (itemsOf d) 0), (itemsOf (nth (itemsOf d) 1)).map rdM)
def rdKs (d : Dv) : Knds := (itemsOf d).map rdK
abbrev nmsK (ks : Knds) : List Str := ks.map (·.1)
abbrev mksK (ks : Knds) : List Str := ks.flatMap fun k => k.2.map (·.1)
abbrev fdsK (ks : Knds) : List Str := ks.flatMap fun k => k.2.flatMap (·.2)
/-- the kind a has a tree that is at most n deep -/
def prodK (ks : Knds) : Nat → Str → Bool
  | 0, _ => false
  | n + 1, a => ks.any fun k => decide (k.1 = a) && k.2.any fun m => m.2.all (prodK ks n)
def goodK (ks : Knds) : Bool := formB (ksD ks) && decide (nmsK ks).Nodup && decide (mksK ks).Nodup && (fdsK ks).all (fun f => decide (f ∈ nmsK ks)) && (nmsK ks).all (prodK ks ks.length)
def kindsB (d : Dv) : Bool := formB d && goodK (rdKs d)
/-- the place of a kind -/
def kIx (ks : Knds) (d : Dv) : Option Nat := match d with
  | .str x => (nmsK ks).findIdx? (fun n => decide (n = x))
  | _ => none
def sq_is_int : DSp := fun ds H Q => ∃ d, ds = [d] ∧ okI d = true ∧ Q (.bl (isWhole d)) H
def sq_within : DSp := fun ds H Q => ∃ d lo hi, ds = [d, .int lo, .int hi] ∧ okI d = true ∧ Q (.bl (wIn d lo hi)) H
def sq_is_row : DSp := fun ds H Q => ∃ d lo hi, ds = [d, .int lo, .int hi] ∧ okI d = true ∧ Q (.bl (rowB d lo hi)) H
def sp_in_run : DSp := fun ds H Q => ∃ c, ds = [.str (sgn c)] ∧ Q (.bl (runC c)) H
def sp_is_desk_name : DSp := fun ds H Q => ∃ d, ds = [d] ∧ VD d ∧ Q (.bl (dkD d)) H
def sp_is_high : DSp := fun ds H Q => ∃ d, ds = [d] ∧ VD d ∧ Q (.bl (hiD d)) H
def sp_all_different : DSp := fun ds H Q => ∃ xs : List Str, ds = [.lsv (xs.map .str)] ∧ xs.length ≤ 4000 ∧ Q (.bl (decide xs.Nodup)) H
def sp_has_form : DSp := fun ds H Q => ∃ d, ds = [d] ∧ VD d ∧ Q (.bl (formB d)) H
/-- the kinds with trees, as keys of a dict -/
def sp_with_trees : DSp := fun ds H Q => ∃ ks, ds = [ksD ks] ∧ formB (ksD ks) = true ∧ ∀ xs : List Str, xs.Nodup → (∀ a, a ∈ xs ↔ a ∈ nmsK ks ∧ ∃ n, prodK ks n a = true) → Q (.dcv (xs.map .inr) (xs.map fun _ => .bl true)) H
def sp_is_kinds : DSp := fun ds H Q => ∃ d, ds = [d] ∧ VD d ∧ Q (.bl (kindsB d)) H
def sp_kind_index : DSp := fun ds H Q => ∃ ks d, ds = [ksD ks, d] ∧ okI d = true ∧ Q (match kIx ks d with | some i => .int (i : Nat) | none => .non) H
def sp_need_kinds : DSpX := fun ds H Q E => ∃ d, ds = [d] ∧ VD d ∧ (kindsB d = true → Q .non H) ∧ (kindsB d = false → E "BadKinds" [] H)
def sp_need_kind : DSpX := fun ds H Q E => ∃ ks d, ds = [ksD ks, d] ∧ okI d = true ∧ (∀ i, kIx ks d = some i → Q (.int (i : Nat)) H) ∧ (kIx ks d = none → E "BadKind" [] H)
end DL

set_option maxHeartbeats 4000000
namespace DL
open PySem PySem.Spec L2
open PyProof.Rows hiding St
/-! # lemmas on kinds, no program in sight -/
theorem nodup_len {α : Type} [DecidableEq α] : ∀ {xs ys : List α}, xs.Nodup → (∀ x ∈ xs, x ∈ ys) → xs.length ≤ ys.length
  | [], _, _, _ => Nat.zero_le _
  | x :: xs, ys, h, s => by
    have h1 := List.nodup_cons.mp h
    have m : x ∈ ys := s x List.mem_cons_self
    have : xs.length ≤ (ys.erase x).length := nodup_len h1.2 fun y hy => (List.mem_erase_of_ne (fun e => h1.1 (by rw [← e]; exact hy))).mpr (s y (List.mem_cons_of_mem _ hy))
    rw [List.length_erase_of_mem m] at this
    have l := List.length_pos_of_mem m
    rw [List.length_cons]
    omega
theorem prodK_succ {ks : Knds} {n : Nat} {a : Str} : prodK ks (n + 1) a = true ↔ ∃ k ∈ ks, k.1 = a ∧ ∃ m ∈ k.2, ∀ f ∈ m.2, prodK ks n f = true := by
  rw [prodK]
  simp only [List.any_eq_true, Bool.and_eq_true, decide_eq_true_eq, List.all_eq_true]
theorem prodK_names {ks : Knds} {n : Nat} {a : Str} (h : prodK ks n a = true) : a ∈ nmsK ks := by
  cases n with
  | zero => cases h
  | succ n =>
    obtain ⟨k, hk, e, _⟩ := prodK_succ.mp h
    exact List.mem_map.mpr ⟨k, hk, e⟩
theorem prodK_mono {ks : Knds} : ∀ {n : Nat} {a : Str}, prodK ks n a = true → prodK ks (n + 1) a = true
  | 0, a, h => by cases h
  | n + 1, a, h => by
    obtain ⟨k, hk, e, m, hm, hf⟩ := prodK_succ.mp h
    exact prodK_succ.mpr ⟨k, hk, e, m, hm, fun f q => prodK_mono (hf f q)⟩
theorem prodK_le {ks : Knds} {n m : Nat} {a : Str} (h : prodK ks n a = true) (l : n ≤ m) : prodK ks m a = true := by
  obtain ⟨d, rfl⟩ := Nat.exists_eq_add_of_le l
  induction d with
  | zero => exact h
  | succ d ih => exact prodK_mono (ih (Nat.le_add_right _ _))
theorem prodK_stay {ks : Knds} {n : Nat} (h : prodK ks n = prodK ks (n + 1)) : ∀ d, prodK ks (n + d) = prodK ks n
  | 0 => rfl
  | d + 1 => by
    have ih := prodK_stay h d
    have : prodK ks (n + d + 1) = prodK ks (n + 1) := by
      funext a
      show prodK ks (n + d + 1) a = prodK ks (n + 1) a
      rw [prodK, prodK, ih]
    rw [← Nat.add_assoc, this, ← h]
theorem countP_lt {α : Type} {p q : α → Bool} : ∀ {l : List α}, (∀ a ∈ l, p a = true → q a = true) → (∃ a ∈ l, p a = false ∧ q a = true) → l.countP p < l.countP q
  | [], _, ⟨a, m, _⟩ => nomatch m
  | x :: l, h, ⟨a, m, h1, h2⟩ => by
    have le : l.countP p ≤ l.countP q := List.countP_mono_left fun a m e => h a (List.mem_cons_of_mem _ m) e
    rw [List.countP_cons, List.countP_cons]
    rcases List.mem_cons.mp m with rfl | m
    · rw [h1, h2]; simp; omega
    · have := countP_lt (fun a m => h a (List.mem_cons_of_mem _ m)) ⟨a, m, h1, h2⟩
      have hx := h x List.mem_cons_self
      cases e : p x with
      | false => simp; omega
      | true => rw [hx e]; simp; omega
theorem prodK_count (ks : Knds) : ∀ n, (∃ m, m ≤ n ∧ prodK ks m = prodK ks (m + 1)) ∨ n ≤ (nmsK ks).countP (prodK ks n)
  | 0 => .inr (Nat.zero_le _)
  | n + 1 => by
    rcases prodK_count ks n with ⟨m, l, e⟩ | h
    · exact .inl ⟨m, by omega, e⟩
    · by_cases e : prodK ks n = prodK ks (n + 1)
      · exact .inl ⟨n, by omega, e⟩
      · refine .inr ?_
        have : ∃ a, prodK ks n a ≠ prodK ks (n + 1) a := by
          apply Classical.byContradiction
          intro z
          exact e (funext fun a => Classical.byContradiction fun q => z ⟨a, q⟩)
        obtain ⟨a, ha⟩ := this
        have h1 : prodK ks n a = false := by
          cases e1 : prodK ks n a with
          | false => rfl
          | true => rw [e1, prodK_mono e1] at ha; exact absurd rfl ha
        have h2 : prodK ks (n + 1) a = true := by
          cases e1 : prodK ks (n + 1) a with
          | true => rfl
          | false => rw [h1, e1] at ha; exact absurd rfl ha
        have := countP_lt (p := prodK ks n) (q := prodK ks (n + 1)) (l := nmsK ks) (fun a _ => prodK_mono) ⟨a, prodK_names h2, h1, h2⟩
        omega
theorem countP_all {α : Type} {p : α → Bool} : ∀ {l : List α}, l.length ≤ l.countP p → ∀ a ∈ l, p a = true
  | [], _, _, m => nomatch m
  | x :: l, h, a, m => by
    have le := List.countP_le_length (p := p) (l := l)
    rw [List.countP_cons, List.length_cons] at h
    have hx : p x = true := by
      cases e : p x with
      | true => rfl
      | false => rw [e] at h; simp at h; omega
    rcases List.mem_cons.mp m with rfl | m
    · exact hx
    · exact countP_all (by rw [hx] at h; simp at h; omega) a m
/-- what is not productive after as many rounds as there are kinds never is -/
theorem prodK_stop {ks : Knds} {n : Nat} {a : Str} (h : prodK ks n a = true) : prodK ks ks.length a = true := by
  rcases prodK_count ks ks.length with ⟨m, l, e⟩ | c
  · by_cases hn : n ≤ ks.length
    · exact prodK_le h hn
    · have e1 := prodK_stay e (n - m)
      have e2 := prodK_stay e (ks.length - m)
      rw [show m + (n - m) = n by omega] at e1
      rw [show m + (ks.length - m) = ks.length by omega] at e2
      rw [e2, ← e1]; exact h
  · have : (nmsK ks).length ≤ (nmsK ks).countP (prodK ks ks.length) := by rw [List.length_map]; exact c
    exact countP_all this a (prodK_names h)
/-- a set of kinds to which nothing can be added holds all kinds with trees -/
theorem prodK_closed {ks : Knds} {xs : List Str} (h : ∀ k ∈ ks, k.1 ∉ xs → ∀ m ∈ k.2, ∃ f ∈ m.2, f ∉ xs) : ∀ {n : Nat} {a : Str}, prodK ks n a = true → a ∈ xs
  | 0, _, e => by cases e
  | n + 1, a, e => by
    obtain ⟨k, hk, rfl, m, hm, hf⟩ := prodK_succ.mp e
    apply Classical.byContradiction
    intro z
    obtain ⟨f, q1, q2⟩ := h k hk z m hm
    exact q2 (prodK_closed h (hf f q1))
/-! ## the form -/
structure FormK (ks : Knds) : Prop where
  l1 : 1 ≤ ks.length
  l2 : ks.length ≤ 60
  hi : ∀ k ∈ ks, hiS k.1 = true
  m1 : ∀ k ∈ ks, 1 ≤ k.2.length
  m2 : ∀ k ∈ ks, k.2.length ≤ 8
  mh : ∀ k ∈ ks, ∀ m ∈ k.2, hiS m.1 = true
  f4 : ∀ k ∈ ks, ∀ m ∈ k.2, m.2.length ≤ 4
  fh : ∀ k ∈ ks, ∀ m ∈ k.2, ∀ f ∈ m.2, hiS f = true
theorem hiD_iff {d : Dv} : hiD d = true ↔ d = .str (strOf d) ∧ hiS (strOf d) = true := by
  cases d <;> simp [hiD, strOf]
theorem map_strOf {fs : List Dv} (h : fs.all hiD = true) : (fs.map strOf).map .str = fs := by
  rw [List.map_map]
  conv => rhs; rw [← List.map_id fs]
  exact List.map_congr_left fun d m => (hiD_iff.mp (List.all_eq_true.mp h d m)).1.symm
theorem fmM_iff {d : Dv} : fmM d = true ↔ d = mkD (rdM d) ∧ hiS (rdM d).1 = true ∧ (rdM d).2.length ≤ 4 ∧ ∀ f ∈ (rdM d).2, hiS f = true := by
  constructor
  · intro h
    unfold fmM at h
    split at h
    · rename_i a fs
      simp only [Bool.and_eq_true, decide_eq_true_eq] at h
      have ha := hiD_iff.mp h.1.1
      have e : rdM (.tup [a, .tup fs]) = (strOf a, fs.map strOf) := rfl
      rw [e]
      refine ⟨?_, ha.2, by rw [List.length_map]; exact h.1.2, fun f m => ?_⟩
      · unfold mkD
        rw [map_strOf h.2, ← ha.1]
      · obtain ⟨d, md, rfl⟩ := List.mem_map.mp m
        exact (hiD_iff.mp (List.all_eq_true.mp h.2 d md)).2
    · cases h
  · rintro ⟨e, h1, h2, h3⟩
    rw [e]
    unfold mkD fmM
    simp only [Bool.and_eq_true, decide_eq_true_eq, List.length_map]
    refine ⟨⟨h1, h2⟩, List.all_eq_true.mpr fun d m => ?_⟩
    obtain ⟨f, mf, rfl⟩ := List.mem_map.mp m
    exact h3 f mf
theorem map_back {α : Type} {p : Dv → Bool} {r : Dv → α} {w : α → Dv} {ds : List Dv} (h : ds.all p = true) (e : ∀ d, p d = true → d = w (r d)) : (ds.map r).map w = ds := by
  rw [List.map_map]
  conv => rhs; rw [← List.map_id ds]
  exact List.map_congr_left fun d m => (e d (List.all_eq_true.mp h d m)).symm
theorem fmK_iff {d : Dv} : fmK d = true ↔ d = kdD (rdK d) ∧ hiS (rdK d).1 = true ∧ 1 ≤ (rdK d).2.length ∧ (rdK d).2.length ≤ 8 ∧ ∀ m ∈ (rdK d).2, hiS m.1 = true ∧ m.2.length ≤ 4 ∧ ∀ f ∈ m.2, hiS f = true := by
  constructor
  · intro h
    unfold fmK at h
    split at h
    · rename_i a ms
      simp only [Bool.and_eq_true, decide_eq_true_eq] at h
      have ha := hiD_iff.mp h.1.1.1
      have e : rdK (.tup [a, .tup ms]) = (strOf a, ms.map rdM) := rfl
      rw [e]
      refine ⟨?_, ha.2, by rw [List.length_map]; exact h.1.1.2, by rw [List.length_map]; exact h.1.2, fun m hm => ?_⟩
      · unfold kdD
        rw [map_back h.2 fun d q => (fmM_iff.mp q).1, ← ha.1]
      · obtain ⟨d, md, rfl⟩ := List.mem_map.mp hm
        exact (fmM_iff.mp (List.all_eq_true.mp h.2 d md)).2
    · cases h
  · rintro ⟨e, h1, h2, h3, h4⟩
    rw [e]
    generalize rdK d = k at *
    unfold kdD fmK
    simp only [Bool.and_eq_true, decide_eq_true_eq, List.length_map]
    refine ⟨⟨⟨h1, h2⟩, h3⟩, List.all_eq_true.mpr fun d m => ?_⟩
    obtain ⟨f, mf, rfl⟩ := List.mem_map.mp m
    have r : rdM (mkD f) = f := by
      obtain ⟨f1, f2⟩ := f
      show (f1, (f2.map Dv.str).map strOf) = _
      rw [List.map_map]
      have : (strOf ∘ Dv.str) = id := rfl
      rw [this, List.map_id]
    rw [fmM_iff, r]
    exact ⟨rfl, h4 f mf⟩
theorem rdM_mkD (f : Mk) : rdM (mkD f) = f := by
  obtain ⟨f1, f2⟩ := f
  show (f1, (f2.map Dv.str).map strOf) = _
  rw [List.map_map]
  have : (strOf ∘ Dv.str) = id := rfl
  rw [this, List.map_id]
theorem rdK_kdD (k : Knd) : rdK (kdD k) = k := by
  obtain ⟨k1, k2⟩ := k
  show (k1, (k2.map mkD).map rdM) = _
  rw [List.map_map]
  have : (rdM ∘ mkD) = id := funext rdM_mkD
  rw [this, List.map_id]
theorem rdKs_ksD (ks : Knds) : rdKs (ksD ks) = ks := by
  show (ks.map kdD).map rdK = ks
  rw [List.map_map]
  have : (rdK ∘ kdD) = id := funext rdK_kdD
  rw [this, List.map_id]
theorem formB_form {d : Dv} (h : formB d = true) : d = ksD (rdKs d) ∧ FormK (rdKs d) := by
  unfold formB at h
  split at h
  · rename_i xs
    simp only [Bool.and_eq_true, decide_eq_true_eq] at h
    have e : rdKs (.tup xs) = xs.map rdK := rfl
    have get : ∀ k ∈ xs.map rdK, hiS k.1 = true ∧ 1 ≤ k.2.length ∧ k.2.length ≤ 8 ∧ ∀ m ∈ k.2, hiS m.1 = true ∧ m.2.length ≤ 4 ∧ ∀ f ∈ m.2, hiS f = true := fun k hk => by
      obtain ⟨d, md, rfl⟩ := List.mem_map.mp hk
      exact (fmK_iff.mp (List.all_eq_true.mp h.2 d md)).2
    rw [e]
    refine ⟨?_, by rw [List.length_map]; exact h.1.1, by rw [List.length_map]; exact h.1.2, fun k hk => (get k hk).1, fun k hk => (get k hk).2.1, fun k hk => (get k hk).2.2.1, fun k hk m hm => ((get k hk).2.2.2 m hm).1, fun k hk m hm => ((get k hk).2.2.2 m hm).2.1, fun k hk m hm => ((get k hk).2.2.2 m hm).2.2⟩
    unfold ksD
    rw [map_back h.2 fun d q => (fmK_iff.mp q).1]
  · cases h
theorem form_formB {ks : Knds} (h : FormK ks) : formB (ksD ks) = true := by
  unfold ksD formB
  simp only [Bool.and_eq_true, decide_eq_true_eq, List.length_map]
  refine ⟨⟨h.l1, h.l2⟩, List.all_eq_true.mpr fun d m => ?_⟩
  obtain ⟨k, mk, rfl⟩ := List.mem_map.mp m
  rw [fmK_iff, rdK_kdD]
  exact ⟨rfl, h.hi k mk, h.m1 k mk, h.m2 k mk, fun m hm => ⟨h.mh k mk m hm, h.f4 k mk m hm, h.fh k mk m hm⟩⟩
theorem formB_ksD {ks : Knds} : formB (ksD ks) = true ↔ FormK ks := ⟨fun h => by have := (formB_form h).2; rwa [rdKs_ksD] at this, form_formB⟩
theorem kindsB_ksD (ks : Knds) : kindsB (ksD ks) = goodK ks := by
  unfold kindsB
  rw [rdKs_ksD]
  cases e : formB (ksD ks) with
  | true => simp
  | false => unfold goodK; rw [e]; rfl
/-- what good kinds are -/
structure GoodK (ks : Knds) : Prop extends FormK ks where
  nd : (nmsK ks).Nodup
  md : (mksK ks).Nodup
  fin : ∀ f ∈ fdsK ks, f ∈ nmsK ks
  prod : ∀ a ∈ nmsK ks, prodK ks ks.length a = true
theorem goodK_iff {ks : Knds} : goodK ks = true ↔ GoodK ks := by
  unfold goodK
  simp only [Bool.and_eq_true, decide_eq_true_eq, List.all_eq_true, formB_ksD]
  exact ⟨fun ⟨⟨⟨⟨a, b⟩, c⟩, d⟩, e⟩ => ⟨a, b, c, d, e⟩, fun ⟨a, b, c, d, e⟩ => ⟨⟨⟨⟨a, b⟩, c⟩, d⟩, e⟩⟩
theorem mem_mks {ks : Knds} {a : Str} : a ∈ mksK ks ↔ ∃ k ∈ ks, ∃ m ∈ k.2, m.1 = a := by
  simp only [mksK, List.mem_flatMap, List.mem_map]
theorem mem_fds {ks : Knds} {a : Str} : a ∈ fdsK ks ↔ ∃ k ∈ ks, ∃ m ∈ k.2, a ∈ m.2 := by
  simp only [fdsK, List.mem_flatMap]
end DL
namespace DL
open PySem PySem.Spec L2
open PyProof.Rows hiding St
theorem fewer {α : Type} [DecidableEq α] : ∀ {ys : List α}, ¬ ys.Nodup → ∃ zs : List α, zs.length < ys.length ∧ ∀ a ∈ ys, a ∈ zs
  | [], h => absurd List.nodup_nil h
  | y :: ys, h => by
    by_cases m : y ∈ ys
    · exact ⟨ys, by simp, fun a ma => (List.mem_cons.mp ma).elim (fun e => e ▸ m) id⟩
    · obtain ⟨zs, l, s⟩ := fewer (ys := ys) fun z => h (List.nodup_cons.mpr ⟨m, z⟩)
      exact ⟨y :: zs, by simp; omega, fun a ma => (List.mem_cons.mp ma).elim (fun e => e ▸ List.mem_cons_self) fun ma => List.mem_cons_of_mem _ (s a ma)⟩
theorem nodup_lt {α : Type} [DecidableEq α] {xs ys : List α} (h : xs.Nodup) (s : ∀ a, a ∈ xs ↔ a ∈ ys) : xs.length < ys.length ↔ ¬ ys.Nodup := by
  constructor
  · intro l n
    have := nodup_len n fun a m => (s a).mpr m
    omega
  · intro n
    obtain ⟨zs, l, t⟩ := fewer n
    have := nodup_len h fun a m => t a ((s a).mp m)
    omega
theorem nodup_eq {α : Type} [DecidableEq α] {xs ys : List α} (h : xs.Nodup) (n : ys.Nodup) (s : ∀ a ∈ xs, a ∈ ys) : xs.length = ys.length ↔ ∀ a ∈ ys, a ∈ xs := by
  constructor
  · intro e a m
    apply Classical.byContradiction
    intro z
    have := nodup_len (xs := a :: xs) (ys := ys) (List.nodup_cons.mpr ⟨z, h⟩) fun b mb => (List.mem_cons.mp mb).elim (fun e => e ▸ m) (s b)
    simp at this; omega
  · intro t
    have := nodup_len h s
    have := nodup_len n t
    omega
end DL

set_option maxHeartbeats 4000000
namespace DL
open PySem PySem.Spec L2
open PyProof.Rows hiding St
/-! # k21's own promises -/
/-- a door that opens for kinds only, then finds a wrong second thing -/
def sq_is_tree : DSpX := fun ds H Q E => ∃ d, ds = [d, .int 0, .tup []] ∧ VD d ∧ (kindsB d = true → E "BadKind" [] H) ∧ (kindsB d = false → E "BadKinds" [] H)
def sq_rows_of : DSpX := sq_is_tree
def sq_compare_trees : DSpX := fun ds H Q E => ∃ d, ds = [d, .tup [], .tup []] ∧ VD d ∧ (kindsB d = true → E "BadRows" [] H) ∧ (kindsB d = false → E "BadKinds" [] H)
def sq_tree_size : DSpX := fun ds H Q E => ∃ d, ds = [d, .tup []] ∧ VD d ∧ (kindsB d = true → E "BadRows" [] H) ∧ (kindsB d = false → E "BadKinds" [] H)
def sq_listing_of : DSpX := sq_tree_size
def sq_is_rows : DSpX := fun ds H Q E => ∃ d, ds = [d, .tup []] ∧ VD d ∧ (kindsB d = true → Q (.bl false) H) ∧ (kindsB d = false → E "BadKinds" [] H)
def sq_fit_rows : DSp := fun ds H Q => ∃ d, ds = [d, .tup []] ∧ Q (.bl false) H
def sq_need_rows : DSpX := fun ds H Q E => ∃ d, ds = [d, .tup []] ∧ E "BadRows" [] H
/-! the law's own defs -/
/-- the well c with the list l holds n draws still -/
def WellAt (c l : Addr) (n : Nat) (H : DH) : Prop := ∃ (b k : Int) (ns : List Int), H c = some (.lst [.ref l, .int b, .int k]) ∧ H l = some (.lst (ns.map .int)) ∧ c ≠ l ∧ 0 ≤ b ∧ b < 2 ^ 40 ∧ 0 ≤ k ∧ k + n < 2 ^ 60
/-- only the well has changed -/
def WellTo (c l : Addr) (n : Nat) (H H' : DH) : Prop := WellAt c l n H' ∧ ∀ a, a ≠ c → a ≠ l → H' a = H a
def sp__law_well : DSp := fun ds H Q => ∃ ns : List Int, ds = [.lsv (ns.map .int)] ∧ ns.length ≤ sizeLine ∧ ∀ c l H', H c = none → H l = none → WellAt c l (2 ^ 50) H' → (∀ a, H a ≠ none → H' a = H a) → Q (.ref c) H'
def sp__law_draw : DSp := fun ds H Q => ∃ c l m n, ds = [.ref c, .int m] ∧ 0 < m ∧ m < 2 ^ 60 ∧ WellAt c l (n + 1) H ∧ ∀ r H', 0 ≤ r → r < m → WellTo c l n H H' → Q (.int r) H'
def sp__law_is : DSp := fun ds H Q => ∃ a b, ds = [.bl a, .bl b] ∧ Q (.bl (a == b)) H
/-- names taken: a list that may change or not, not the well's -/
def TkL (d : Dv) (ts : List Str) (c l : Addr) (H : DH) : Prop := d = .lsv (ts.map .str) ∨ ∃ a, d = .ref a ∧ a ≠ c ∧ a ≠ l ∧ H a = some (.lst (ts.map .str))
def nmS (hi : Bool) (x : Str) : Bool := if hi = true then hiS x else loS x
def sp__law_name : DSp := fun ds H Q => ∃ c l n d ts hi, ds = [.ref c, d, .bl hi] ∧ ts.length ≤ 390 ∧ (∀ t ∈ ts, nmS hi t = true) ∧ TkL d ts c l H ∧ WellAt c l (n + 20) H ∧ ∀ x H', nmS hi x = true → x ∉ ts → WellTo c l n H H' → Q (.str x) H'
def sp__law_kinds : DSp := fun ds H Q => ∃ c l n m, ds = [.ref c, .int (m : Nat)] ∧ 1 ≤ m ∧ m ≤ 60 ∧ WellAt c l (n + 20000) H ∧ ∀ ks H', goodK ks = true → ks.length ≤ m → WellTo c l n H H' → Q (ksD ks) H'
def nmD (hi : Bool) (d : Dv) : Bool := match d with
  | .str x => nmS hi x && decide (x ∉ (["kind", "letters", "none", "start", "state", "words"] : List Str))
  | _ => false
def sp__law_is_name : DSp := fun ds H Q => ∃ d hi, ds = [d, .bl hi] ∧ VD d ∧ Q (.bl (nmD hi d)) H
def sp__law_is_kinds : DSp := fun ds H Q => ∃ d, ds = [d] ∧ VD d ∧ Q (.bl (kindsB d)) H
/-- a value somewhere made different -/
def sp__law_bent (k : Nat) : DSp := fun ds H Q => ∃ c l n b m z d, ds = [.ref c, d] ∧ dpD d < k ∧ Val b m z d ∧ 110 ≤ b ∧ b ≤ 1000 ∧ z ≤ 2000000 ∧ WellAt c l (n + 8 * k) H ∧ ∀ r H', Val (b + 60) (m + 5) (3 * z + 2000) r → WellTo c l n H H' → Q r H'
def sp__law_door : DSp := fun ds H Q => ∃ (k : Int) (d : Dv), ds = [.int k, d] ∧ 0 ≤ k ∧ k ≤ 5 ∧ VD d ∧ ∀ x : Str, (x = "kinds" ↔ kindsB d = false) → Q (.str x) H
def sp__law_value_right : DSp := fun ds H Q => ∃ d, ds = [d] ∧ VD d ∧ Q (.bl true) H
def sp__law_barren : DSp := fun ds H Q => ∃ c l n ks, ds = [.ref c, ksD ks] ∧ goodK ks = true ∧ ks.length ≤ 6 ∧ WellAt c l (n + 1000) H ∧ ∀ d H', VD d → WellTo c l n H H' → Q d H'
def sp__law_wide : DSp := fun ds H Q => ∃ c l n, ds = [.ref c] ∧ WellAt c l (n + 10) H ∧ ∀ xs p H', (∀ d ∈ xs, VD d) → xs.length = 12 → H p = none → H' p = some (.lst xs) → WellAt c l n H' → (∀ a, a ≠ c → a ≠ l → a ≠ p → H' a = H a) → Q (.ref p) H'
def sp_law : DSp := fun ds H Q => ∃ ns : List Int, ds = [.lsv (ns.map .int)] ∧ ns.length ≤ sizeLine ∧ ∀ H', Q (.bl true) H'
theorem end_law : ∀ ns : List Int, ns.length ≤ 63 → sp_law [.lsv (ns.map .int)] (fun _ => none) fun d _ => d = .bl true :=
  fun ns h => ⟨ns, rfl, Nat.le_trans h (by decide +kernel), fun _ => rfl⟩
end DL

set_option maxHeartbeats 8000000
namespace K21
open PySem PySem.Spec L2 DL
open PyProof.Rows hiding St
def topS (i : Nat) : Stmt := PySem.Challenge.pw_printsalike_k21_kinds_judged.main.body.getD i (.Pass ⟨0, 0, 0, 0⟩)
/-! ## what the top has written -/
def subT : Str → Str → Option Bool := subTab [("BadKind", "BadKinds", false), ("BadKind", "PrintError", true), ("BadKinds", "BadKinds", true), ("BadKinds", "PrintError", true), ("BadRows", "BadKinds", false), ("BadRows", "PrintError", true)]
structure Txt (K : PySem.W.Frag) (mg : Str → Option Value) where
  a_is_row : Addr
  d_is_row : FuncData
  F_is_row : L2.Fun K "is_row" "is_row" (topS 13) a_is_row d_is_row
  m_is_row : mg "is_row" = some (.ref a_is_row)
  b_is_row : Binds K d_is_row ["thing", "low", "high"] []
  a_in_run : Addr
  d_in_run : FuncData
  F_in_run : L2.Fun K "in_run" "in_run" (topS 14) a_in_run d_in_run
  m_in_run : mg "in_run" = some (.ref a_in_run)
  b_in_run : Binds K d_in_run ["char"] []
  a_is_desk_name : Addr
  d_is_desk_name : FuncData
  F_is_desk_name : L2.Fun K "is_desk_name" "is_desk_name" (topS 15) a_is_desk_name d_is_desk_name
  m_is_desk_name : mg "is_desk_name" = some (.ref a_is_desk_name)
  b_is_desk_name : Binds K d_is_desk_name ["thing"] []
  a_is_high : Addr
  d_is_high : FuncData
  F_is_high : L2.Fun K "is_high" "is_high" (topS 16) a_is_high d_is_high
  m_is_high : mg "is_high" = some (.ref a_is_high)
  b_is_high : Binds K d_is_high ["thing"] []
  a_all_different : Addr
  d_all_different : FuncData
  F_all_different : L2.Fun K "all_different" "all_different" (topS 17) a_all_different d_all_different
  m_all_different : mg "all_different" = some (.ref a_all_different)
  b_all_different : Binds K d_all_different ["names"] []
  a_kind_index : Addr
  d_kind_index : FuncData
  F_kind_index : L2.Fun K "kind_index" "kind_index" (topS 19) a_kind_index d_kind_index
  m_kind_index : mg "kind_index" = some (.ref a_kind_index)
  b_kind_index : Binds K d_kind_index ["kinds", "kind"] []
  a_has_form : Addr
  d_has_form : FuncData
  F_has_form : L2.Fun K "has_form" "has_form" (topS 35) a_has_form d_has_form
  m_has_form : mg "has_form" = some (.ref a_has_form)
  b_has_form : Binds K d_has_form ["thing"] []
  a_with_trees : Addr
  d_with_trees : FuncData
  F_with_trees : L2.Fun K "with_trees" "with_trees" (topS 36) a_with_trees d_with_trees
  m_with_trees : mg "with_trees" = some (.ref a_with_trees)
  b_with_trees : Binds K d_with_trees ["kinds"] []
  a_is_kinds : Addr
  d_is_kinds : FuncData
  F_is_kinds : L2.Fun K "is_kinds" "is_kinds" (topS 37) a_is_kinds d_is_kinds
  m_is_kinds : mg "is_kinds" = some (.ref a_is_kinds)
  b_is_kinds : Binds K d_is_kinds ["thing"] []
  kw_is_kinds : KwOk K d_is_kinds ["thing"] ["thing"]
  a_need_kinds : Addr
  d_need_kinds : FuncData
  F_need_kinds : L2.Fun K "need_kinds" "need_kinds" (topS 38) a_need_kinds d_need_kinds
  m_need_kinds : mg "need_kinds" = some (.ref a_need_kinds)
  b_need_kinds : Binds K d_need_kinds ["kinds"] []
  a_need_kind : Addr
  d_need_kind : FuncData
  F_need_kind : L2.Fun K "need_kind" "need_kind" (topS 39) a_need_kind d_need_kind
  m_need_kind : mg "need_kind" = some (.ref a_need_kind)
  b_need_kind : Binds K d_need_kind ["kinds", "kind"] []
  a_is_tree : Addr
  d_is_tree : FuncData
  F_is_tree : L2.Fun K "is_tree" "is_tree" (topS 42) a_is_tree d_is_tree
  m_is_tree : mg "is_tree" = some (.ref a_is_tree)
  b_is_tree : Binds K d_is_tree ["kinds", "kind", "thing"] []
  kw_is_tree_210 : KwOkP K d_is_tree ["kinds", "kind", "thing"] ["thing", "kind", "kinds"] [2, 1, 0]
  kw_is_tree : KwOk K d_is_tree ["kinds", "kind", "thing"] ["kinds", "kind", "thing"]
  a_fit_rows : Addr
  d_fit_rows : FuncData
  F_fit_rows : L2.Fun K "fit_rows" "fit_rows" (topS 44) a_fit_rows d_fit_rows
  m_fit_rows : mg "fit_rows" = some (.ref a_fit_rows)
  b_fit_rows : Binds K d_fit_rows ["kinds", "thing"] []
  a_need_rows : Addr
  d_need_rows : FuncData
  F_need_rows : L2.Fun K "need_rows" "need_rows" (topS 45) a_need_rows d_need_rows
  m_need_rows : mg "need_rows" = some (.ref a_need_rows)
  b_need_rows : Binds K d_need_rows ["kinds", "rows"] []
  a_is_rows : Addr
  d_is_rows : FuncData
  F_is_rows : L2.Fun K "is_rows" "is_rows" (topS 46) a_is_rows d_is_rows
  m_is_rows : mg "is_rows" = some (.ref a_is_rows)
  b_is_rows : Binds K d_is_rows ["kinds", "thing"] []
  a_rows_of : Addr
  d_rows_of : FuncData
  F_rows_of : L2.Fun K "rows_of" "rows_of" (topS 48) a_rows_of d_rows_of
  m_rows_of : mg "rows_of" = some (.ref a_rows_of)
  b_rows_of : Binds K d_rows_of ["kinds", "kind", "listing"] []
  kw_rows_of_210 : KwOkP K d_rows_of ["kinds", "kind", "listing"] ["listing", "kind", "kinds"] [2, 1, 0]
  kw_rows_of : KwOk K d_rows_of ["kinds", "kind", "listing"] ["kinds", "kind", "listing"]
  a_tree_size : Addr
  d_tree_size : FuncData
  F_tree_size : L2.Fun K "tree_size" "tree_size" (topS 49) a_tree_size d_tree_size
  m_tree_size : mg "tree_size" = some (.ref a_tree_size)
  b_tree_size : Binds K d_tree_size ["kinds", "rows"] []
  kw_tree_size_10 : KwOkP K d_tree_size ["kinds", "rows"] ["rows", "kinds"] [1, 0]
  kw_tree_size : KwOk K d_tree_size ["kinds", "rows"] ["kinds", "rows"]
  a_listing_of : Addr
  d_listing_of : FuncData
  F_listing_of : L2.Fun K "listing_of" "listing_of" (topS 50) a_listing_of d_listing_of
  m_listing_of : mg "listing_of" = some (.ref a_listing_of)
  b_listing_of : Binds K d_listing_of ["kinds", "rows"] []
  kw_listing_of_10 : KwOkP K d_listing_of ["kinds", "rows"] ["rows", "kinds"] [1, 0]
  kw_listing_of : KwOk K d_listing_of ["kinds", "rows"] ["kinds", "rows"]
  a_compare_trees : Addr
  d_compare_trees : FuncData
  F_compare_trees : L2.Fun K "compare_trees" "compare_trees" (topS 51) a_compare_trees d_compare_trees
  m_compare_trees : mg "compare_trees" = some (.ref a_compare_trees)
  b_compare_trees : Binds K d_compare_trees ["kinds", "one", "other"] []
  a__law_well : Addr
  d__law_well : FuncData
  F__law_well : L2.Fun K "_law_well" "_law_well" (topS 53) a__law_well d__law_well
  m__law_well : mg "_law_well" = some (.ref a__law_well)
  b__law_well : Binds K d__law_well ["script"] []
  a__law_draw : Addr
  d__law_draw : FuncData
  F__law_draw : L2.Fun K "_law_draw" "_law_draw" (topS 54) a__law_draw d__law_draw
  m__law_draw : mg "_law_draw" = some (.ref a__law_draw)
  b__law_draw : Binds K d__law_draw ["well", "many"] []
  a__law_is : Addr
  d__law_is : FuncData
  F__law_is : L2.Fun K "_law_is" "_law_is" (topS 55) a__law_is d__law_is
  m__law_is : mg "_law_is" = some (.ref a__law_is)
  b__law_is : Binds K d__law_is ["found", "due"] []
  a__law_name : Addr
  d__law_name : FuncData
  F__law_name : L2.Fun K "_law_name" "_law_name" (topS 56) a__law_name d__law_name
  m__law_name : mg "_law_name" = some (.ref a__law_name)
  b__law_name : Binds K d__law_name ["well", "taken", "high"] []
  a__law_kinds : Addr
  d__law_kinds : FuncData
  F__law_kinds : L2.Fun K "_law_kinds" "_law_kinds" (topS 57) a__law_kinds d__law_kinds
  m__law_kinds : mg "_law_kinds" = some (.ref a__law_kinds)
  b__law_kinds : Binds K d__law_kinds ["well", "most"] []
  a__law_is_name : Addr
  d__law_is_name : FuncData
  F__law_is_name : L2.Fun K "_law_is_name" "_law_is_name" (topS 58) a__law_is_name d__law_is_name
  m__law_is_name : mg "_law_is_name" = some (.ref a__law_is_name)
  b__law_is_name : Binds K d__law_is_name ["value", "high"] []
  a__law_is_kinds : Addr
  d__law_is_kinds : FuncData
  F__law_is_kinds : L2.Fun K "_law_is_kinds" "_law_is_kinds" (topS 59) a__law_is_kinds d__law_is_kinds
  m__law_is_kinds : mg "_law_is_kinds" = some (.ref a__law_is_kinds)
  b__law_is_kinds : Binds K d__law_is_kinds ["value"] []
  a__law_bent : Addr
  d__law_bent : FuncData
  F__law_bent : L2.Fun K "_law_bent" "_law_bent" (topS 60) a__law_bent d__law_bent
  m__law_bent : mg "_law_bent" = some (.ref a__law_bent)
  b__law_bent : Binds K d__law_bent ["well", "value"] []
  a__law_door : Addr
  d__law_door : FuncData
  F__law_door : L2.Fun K "_law_door" "_law_door" (topS 61) a__law_door d__law_door
  m__law_door : mg "_law_door" = some (.ref a__law_door)
  b__law_door : Binds K d__law_door ["door", "value"] []
  a__law_value_right : Addr
  d__law_value_right : FuncData
  F__law_value_right : L2.Fun K "_law_value_right" "_law_value_right" (topS 62) a__law_value_right d__law_value_right
  m__law_value_right : mg "_law_value_right" = some (.ref a__law_value_right)
  b__law_value_right : Binds K d__law_value_right ["value"] []
  a__law_barren : Addr
  d__law_barren : FuncData
  F__law_barren : L2.Fun K "_law_barren" "_law_barren" (topS 63) a__law_barren d__law_barren
  m__law_barren : mg "_law_barren" = some (.ref a__law_barren)
  b__law_barren : Binds K d__law_barren ["well", "family"] []
  a__law_wide : Addr
  d__law_wide : FuncData
  F__law_wide : L2.Fun K "_law_wide" "_law_wide" (topS 64) a__law_wide d__law_wide
  m__law_wide : mg "_law_wide" = some (.ref a__law_wide)
  b__law_wide : Binds K d__law_wide ["well"] []
  a_law : Addr
  d_law : FuncData
  F_law : L2.Fun K "law" "law" (topS 65) a_law d_law
  m_law : mg "law" = some (.ref a_law)
  b_law : Binds K d_law ["script"] []
  t_DIGITS : Tok
  g_DIGITS : mg "DIGITS" = some (.str "0123456789" t_DIGITS)
  t_LONGEST : Tok
  g_LONGEST : mg "LONGEST" = some (.int 10 t_LONGEST)
  t_LOWER : Tok
  g_LOWER : mg "LOWER" = some (.str "abcdefghijklmnopqrstuvwxyz" t_LOWER)
  t_MOST_FIELDS : Tok
  g_MOST_FIELDS : mg "MOST_FIELDS" = some (.int 4 t_MOST_FIELDS)
  t_MOST_KINDS : Tok
  g_MOST_KINDS : mg "MOST_KINDS" = some (.int 60 t_MOST_KINDS)
  t_MOST_MAKERS : Tok
  g_MOST_MAKERS : mg "MOST_MAKERS" = some (.int 8 t_MOST_MAKERS)
  t_MOST_ROWS : Tok
  g_MOST_ROWS : mg "MOST_ROWS" = some (.int 4000 t_MOST_ROWS)
  t_MOST_TOLD : Tok
  g_MOST_TOLD : mg "MOST_TOLD" = some (.int 4000 t_MOST_TOLD)
  t_UPPER : Tok
  g_UPPER : mg "UPPER" = some (.str "ABCDEFGHIJKLMNOPQRSTUVWXYZ" t_UPPER)
  z_all : mg "all" = none
  z_any : mg "any" = none
  z_bool : mg "bool" = none
  z_enumerate : mg "enumerate" = none
  z_int : mg "int" = none
  z_isinstance : mg "isinstance" = none
  z_len : mg "len" = none
  z_list : mg "list" = none
  z_range : mg "range" = none
  z_repr : mg "repr" = none
  z_set : mg "set" = none
  z_str : mg "str" = none
  z_tuple : mg "tuple" = none
  c_BadKind : Addr
  n_BadKind : mg "BadKind" = some (.ref c_BadKind)
  q_BadKind : PySem.W.excIn K c_BadKind [.type "ValueError", .type "Exception", .type "BaseException", .type "object"] "ValueError.__new__" = true
  k_BadKind : PySem.W.keepIn K (.ref c_BadKind) = true
  r_BadKind : ∀ X : Cx, X.K = K → Raises X (.ref c_BadKind)
  c_BadKinds : Addr
  n_BadKinds : mg "BadKinds" = some (.ref c_BadKinds)
  q_BadKinds : PySem.W.excIn K c_BadKinds [.type "ValueError", .type "Exception", .type "BaseException", .type "object"] "ValueError.__new__" = true
  k_BadKinds : PySem.W.keepIn K (.ref c_BadKinds) = true
  r_BadKinds : ∀ X : Cx, X.K = K → Raises X (.ref c_BadKinds)
  s_BadKinds : SubOk K mg subT "BadKinds" (.ref c_BadKinds)
  c_BadRows : Addr
  n_BadRows : mg "BadRows" = some (.ref c_BadRows)
  q_BadRows : PySem.W.excIn K c_BadRows [.type "ValueError", .type "Exception", .type "BaseException", .type "object"] "ValueError.__new__" = true
  k_BadRows : PySem.W.keepIn K (.ref c_BadRows) = true
  r_BadRows : ∀ X : Cx, X.K = K → Raises X (.ref c_BadRows)
  c_PrintError : Addr
  n_PrintError : mg "PrintError" = some (.ref c_PrintError)
  s_PrintError : SubOk K mg subT "PrintError" (.ref c_PrintError)
/-! ### is_row -/
abbrev s_is_row : Stmt := topS 13
theorem sc_is_row : FnScope ["thing", "low", "high"] ["thing", "low", "high"] (defScope s_is_row) := ⟨rfl, rfl, rfl, by decide +kernel, rfl, by decide +kernel, by decide +kernel⟩
def td_is_row : DTS :=
  dRet (dAndV (dIs .tup (dVar 0)) (dChain fLe fLe (dVar 1) (dFn fLen (dCons (dVar 0) (dNil))) (dVar 2)))
theorem body_is_row {P : Program} {w : World} {K : PySem.W.Frag} {mg : Str → Option Value} {base : Heap} (T : Txt K mg) :
    ∀ (cdv : Value) (A : Around) (outer : List Env) (s : Shared) (H : Hp) (E : XK), Room (0) (A.deeper (envOfC "is_row" (defScope s_is_row) s.heap.objs.size T.a_is_row cdv)) → DSs (cxOf CX0 P w K mg base ["thing", "low", "high"] "is_row" (defScope s_is_row) T.a_is_row cdv A outer s H E).nox (defBody s_is_row) (td_is_row) :=
  fun cdv A outer s H E hr =>
    dss_one (ds_ret (de_and (de_isi .tup (by rfl) T.z_isinstance (de_var (pv 0)) (de_ty (pe_bltn (v := .ty "tuple") (by rfl) T.z_tuple (by decide +kernel) rfl))) (de_one (de_chain (c_le) (c_le) (de_var (pv 1)) (de_callB call_len ok_len (by rfl) T.z_len (by decide +kernel) (da_cons (de_var (pv 0)) (da_nil))) (de_var (pv 2))))))
/-! ### in_run -/
abbrev s_in_run : Stmt := topS 14
theorem sc_in_run : FnScope ["char"] ["char"] (defScope s_in_run) := ⟨rfl, rfl, rfl, by decide +kernel, rfl, by decide +kernel, by decide +kernel⟩
def td_in_run : DTS :=
  dRet (dOrV (dOp fInSA (dVar 0) (dC (.str "abcdefghijklmnopqrstuvwxyz"))) (dOrV (dOp fInSA (dVar 0) (dC (.str "ABCDEFGHIJKLMNOPQRSTUVWXYZ"))) (dOp fInSA (dVar 0) (dC (.str "0123456789")))))
theorem body_in_run {P : Program} {w : World} {K : PySem.W.Frag} {mg : Str → Option Value} {base : Heap} (T : Txt K mg) :
    ∀ (cdv : Value) (A : Around) (outer : List Env) (s : Shared) (H : Hp) (E : XK), Room (0) (A.deeper (envOfC "in_run" (defScope s_in_run) s.heap.objs.size T.a_in_run cdv)) → DSs (cxOf CX0 P w K mg base ["char"] "in_run" (defScope s_in_run) T.a_in_run cdv A outer s H E).nox (defBody s_in_run) (td_in_run) :=
  fun cdv A outer s H E hr =>
    dss_one (ds_ret (de_or (de_cmp (c_inS hr.units) (de_var (pv 0)) (de_str (pe_glob (by rfl) T.g_LOWER ⟨_, rfl⟩)) (by with_unfolding_all rfl)) (de_or (de_cmp (c_inS hr.units) (de_var (pv 0)) (de_str (pe_glob (by rfl) T.g_UPPER ⟨_, rfl⟩)) (by with_unfolding_all rfl)) (de_one (de_cmp (c_inS hr.units) (de_var (pv 0)) (de_str (pe_glob (by rfl) T.g_DIGITS ⟨_, rfl⟩)) (by with_unfolding_all rfl))))))
/-! ### is_desk_name -/
abbrev s_is_desk_name : Stmt := topS 15
theorem sc_is_desk_name : FnScope ["thing", "char"] ["thing"] (defScope s_is_desk_name) := ⟨rfl, rfl, rfl, by decide +kernel, rfl, by decide +kernel, by decide +kernel⟩
def td_is_desk_name : DTS :=
  dSeq (dIf (dOrT (dNotT (dTruth (dIs .str (dVar 0)))) (dNotT (dTest (dChain fLe fLe (dC (.int 1)) (dFn fLen (dCons (dVar 0) (dNil))) (dC (.int 10)))))) (dRet (dC (.bl false))) (dNext))
    (dRet (dAndV (dOp fNotInSA (dOp fIx (dVar 0) (dC (.int 0))) (dC (.str "0123456789"))) (dFn fAll (dCons (dLcF (dWalkS (dVar 0)) [1] (dgName 1) (dYes) (dCall (sp_in_run) [] (dCons (dVar 1) (dNil)))) (dNil)))))
theorem body_is_desk_name {P : Program} {w : World} {K : PySem.W.Frag} {mg : Str → Option Value} {base : Heap} (T : Txt K mg) (G_in_run : FnOk P w K mg base CX0 (1) T.a_in_run T.d_in_run ["char"] (lSp K (sp_in_run))) :
    ∀ (cdv : Value) (A : Around) (outer : List Env) (s : Shared) (H : Hp) (E : XK), Room (1) (A.deeper (envOfC "is_desk_name" (defScope s_is_desk_name) s.heap.objs.size T.a_is_desk_name cdv)) → DSs (cxOf CX0 P w K mg base ["thing", "char"] "is_desk_name" (defScope s_is_desk_name) T.a_is_desk_name cdv A outer s H E).nox (defBody s_is_desk_name) (td_is_desk_name) :=
  fun cdv A outer s H E hr =>
    dss_cons (ds_if (dt_w (dw_or (dt_not (dt_truth (de_isi .str (by rfl) T.z_isinstance (de_var (pv 0)) (de_ty (pe_bltn (v := .ty "str") (by rfl) T.z_str (by decide +kernel) rfl))))) (dw_or1 (dt_not (dt_chain (c_le) (c_le) (de_int pe_int) (de_callB call_len ok_len (by rfl) T.z_len (by decide +kernel) (da_cons (de_var (pv 0)) (da_nil))) (de_int (pe_glob (by rfl) T.g_LONGEST ⟨_, rfl⟩))))))) (dss_one (ds_ret (de_bl pe_bl))) (dss_nil))
    (dss_one (ds_ret (de_and (de_cmp (c_notInS hr.units) (de_ix (de_var (pv 0)) (de_int pe_int)) (de_str (pe_glob (by rfl) T.g_DIGITS ⟨_, rfl⟩)) (by with_unfolding_all rfl)) (de_one (de_callB (cr_all rfl) ok_all (by rfl) T.z_all (by decide +kernel) (da_cons (de_lcF (own := [("char", 1)]) rfl sc_is_desk_name.nd (di_str (de_var (pv 0))) (blkOk_by (by show blkC ["thing", "char"] (defScope s_is_desk_name) _ _ = true; decide +kernel)) (fun _ _ _ _ _ => dgc_name (pg_name (i := 1) sc_is_desk_name.nd rfl (Or.inl rfl))) (fun _ _ _ _ _ => dts_nil) (fun _ _ _ _ _ => de_call G_in_run (hr.mono (by decide)) (by rfl) T.m_in_run T.F_in_run.kp T.b_in_run .nil (fun _ => rfl) pass0 (da_cons (de_var (pv 1)) (da_nil)))) (da_nil)))))))
/-! ### is_high -/
abbrev s_is_high : Stmt := topS 16
theorem sc_is_high : FnScope ["thing"] ["thing"] (defScope s_is_high) := ⟨rfl, rfl, rfl, by decide +kernel, rfl, by decide +kernel, by decide +kernel⟩
def td_is_high : DTS :=
  dRet (dAndV (dCall (sp_is_desk_name) [] (dCons (dVar 0) (dNil))) (dOp fInSA (dOp fIx (dVar 0) (dC (.int 0))) (dC (.str "ABCDEFGHIJKLMNOPQRSTUVWXYZ"))))
theorem body_is_high {P : Program} {w : World} {K : PySem.W.Frag} {mg : Str → Option Value} {base : Heap} (T : Txt K mg) (G_is_desk_name : FnOk P w K mg base CX0 (2) T.a_is_desk_name T.d_is_desk_name ["thing"] (lSp K (sp_is_desk_name))) :
    ∀ (cdv : Value) (A : Around) (outer : List Env) (s : Shared) (H : Hp) (E : XK), Room (2) (A.deeper (envOfC "is_high" (defScope s_is_high) s.heap.objs.size T.a_is_high cdv)) → DSs (cxOf CX0 P w K mg base ["thing"] "is_high" (defScope s_is_high) T.a_is_high cdv A outer s H E).nox (defBody s_is_high) (td_is_high) :=
  fun cdv A outer s H E hr =>
    dss_one (ds_ret (de_and (de_call G_is_desk_name (hr.mono (by decide)) (by rfl) T.m_is_desk_name T.F_is_desk_name.kp T.b_is_desk_name .nil (fun _ => rfl) pass0 (da_cons (de_var (pv 0)) (da_nil))) (de_one (de_cmp (c_inS hr.units) (de_ix (de_var (pv 0)) (de_int pe_int)) (de_str (pe_glob (by rfl) T.g_UPPER ⟨_, rfl⟩)) (by with_unfolding_all rfl)))))
/-! ### all_different -/
abbrev s_all_different : Stmt := topS 17
theorem sc_all_different : FnScope ["names"] ["names"] (defScope s_all_different) := ⟨rfl, rfl, rfl, by decide +kernel, rfl, by decide +kernel, by decide +kernel⟩
def td_all_different : DTS :=
  dRet (dOp fEqA (dLenSet (dVar 0)) (dFn fLen (dCons (dVar 0) (dNil))))
theorem body_all_different {P : Program} {w : World} {K : PySem.W.Frag} {mg : Str → Option Value} {base : Heap} (T : Txt K mg) :
    ∀ (cdv : Value) (A : Around) (outer : List Env) (s : Shared) (H : Hp) (E : XK), Room (0) (A.deeper (envOfC "all_different" (defScope s_all_different) s.heap.objs.size T.a_all_different cdv)) → DSs (cxOf CX0 P w K mg base ["names"] "all_different" (defScope s_all_different) T.a_all_different cdv A outer s H E).nox (defBody s_all_different) (td_all_different) :=
  fun cdv A outer s H E hr =>
    dss_one (ds_ret (de_cmp (c_eq hr.units) (de_lenSet rfl (by rfl) T.z_len (by rfl) T.z_set (de_var (pv 0))) (de_callB call_len ok_len (by rfl) T.z_len (by decide +kernel) (da_cons (de_var (pv 0)) (da_nil))) (nomark _)))
/-! ### kind_index -/
abbrev s_kind_index : Stmt := topS 19
theorem sc_kind_index : FnScope ["kinds", "kind", "at", "name", "makers"] ["kinds", "kind"] (defScope s_kind_index) := ⟨rfl, rfl, rfl, by decide +kernel, rfl, by decide +kernel, by decide +kernel⟩
def td_kind_index : DTS :=
  dSeq (dFor (dEnum (dVar 0)) (dgTup 2 (dgCons (dgName 2) (dgCons (dgTup 2 (dgCons (dgName 3) (dgCons (dgName 4) (dgNil)))) (dgNil)))) (dIf (dAndT (dTruth (dIs .str (dVar 1))) (dTest (dOp fEqA (dVar 3) (dVar 1)))) (dRet (dVar 2)) (dNext)))
    (dRet (dC .non))
theorem body_kind_index {P : Program} {w : World} {K : PySem.W.Frag} {mg : Str → Option Value} {base : Heap} (T : Txt K mg) :
    ∀ (cdv : Value) (A : Around) (outer : List Env) (s : Shared) (H : Hp) (E : XK), Room (0) (A.deeper (envOfC "kind_index" (defScope s_kind_index) s.heap.objs.size T.a_kind_index cdv)) → DSs (cxOf CX0 P w K mg base ["kinds", "kind", "at", "name", "makers"] "kind_index" (defScope s_kind_index) T.a_kind_index cdv A outer s H E).nox (defBody s_kind_index) (td_kind_index) :=
  fun cdv A outer s H E hr =>
    dss_cons (ds_for PassesOwn.never rfl (di_enum (by rfl) T.z_enumerate (de_var (pv 0))) (dg_tup rfl (dgs_cons (dg_name (pg_name (i := 2) sc_kind_index.nd rfl (Or.inl rfl))) (dgs_cons (dg_tup rfl (dgs_cons (dg_name (pg_name (i := 3) sc_kind_index.nd rfl (Or.inl rfl))) (dgs_cons (dg_name (pg_name (i := 4) sc_kind_index.nd rfl (Or.inl rfl))) (dgs_nil)))) (dgs_nil)))) (dss_one (ds_if (dt_w (dw_and (dt_truth (de_isi .str (by rfl) T.z_isinstance (de_var (pv 1)) (de_ty (pe_bltn (v := .ty "str") (by rfl) T.z_str (by decide +kernel) rfl)))) (dw_and1 (dt_cmp (c_eq hr.units) (de_var (pv 3)) (de_var (pv 1)) (nomark _))))) (dss_one (ds_ret (de_var (pv 2)))) (dss_nil))))
    (dss_one (ds_ret (de_non pe_non)))
/-! ### has_form -/
abbrev s_has_form : Stmt := topS 35
theorem sc_has_form : FnScope ["thing", "kind", "maker", "field"] ["thing"] (defScope s_has_form) := ⟨rfl, rfl, rfl, by decide +kernel, rfl, by decide +kernel, by decide +kernel⟩
def td_has_form : DTS :=
  dSeq (dIf (dNotT (dTruth (dCall (sq_is_row) [] (dCons (dVar 0) (dCons (dC (.int 1)) (dCons (dC (.int 60)) (dNil))))))) (dRet (dC (.bl false))) (dNext))
    (dSeq (dFor (dWalk (dVar 0)) (dgName 1) (dSeq (dIf (dOrT (dNotT (dTruth (dCall (sq_is_row) [] (dCons (dVar 1) (dCons (dC (.int 2)) (dCons (dC (.int 2)) (dNil))))))) (dOrT (dNotT (dTruth (dCall (sp_is_high) [] (dCons (dOp fIx (dVar 1) (dC (.int 0))) (dNil))))) (dNotT (dTruth (dCall (sq_is_row) [] (dCons (dOp fIx (dVar 1) (dC (.int 1))) (dCons (dC (.int 1)) (dCons (dC (.int 8)) (dNil))))))))) (dRet (dC (.bl false))) (dNext))
    (dFor (dWalk (dOp fIx (dVar 1) (dC (.int 1)))) (dgName 2) (dSeq (dIf (dOrT (dNotT (dTruth (dCall (sq_is_row) [] (dCons (dVar 2) (dCons (dC (.int 2)) (dCons (dC (.int 2)) (dNil))))))) (dOrT (dNotT (dTruth (dCall (sp_is_high) [] (dCons (dOp fIx (dVar 2) (dC (.int 0))) (dNil))))) (dNotT (dTruth (dCall (sq_is_row) [] (dCons (dOp fIx (dVar 2) (dC (.int 1))) (dCons (dC (.int 0)) (dCons (dC (.int 4)) (dNil))))))))) (dRet (dC (.bl false))) (dNext))
    (dIf (dNotT (dTruth (dFn fAll (dCons (dLcF (dWalk (dOp fIx (dVar 2) (dC (.int 1)))) [3] (dgName 3) (dYes) (dCall (sp_is_high) [] (dCons (dVar 3) (dNil)))) (dNil))))) (dRet (dC (.bl false))) (dNext))))))
    (dRet (dC (.bl true))))
theorem body_has_form {P : Program} {w : World} {K : PySem.W.Frag} {mg : Str → Option Value} {base : Heap} (T : Txt K mg) (G_is_high : FnOk P w K mg base CX0 (3) T.a_is_high T.d_is_high ["thing"] (lSp K (sp_is_high))) (G_is_row : FnOk P w K mg base CX0 (1) T.a_is_row T.d_is_row ["thing", "low", "high"] (lSp K (sq_is_row))) :
    ∀ (cdv : Value) (A : Around) (outer : List Env) (s : Shared) (H : Hp) (E : XK), Room (3) (A.deeper (envOfC "has_form" (defScope s_has_form) s.heap.objs.size T.a_has_form cdv)) → DSs (cxOf CX0 P w K mg base ["thing", "kind", "maker", "field"] "has_form" (defScope s_has_form) T.a_has_form cdv A outer s H E).nox (defBody s_has_form) (td_has_form) :=
  fun cdv A outer s H E hr =>
    dss_cons (ds_if (dt_not (dt_truth (de_call G_is_row (hr.mono (by decide)) (by rfl) T.m_is_row T.F_is_row.kp T.b_is_row .nil (fun _ => rfl) pass0 (da_cons (de_var (pv 0)) (da_cons (de_int pe_int) (da_cons (de_int (pe_glob (by rfl) T.g_MOST_KINDS ⟨_, rfl⟩)) (da_nil))))))) (dss_one (ds_ret (de_bl pe_bl))) (dss_nil))
    (dss_cons (ds_for PassesOwn.never rfl (di_walk (de_var (pv 0))) (dg_name (pg_name (i := 1) sc_has_form.nd rfl (Or.inl rfl))) (dss_cons (ds_if (dt_w (dw_or (dt_not (dt_truth (de_call G_is_row (hr.mono (by decide)) (by rfl) T.m_is_row T.F_is_row.kp T.b_is_row .nil (fun _ => rfl) pass0 (da_cons (de_var (pv 1)) (da_cons (de_int pe_int) (da_cons (de_int pe_int) (da_nil))))))) (dw_or (dt_not (dt_truth (de_call G_is_high (hr.mono (by decide)) (by rfl) T.m_is_high T.F_is_high.kp T.b_is_high .nil (fun _ => rfl) pass0 (da_cons (de_ix (de_var (pv 1)) (de_int pe_int)) (da_nil))))) (dw_or1 (dt_not (dt_truth (de_call G_is_row (hr.mono (by decide)) (by rfl) T.m_is_row T.F_is_row.kp T.b_is_row .nil (fun _ => rfl) pass0 (da_cons (de_ix (de_var (pv 1)) (de_int pe_int)) (da_cons (de_int pe_int) (da_cons (de_int (pe_glob (by rfl) T.g_MOST_MAKERS ⟨_, rfl⟩)) (da_nil))))))))))) (dss_one (ds_ret (de_bl pe_bl))) (dss_nil))
    (dss_one (ds_for PassesOwn.never rfl (di_walk (de_ix (de_var (pv 1)) (de_int pe_int))) (dg_name (pg_name (i := 2) sc_has_form.nd rfl (Or.inl rfl))) (dss_cons (ds_if (dt_w (dw_or (dt_not (dt_truth (de_call G_is_row (hr.mono (by decide)) (by rfl) T.m_is_row T.F_is_row.kp T.b_is_row .nil (fun _ => rfl) pass0 (da_cons (de_var (pv 2)) (da_cons (de_int pe_int) (da_cons (de_int pe_int) (da_nil))))))) (dw_or (dt_not (dt_truth (de_call G_is_high (hr.mono (by decide)) (by rfl) T.m_is_high T.F_is_high.kp T.b_is_high .nil (fun _ => rfl) pass0 (da_cons (de_ix (de_var (pv 2)) (de_int pe_int)) (da_nil))))) (dw_or1 (dt_not (dt_truth (de_call G_is_row (hr.mono (by decide)) (by rfl) T.m_is_row T.F_is_row.kp T.b_is_row .nil (fun _ => rfl) pass0 (da_cons (de_ix (de_var (pv 2)) (de_int pe_int)) (da_cons (de_int pe_int) (da_cons (de_int (pe_glob (by rfl) T.g_MOST_FIELDS ⟨_, rfl⟩)) (da_nil))))))))))) (dss_one (ds_ret (de_bl pe_bl))) (dss_nil))
    (dss_one (ds_if (dt_not (dt_truth (de_callB (cr_all rfl) ok_all (by rfl) T.z_all (by decide +kernel) (da_cons (de_lcF (own := [("field", 3)]) rfl sc_has_form.nd (di_walk (de_ix (de_var (pv 2)) (de_int pe_int))) (blkOk_by (by show blkC ["thing", "kind", "maker", "field"] (defScope s_has_form) _ _ = true; decide +kernel)) (fun _ _ _ _ _ => dgc_name (pg_name (i := 3) sc_has_form.nd rfl (Or.inl rfl))) (fun _ _ _ _ _ => dts_nil) (fun _ _ _ _ _ => de_call G_is_high (hr.mono (by decide)) (by rfl) T.m_is_high T.F_is_high.kp T.b_is_high .nil (fun _ => rfl) pass0 (da_cons (de_var (pv 3)) (da_nil)))) (da_nil))))) (dss_one (ds_ret (de_bl pe_bl))) (dss_nil))))))))
    (dss_one (ds_ret (de_bl pe_bl))))
/-! ### with_trees -/
abbrev s_with_trees : Stmt := topS 36
theorem sc_with_trees : FnScope ["kinds", "found", "many", "name", "makers", "maker", "fields", "field"] ["kinds"] (defScope s_with_trees) := ⟨rfl, rfl, rfl, by decide +kernel, rfl, by decide +kernel, by decide +kernel⟩
def td_with_trees : DTS :=
  dSeq (dSet 1 (dDic0))
    (dSeq (dSet 2 (dUn fNeg (dC (.int 1))))
    (dSeq (dWhile (dTest (dOp fLt (dVar 2) (dFn fLenD (dCons (dVar 1) (dNil))))) (dSeq (dSet 2 (dFn fLenD (dCons (dVar 1) (dNil))))
    (dFor (dWalk (dVar 0)) (dgTup 2 (dgCons (dgName 3) (dgCons (dgName 4) (dgNil)))) (dIf (dAndT (dTest (dOp fDNotInA (dVar 3) (dVar 1))) (dTruth (dFn fAny (dCons (dLcF (dWalk (dVar 4)) [5, 6] (dgTup 2 (dgCons (dgName 5) (dgCons (dgName 6) (dgNil)))) (dYes) (dFn fAll (dCons (dLcF (dWalk (dVar 6)) [7] (dgName 7) (dYes) (dOp fDInA (dVar 7) (dVar 1))) (dNil)))) (dNil))))) (dDPut (dVar 1) (dVar 3) (dC (.bl true))) (dNext)))))
    (dRet (dFz (dVar 1)))))
theorem body_with_trees {P : Program} {w : World} {K : PySem.W.Frag} {mg : Str → Option Value} {base : Heap} (T : Txt K mg) :
    ∀ (cdv : Value) (A : Around) (outer : List Env) (s : Shared) (H : Hp) (E : XK), Room (0) (A.deeper (envOfC "with_trees" (defScope s_with_trees) s.heap.objs.size T.a_with_trees cdv)) → DSs (cxOf CX0 P w K mg base ["kinds", "found", "many", "name", "makers", "maker", "fields", "field"] "with_trees" (defScope s_with_trees) T.a_with_trees cdv A outer s H E).nox (defBody s_with_trees) (td_with_trees) :=
  fun cdv A outer s H E hr =>
    dss_cons (ds_set (i := 1) sc_with_trees.nd rfl (Or.inr rfl) (de_dic0))
    (dss_cons (ds_set (i := 2) sc_with_trees.nd rfl (Or.inl rfl) (de_neg (de_int pe_int)))
    (dss_cons (ds_while PassesOwn.never (dt_cmp (c_lt) (de_var (pv 2)) (de_callB call_lenDA ok_lenDA (by rfl) T.z_len (by decide +kernel) (da_cons (de_var (pv 1)) (da_nil))) (nomark _)) (dss_cons (ds_set (i := 2) sc_with_trees.nd rfl (Or.inl rfl) (de_callB call_lenDA ok_lenDA (by rfl) T.z_len (by decide +kernel) (da_cons (de_var (pv 1)) (da_nil))))
    (dss_one (ds_for PassesOwn.never rfl (di_walk (de_var (pv 0))) (dg_tup rfl (dgs_cons (dg_name (pg_name (i := 3) sc_with_trees.nd rfl (Or.inl rfl))) (dgs_cons (dg_name (pg_name (i := 4) sc_with_trees.nd rfl (Or.inl rfl))) (dgs_nil)))) (dss_one (ds_if (dt_w (dw_and (dt_cmp (c_dnotIn hr.units) (de_var (pv 3)) (de_var (pv 1)) (by with_unfolding_all rfl)) (dw_and1 (dt_truth (de_callB (cr_any rfl) ok_any (by rfl) T.z_any (by decide +kernel) (da_cons (de_lcF (own := [("maker", 5), ("fields", 6)]) rfl sc_with_trees.nd (di_walk (de_var (pv 4))) (blkOk_by (by show blkC ["kinds", "found", "many", "name", "makers", "maker", "fields", "field"] (defScope s_with_trees) _ _ = true; decide +kernel)) (fun _ _ _ _ _ => dgc_tup rfl (dgcs_cons (dgc_name (pg_name (i := 5) sc_with_trees.nd rfl (Or.inl rfl))) (dgcs_cons (dgc_name (pg_name (i := 6) sc_with_trees.nd rfl (Or.inl rfl))) (dgcs_nil)))) (fun _ _ _ _ _ => dts_nil) (fun _ _ _ _ _ => de_callB (cr_all rfl) ok_all (by rfl) T.z_all (by decide +kernel) (da_cons (de_lcF (own := [("field", 7)]) rfl sc_with_trees.nd (di_walk (de_var (pv 6))) (blkOk_by (by show blkC ["kinds", "found", "many", "name", "makers", "maker", "fields", "field"] _ _ _ = true; kernel_rfl)) (fun _ _ _ _ _ => dgc_name (pg_name (i := 7) sc_with_trees.nd rfl (Or.inl rfl))) (fun _ _ _ _ _ => dts_nil) (fun _ _ _ _ _ => de_cmp (c_din hr.units) (de_var (pv 7)) (de_var (pv 1)) (by with_unfolding_all rfl))) (da_nil)))) (da_nil))))))) (dss_one (ds_dput (hu_of hr) (de_var (pv 1)) (de_var (pv 3)) (de_bl pe_bl))) (dss_nil)))))))
    (dss_one (ds_ret (de_fzv (de_var (pv 1)))))))
/-! ### is_kinds -/
abbrev s_is_kinds : Stmt := topS 37
theorem sc_is_kinds : FnScope ["thing", "known", "makers", "name", "some", "maker", "fields", "field"] ["thing"] (defScope s_is_kinds) := ⟨rfl, rfl, rfl, by decide +kernel, rfl, by decide +kernel, by decide +kernel⟩
def td_is_kinds : DTS :=
  dSeq (dIf (dNotT (dTruth (dCall (sp_has_form) [] (dCons (dVar 0) (dNil))))) (dRet (dC (.bl false))) (dNext))
    (dSeq (dSet 1 (dDcF (dWalk (dVar 0)) [3, 2] (dgTup 2 (dgCons (dgName 3) (dgCons (dgName 2) (dgNil)))) (dYes) (dVar 3) (dC (.bl true))))
    (dSeq (dSet 2 (dLc2 (dWalk (dVar 0)) (dgTup 2 (dgCons (dgName 3) (dgCons (dgName 4) (dgNil)))) (dYes) [3, 4, 5, 6] (dWalk (dVar 4)) (dgTup 2 (dgCons (dgName 5) (dgCons (dgName 6) (dgNil)))) (dYes) [5, 6] (dVar 5)))
    (dSeq (dIf (dOrT (dTest (dOp fLt (dFn fLenD (dCons (dVar 1) (dNil))) (dFn fLen (dCons (dVar 0) (dNil))))) (dNotT (dTruth (dCall (sp_all_different) [] (dCons (dVar 2) (dNil)))))) (dRet (dC (.bl false))) (dNext))
    (dSeq (dIf (dNotT (dTruth (dFn fAll (dCons (dLc3 (dWalk (dVar 0)) (dgTup 2 (dgCons (dgName 3) (dgCons (dgName 4) (dgNil)))) (dYes) [3, 4, 5, 6, 7] (dWalk (dVar 4)) (dgTup 2 (dgCons (dgName 5) (dgCons (dgName 6) (dgNil)))) (dYes) [5, 6, 7] (dWalk (dVar 6)) (dgName 7) (dYes) [7] (dOp fDInA (dVar 7) (dVar 1))) (dNil))))) (dRet (dC (.bl false))) (dNext))
    (dRet (dOp fEqA (dFn fLenD (dCons (dCall (sp_with_trees) [] (dCons (dVar 0) (dNil))) (dNil))) (dFn fLen (dCons (dVar 0) (dNil)))))))))
theorem body_is_kinds {P : Program} {w : World} {K : PySem.W.Frag} {mg : Str → Option Value} {base : Heap} (T : Txt K mg) (G_all_different : FnOk P w K mg base CX0 (1) T.a_all_different T.d_all_different ["names"] (lSp K (sp_all_different))) (G_has_form : FnOk P w K mg base CX0 (4) T.a_has_form T.d_has_form ["thing"] (lSp K (sp_has_form))) (G_with_trees : FnOk P w K mg base CX0 (1) T.a_with_trees T.d_with_trees ["kinds"] (lSp K (sp_with_trees))) :
    ∀ (cdv : Value) (A : Around) (outer : List Env) (s : Shared) (H : Hp) (E : XK), Room (4) (A.deeper (envOfC "is_kinds" (defScope s_is_kinds) s.heap.objs.size T.a_is_kinds cdv)) → DSs (cxOf CX0 P w K mg base ["thing", "known", "makers", "name", "some", "maker", "fields", "field"] "is_kinds" (defScope s_is_kinds) T.a_is_kinds cdv A outer s H E).nox (defBody s_is_kinds) (td_is_kinds) :=
  fun cdv A outer s H E hr =>
    dss_cons (ds_if (dt_not (dt_truth (de_call G_has_form (hr.mono (by decide)) (by rfl) T.m_has_form T.F_has_form.kp T.b_has_form .nil (fun _ => rfl) pass0 (da_cons (de_var (pv 0)) (da_nil))))) (dss_one (ds_ret (de_bl pe_bl))) (dss_nil))
    (dss_cons (ds_set (i := 1) sc_is_kinds.nd rfl (Or.inr rfl) (de_dcF (own := [("name", 3), ("makers", 2)]) rfl sc_is_kinds.nd (di_walk (de_var (pv 0))) (blkOk_by (by show blkC ["thing", "known", "makers", "name", "some", "maker", "fields", "field"] (defScope s_is_kinds) _ _ = true; decide +kernel)) (fun _ _ _ _ _ => dgc_tup rfl (dgcs_cons (dgc_name (pg_name (i := 3) sc_is_kinds.nd rfl (Or.inl rfl))) (dgcs_cons (dgc_name (pg_name (i := 2) sc_is_kinds.nd rfl (Or.inl rfl))) (dgcs_nil)))) (fun _ _ _ _ _ => dts_nil) (fun _ _ _ _ _ => de_var (pv 3)) (fun _ _ _ _ _ => de_bl pe_bl)))
    (dss_cons (ds_setLcN (i := 2) (own := [("name", 3), ("some", 4), ("maker", 5), ("fields", 6)]) low2 rfl sc_is_kinds.nd rfl rfl (sw_true rfl rfl rfl (by decide +kernel)) (di_walk (de_var (pv 0))) (blkOk_by (by show blkC ["thing", "known", "makers", "name", "some", "maker", "fields", "field"] (defScope s_is_kinds) _ _ = true; decide +kernel)) (fun _ _ _ _ _ => dgc_tup rfl (dgcs_cons (dgc_name (pg_name (i := 3) sc_is_kinds.nd rfl (Or.inl rfl))) (dgcs_cons (dgc_name (pg_name (i := 4) sc_is_kinds.nd rfl (Or.inl rfl))) (dgcs_nil)))) (fun _ _ _ _ _ => dts_nil) (rest2 rfl (by decide) (fun _ _ _ _ _ => di_walk (de_var (pv 4))) (fun _ _ _ _ _ => dgc_tup rfl (dgcs_cons (dgc_name (pg_name (i := 5) sc_is_kinds.nd rfl (Or.inl rfl))) (dgcs_cons (dgc_name (pg_name (i := 6) sc_is_kinds.nd rfl (Or.inl rfl))) (dgcs_nil)))) (fun _ _ _ _ _ => dts_nil) (fun _ _ _ _ _ => de_var (pv 5))))
    (dss_cons (ds_if (dt_w (dw_or (dt_cmp (c_lt) (de_callB call_lenDA ok_lenDA (by rfl) T.z_len (by decide +kernel) (da_cons (de_var (pv 1)) (da_nil))) (de_callB call_len ok_len (by rfl) T.z_len (by decide +kernel) (da_cons (de_var (pv 0)) (da_nil))) (nomark _)) (dw_or1 (dt_not (dt_truth (de_call G_all_different (hr.mono (by decide)) (by rfl) T.m_all_different T.F_all_different.kp T.b_all_different .nil (fun _ => rfl) pass0 (da_cons (de_var (pv 2)) (da_nil)))))))) (dss_one (ds_ret (de_bl pe_bl))) (dss_nil))
    (dss_cons (ds_if (dt_not (dt_truth (de_callB (cr_all rfl) ok_all (by rfl) T.z_all (by decide +kernel) (da_cons (de_lcN (own := [("name", 3), ("some", 4), ("maker", 5), ("fields", 6), ("field", 7)]) low3 rfl sc_is_kinds.nd (di_walk (de_var (pv 0))) (blkOk_by (by show blkC ["thing", "known", "makers", "name", "some", "maker", "fields", "field"] (defScope s_is_kinds) _ _ = true; decide +kernel)) (fun _ _ _ _ _ => dgc_tup rfl (dgcs_cons (dgc_name (pg_name (i := 3) sc_is_kinds.nd rfl (Or.inl rfl))) (dgcs_cons (dgc_name (pg_name (i := 4) sc_is_kinds.nd rfl (Or.inl rfl))) (dgcs_nil)))) (fun _ _ _ _ _ => dts_nil) (rest3 rfl (by decide) (by decide) (fun _ _ _ _ _ => di_walk (de_var (pv 4))) (fun _ _ _ _ _ => dgc_tup rfl (dgcs_cons (dgc_name (pg_name (i := 5) sc_is_kinds.nd rfl (Or.inl rfl))) (dgcs_cons (dgc_name (pg_name (i := 6) sc_is_kinds.nd rfl (Or.inl rfl))) (dgcs_nil)))) (fun _ _ _ _ _ => dts_nil) (fun _ _ _ _ _ => di_walk (de_var (pv 6))) (fun _ _ _ _ _ => dgc_name (pg_name (i := 7) sc_is_kinds.nd rfl (Or.inl rfl))) (fun _ _ _ _ _ => dts_nil) (fun _ _ _ _ _ => de_cmp (c_din hr.units) (de_var (pv 7)) (de_var (pv 1)) (by with_unfolding_all rfl)))) (da_nil))))) (dss_one (ds_ret (de_bl pe_bl))) (dss_nil))
    (dss_one (ds_ret (de_cmp (c_eq hr.units) (de_callB call_lenDA ok_lenDA (by rfl) T.z_len (by decide +kernel) (da_cons (de_call G_with_trees (hr.mono (by decide)) (by rfl) T.m_with_trees T.F_with_trees.kp T.b_with_trees .nil (fun _ => rfl) pass0 (da_cons (de_var (pv 0)) (da_nil))) (da_nil))) (de_callB call_len ok_len (by rfl) T.z_len (by decide +kernel) (da_cons (de_var (pv 0)) (da_nil))) (nomark _))))))))
/-! ### need_kinds -/
abbrev s_need_kinds : Stmt := topS 38
theorem sc_need_kinds : FnScope ["kinds"] ["kinds"] (defScope s_need_kinds) := ⟨rfl, rfl, rfl, by decide +kernel, rfl, by decide +kernel, by decide +kernel⟩
def td_need_kinds : DTS :=
  dIf (dNotT (dTruth (dCall (sp_is_kinds) [] (dCons (dVar 0) (dNil))))) (dRaise "BadKinds") (dNext)
theorem body_need_kinds {P : Program} {w : World} {K : PySem.W.Frag} {mg : Str → Option Value} {base : Heap} (T : Txt K mg) (G_is_kinds : FnOk P w K mg base CX0 (5) T.a_is_kinds T.d_is_kinds ["thing"] (lSp K (sp_is_kinds))) :
    ∀ (cdv : Value) (A : Around) (outer : List Env) (s : Shared) (H : Hp) (E : XK), Room (5) (A.deeper (envOfC "need_kinds" (defScope s_need_kinds) s.heap.objs.size T.a_need_kinds cdv)) → DSsx (cxOf (L2.CX P w) P w K mg base ["kinds"] "need_kinds" (defScope s_need_kinds) T.a_need_kinds cdv A outer s H E) (fun cls d _ H => E cls d H) (defBody s_need_kinds) (td_need_kinds) :=
  fun cdv A outer s H E hr =>
    dssx_one (dsx_if (dt_not (dt_truth (de_call G_is_kinds (hr.mono (by decide)) (by rfl) T.m_is_kinds T.F_is_kinds.kp T.b_is_kinds .nil (fun _ => rfl) pass0 (da_cons (de_var (pv 0)) (da_nil))))) (dssx_one (dsx_raise rfl (takes_of rfl rfl rfl rfl) PySem.F.excBase_ValueError T.q_BadKinds T.n_BadKinds T.k_BadKinds (T.r_BadKinds _ rfl) (by rfl))) (dssx_nil))
/-! ### need_kind -/
abbrev s_need_kind : Stmt := topS 39
theorem sc_need_kind : FnScope ["kinds", "kind", "index"] ["kinds", "kind"] (defScope s_need_kind) := ⟨rfl, rfl, rfl, by decide +kernel, rfl, by decide +kernel, by decide +kernel⟩
def td_need_kind : DTS :=
  dSeq (dSet 2 (dCall (sp_kind_index) [] (dCons (dVar 0) (dCons (dVar 1) (dNil)))))
    (dSeq (dIf (dTest (dOp fIsA (dVar 2) (dC .non))) (dRaise "BadKind") (dNext))
    (dRet (dVar 2)))
theorem body_need_kind {P : Program} {w : World} {K : PySem.W.Frag} {mg : Str → Option Value} {base : Heap} (T : Txt K mg) (G_kind_index : FnOk P w K mg base CX0 (1) T.a_kind_index T.d_kind_index ["kinds", "kind"] (lSp K (sp_kind_index))) :
    ∀ (cdv : Value) (A : Around) (outer : List Env) (s : Shared) (H : Hp) (E : XK), Room (1) (A.deeper (envOfC "need_kind" (defScope s_need_kind) s.heap.objs.size T.a_need_kind cdv)) → DSsx (cxOf (L2.CX P w) P w K mg base ["kinds", "kind", "index"] "need_kind" (defScope s_need_kind) T.a_need_kind cdv A outer s H E) (fun cls d _ H => E cls d H) (defBody s_need_kind) (td_need_kind) :=
  fun cdv A outer s H E hr =>
    dssx_cons (dsx_lift (ds_set (i := 2) sc_need_kind.nd rfl (Or.inl rfl) (de_call G_kind_index (hr.mono (by decide)) (by rfl) T.m_kind_index T.F_kind_index.kp T.b_kind_index .nil (fun _ => rfl) pass0 (da_cons (de_var (pv 0)) (da_cons (de_var (pv 1)) (da_nil))))))
    (dssx_cons (dsx_if (dt_cmp (c_is) (de_var (pv 2)) (de_non pe_non) (nomark _)) (dssx_one (dsx_raise rfl (takes_of rfl rfl rfl rfl) PySem.F.excBase_ValueError T.q_BadKind T.n_BadKind T.k_BadKind (T.r_BadKind _ rfl) (by rfl))) (dssx_nil))
    (dssx_one (dsx_lift (ds_ret (de_var (pv 2))))))
/-! ### is_tree -/
abbrev s_is_tree : Stmt := topS 42
theorem sc_is_tree : FnScope ["kinds", "kind", "thing", "index"] ["kinds", "kind", "thing"] (defScope s_is_tree) := ⟨rfl, rfl, rfl, by decide +kernel, rfl, by decide +kernel, by decide +kernel⟩
def td_is_tree : DTS :=
  dSeq (dxDrop (dCallX (sp_need_kinds) (dCons (dVar 0) (dNil))))
    (dSeq (dxSet 3 (dCallX (sp_need_kind) (dCons (dVar 0) (dCons (dVar 1) (dNil)))))
    (dNever))
theorem body_is_tree {P : Program} {w : World} {K : PySem.W.Frag} {mg : Str → Option Value} {base : Heap} (T : Txt K mg) (G_need_kind : FnOk P w K mg base (L2.CX P w) (2) T.a_need_kind T.d_need_kind ["kinds", "kind"] (lSpX K mg (sp_need_kind))) (G_need_kinds : FnOk P w K mg base (L2.CX P w) (6) T.a_need_kinds T.d_need_kinds ["kinds"] (lSpX K mg (sp_need_kinds))) :
    ∀ (cdv : Value) (A : Around) (outer : List Env) (s : Shared) (H : Hp) (E : XK), Room (6) (A.deeper (envOfC "is_tree" (defScope s_is_tree) s.heap.objs.size T.a_is_tree cdv)) → DSsx (cxOf (L2.CX P w) P w K mg base ["kinds", "kind", "thing", "index"] "is_tree" (defScope s_is_tree) T.a_is_tree cdv A outer s H E) (fun cls d _ H => E cls d H) (defBody s_is_tree) (td_is_tree) :=
  fun cdv A outer s H E hr =>
    dssx_cons (dsx_expr (dex_call G_need_kinds (takes_of rfl rfl rfl rfl) (hr.mono (by decide)) (by rfl) T.m_need_kinds T.F_need_kinds.kp T.b_need_kinds (da_cons (de_var (pv 0)) (da_nil))))
    (dssx_cons (dsx_set (i := 3) sc_is_tree.nd rfl (Or.inl rfl) (dex_call G_need_kind (takes_of rfl rfl rfl rfl) (hr.mono (by decide)) (by rfl) T.m_need_kind T.F_need_kind.kp T.b_need_kind (da_cons (de_var (pv 0)) (da_cons (de_var (pv 1)) (da_nil)))))
    (dssx_one (dsx_lift (ds_never))))
/-! ### fit_rows -/
abbrev s_fit_rows : Stmt := topS 44
theorem sc_fit_rows : FnScope ["kinds", "thing", "table", "at"] ["kinds", "thing"] (defScope s_fit_rows) := ⟨rfl, rfl, rfl, by decide +kernel, rfl, by decide +kernel, by decide +kernel⟩
def td_fit_rows : DTS :=
  dSeq (dIf (dNotT (dTruth (dCall (sq_is_row) [] (dCons (dVar 1) (dCons (dC (.int 1)) (dCons (dC (.int 4000)) (dNil))))))) (dRet (dC (.bl false))) (dNext))
    (dSeq (dNever)
    (dSeq (dNever)
    (dNever)))
theorem body_fit_rows {P : Program} {w : World} {K : PySem.W.Frag} {mg : Str → Option Value} {base : Heap} (T : Txt K mg) (G_is_row : FnOk P w K mg base CX0 (1) T.a_is_row T.d_is_row ["thing", "low", "high"] (lSp K (sq_is_row))) :
    ∀ (cdv : Value) (A : Around) (outer : List Env) (s : Shared) (H : Hp) (E : XK), Room (3) (A.deeper (envOfC "fit_rows" (defScope s_fit_rows) s.heap.objs.size T.a_fit_rows cdv)) → DSs (cxOf CX0 P w K mg base ["kinds", "thing", "table", "at"] "fit_rows" (defScope s_fit_rows) T.a_fit_rows cdv A outer s H E).nox (defBody s_fit_rows) (td_fit_rows) :=
  fun cdv A outer s H E hr =>
    dss_cons (ds_if (dt_not (dt_truth (de_call G_is_row (hr.mono (by decide)) (by rfl) T.m_is_row T.F_is_row.kp T.b_is_row .nil (fun _ => rfl) pass0 (da_cons (de_var (pv 1)) (da_cons (de_int pe_int) (da_cons (de_int (pe_glob (by rfl) T.g_MOST_ROWS ⟨_, rfl⟩)) (da_nil))))))) (dss_one (ds_ret (de_bl pe_bl))) (dss_nil))
    (dss_cons (ds_never)
    (dss_cons (ds_never)
    (dss_one (ds_never))))
/-! ### need_rows -/
abbrev s_need_rows : Stmt := topS 45
theorem sc_need_rows : FnScope ["kinds", "rows"] ["kinds", "rows"] (defScope s_need_rows) := ⟨rfl, rfl, rfl, by decide +kernel, rfl, by decide +kernel, by decide +kernel⟩
def td_need_rows : DTS :=
  dIf (dNotT (dTruth (dCall (sq_fit_rows) [] (dCons (dVar 0) (dCons (dVar 1) (dNil)))))) (dRaise "BadRows") (dNext)
theorem body_need_rows {P : Program} {w : World} {K : PySem.W.Frag} {mg : Str → Option Value} {base : Heap} (T : Txt K mg) (G_fit_rows : FnOk P w K mg base CX0 (4) T.a_fit_rows T.d_fit_rows ["kinds", "thing"] (lSp K (sq_fit_rows))) :
    ∀ (cdv : Value) (A : Around) (outer : List Env) (s : Shared) (H : Hp) (E : XK), Room (4) (A.deeper (envOfC "need_rows" (defScope s_need_rows) s.heap.objs.size T.a_need_rows cdv)) → DSsx (cxOf (L2.CX P w) P w K mg base ["kinds", "rows"] "need_rows" (defScope s_need_rows) T.a_need_rows cdv A outer s H E) (fun cls d _ H => E cls d H) (defBody s_need_rows) (td_need_rows) :=
  fun cdv A outer s H E hr =>
    dssx_one (dsx_if (dt_not (dt_truth (de_call G_fit_rows (hr.mono (by decide)) (by rfl) T.m_fit_rows T.F_fit_rows.kp T.b_fit_rows .nil (fun _ => rfl) pass0 (da_cons (de_var (pv 0)) (da_cons (de_var (pv 1)) (da_nil)))))) (dssx_one (dsx_raise rfl (takes_of rfl rfl rfl rfl) PySem.F.excBase_ValueError T.q_BadRows T.n_BadRows T.k_BadRows (T.r_BadRows _ rfl) (by rfl))) (dssx_nil))
/-! ### is_rows -/
abbrev s_is_rows : Stmt := topS 46
theorem sc_is_rows : FnScope ["kinds", "thing"] ["kinds", "thing"] (defScope s_is_rows) := ⟨rfl, rfl, rfl, by decide +kernel, rfl, by decide +kernel, by decide +kernel⟩
def td_is_rows : DTS :=
  dSeq (dxDrop (dCallX (sp_need_kinds) (dCons (dVar 0) (dNil))))
    (dRet (dCall (sq_fit_rows) [] (dCons (dVar 0) (dCons (dVar 1) (dNil)))))
theorem body_is_rows {P : Program} {w : World} {K : PySem.W.Frag} {mg : Str → Option Value} {base : Heap} (T : Txt K mg) (G_fit_rows : FnOk P w K mg base CX0 (4) T.a_fit_rows T.d_fit_rows ["kinds", "thing"] (lSp K (sq_fit_rows))) (G_need_kinds : FnOk P w K mg base (L2.CX P w) (6) T.a_need_kinds T.d_need_kinds ["kinds"] (lSpX K mg (sp_need_kinds))) :
    ∀ (cdv : Value) (A : Around) (outer : List Env) (s : Shared) (H : Hp) (E : XK), Room (6) (A.deeper (envOfC "is_rows" (defScope s_is_rows) s.heap.objs.size T.a_is_rows cdv)) → DSsx (cxOf (L2.CX P w) P w K mg base ["kinds", "thing"] "is_rows" (defScope s_is_rows) T.a_is_rows cdv A outer s H E) (fun cls d _ H => E cls d H) (defBody s_is_rows) (td_is_rows) :=
  fun cdv A outer s H E hr =>
    dssx_cons (dsx_expr (dex_call G_need_kinds (takes_of rfl rfl rfl rfl) (hr.mono (by decide)) (by rfl) T.m_need_kinds T.F_need_kinds.kp T.b_need_kinds (da_cons (de_var (pv 0)) (da_nil))))
    (dssx_one (dsx_lift (ds_ret (de_call G_fit_rows (hr.mono (by decide)) (by rfl) T.m_fit_rows T.F_fit_rows.kp T.b_fit_rows .nil (fun _ => rfl) pass0 (da_cons (de_var (pv 0)) (da_cons (de_var (pv 1)) (da_nil)))))))
/-! ### rows_of -/
abbrev s_rows_of : Stmt := topS 48
theorem sc_rows_of : FnScope ["kinds", "kind", "listing", "index", "rows"] ["kinds", "kind", "listing"] (defScope s_rows_of) := ⟨rfl, rfl, rfl, by decide +kernel, rfl, by decide +kernel, by decide +kernel⟩
def td_rows_of : DTS :=
  dSeq (dxDrop (dCallX (sp_need_kinds) (dCons (dVar 0) (dNil))))
    (dSeq (dxSet 3 (dCallX (sp_need_kind) (dCons (dVar 0) (dCons (dVar 1) (dNil)))))
    (dSeq (dNever)
    (dSeq (dNever)
    (dNever))))
theorem body_rows_of {P : Program} {w : World} {K : PySem.W.Frag} {mg : Str → Option Value} {base : Heap} (T : Txt K mg) (G_need_kind : FnOk P w K mg base (L2.CX P w) (2) T.a_need_kind T.d_need_kind ["kinds", "kind"] (lSpX K mg (sp_need_kind))) (G_need_kinds : FnOk P w K mg base (L2.CX P w) (6) T.a_need_kinds T.d_need_kinds ["kinds"] (lSpX K mg (sp_need_kinds))) :
    ∀ (cdv : Value) (A : Around) (outer : List Env) (s : Shared) (H : Hp) (E : XK), Room (6) (A.deeper (envOfC "rows_of" (defScope s_rows_of) s.heap.objs.size T.a_rows_of cdv)) → DSsx (cxOf (L2.CX P w) P w K mg base ["kinds", "kind", "listing", "index", "rows"] "rows_of" (defScope s_rows_of) T.a_rows_of cdv A outer s H E) (fun cls d _ H => E cls d H) (defBody s_rows_of) (td_rows_of) :=
  fun cdv A outer s H E hr =>
    dssx_cons (dsx_expr (dex_call G_need_kinds (takes_of rfl rfl rfl rfl) (hr.mono (by decide)) (by rfl) T.m_need_kinds T.F_need_kinds.kp T.b_need_kinds (da_cons (de_var (pv 0)) (da_nil))))
    (dssx_cons (dsx_set (i := 3) sc_rows_of.nd rfl (Or.inl rfl) (dex_call G_need_kind (takes_of rfl rfl rfl rfl) (hr.mono (by decide)) (by rfl) T.m_need_kind T.F_need_kind.kp T.b_need_kind (da_cons (de_var (pv 0)) (da_cons (de_var (pv 1)) (da_nil)))))
    (dssx_cons (dsx_lift (ds_never))
    (dssx_cons (dsx_lift (ds_never))
    (dssx_one (dsx_lift (ds_never))))))
/-! ### tree_size -/
abbrev s_tree_size : Stmt := topS 49
theorem sc_tree_size : FnScope ["kinds", "rows"] ["kinds", "rows"] (defScope s_tree_size) := ⟨rfl, rfl, rfl, by decide +kernel, rfl, by decide +kernel, by decide +kernel⟩
def td_tree_size : DTS :=
  dSeq (dxDrop (dCallX (sp_need_kinds) (dCons (dVar 0) (dNil))))
    (dSeq (dxDrop (dCallX (sq_need_rows) (dCons (dVar 0) (dCons (dVar 1) (dNil)))))
    (dNever))
theorem body_tree_size {P : Program} {w : World} {K : PySem.W.Frag} {mg : Str → Option Value} {base : Heap} (T : Txt K mg) (G_need_kinds : FnOk P w K mg base (L2.CX P w) (6) T.a_need_kinds T.d_need_kinds ["kinds"] (lSpX K mg (sp_need_kinds))) (G_need_rows : FnOk P w K mg base (L2.CX P w) (5) T.a_need_rows T.d_need_rows ["kinds", "rows"] (lSpX K mg (sq_need_rows))) :
    ∀ (cdv : Value) (A : Around) (outer : List Env) (s : Shared) (H : Hp) (E : XK), Room (6) (A.deeper (envOfC "tree_size" (defScope s_tree_size) s.heap.objs.size T.a_tree_size cdv)) → DSsx (cxOf (L2.CX P w) P w K mg base ["kinds", "rows"] "tree_size" (defScope s_tree_size) T.a_tree_size cdv A outer s H E) (fun cls d _ H => E cls d H) (defBody s_tree_size) (td_tree_size) :=
  fun cdv A outer s H E hr =>
    dssx_cons (dsx_expr (dex_call G_need_kinds (takes_of rfl rfl rfl rfl) (hr.mono (by decide)) (by rfl) T.m_need_kinds T.F_need_kinds.kp T.b_need_kinds (da_cons (de_var (pv 0)) (da_nil))))
    (dssx_cons (dsx_expr (dex_call G_need_rows (takes_of rfl rfl rfl rfl) (hr.mono (by decide)) (by rfl) T.m_need_rows T.F_need_rows.kp T.b_need_rows (da_cons (de_var (pv 0)) (da_cons (de_var (pv 1)) (da_nil)))))
    (dssx_one (dsx_lift (ds_never))))
/-! ### listing_of -/
abbrev s_listing_of : Stmt := topS 50
theorem sc_listing_of : FnScope ["kinds", "rows"] ["kinds", "rows"] (defScope s_listing_of) := ⟨rfl, rfl, rfl, by decide +kernel, rfl, by decide +kernel, by decide +kernel⟩
def td_listing_of : DTS :=
  dSeq (dxDrop (dCallX (sp_need_kinds) (dCons (dVar 0) (dNil))))
    (dSeq (dxDrop (dCallX (sq_need_rows) (dCons (dVar 0) (dCons (dVar 1) (dNil)))))
    (dSeq (dNever)
    (dNever)))
theorem body_listing_of {P : Program} {w : World} {K : PySem.W.Frag} {mg : Str → Option Value} {base : Heap} (T : Txt K mg) (G_need_kinds : FnOk P w K mg base (L2.CX P w) (6) T.a_need_kinds T.d_need_kinds ["kinds"] (lSpX K mg (sp_need_kinds))) (G_need_rows : FnOk P w K mg base (L2.CX P w) (5) T.a_need_rows T.d_need_rows ["kinds", "rows"] (lSpX K mg (sq_need_rows))) :
    ∀ (cdv : Value) (A : Around) (outer : List Env) (s : Shared) (H : Hp) (E : XK), Room (6) (A.deeper (envOfC "listing_of" (defScope s_listing_of) s.heap.objs.size T.a_listing_of cdv)) → DSsx (cxOf (L2.CX P w) P w K mg base ["kinds", "rows"] "listing_of" (defScope s_listing_of) T.a_listing_of cdv A outer s H E) (fun cls d _ H => E cls d H) (defBody s_listing_of) (td_listing_of) :=
  fun cdv A outer s H E hr =>
    dssx_cons (dsx_expr (dex_call G_need_kinds (takes_of rfl rfl rfl rfl) (hr.mono (by decide)) (by rfl) T.m_need_kinds T.F_need_kinds.kp T.b_need_kinds (da_cons (de_var (pv 0)) (da_nil))))
    (dssx_cons (dsx_expr (dex_call G_need_rows (takes_of rfl rfl rfl rfl) (hr.mono (by decide)) (by rfl) T.m_need_rows T.F_need_rows.kp T.b_need_rows (da_cons (de_var (pv 0)) (da_cons (de_var (pv 1)) (da_nil)))))
    (dssx_cons (dsx_lift (ds_never))
    (dssx_one (dsx_lift (ds_never)))))
/-! ### compare_trees -/
abbrev s_compare_trees : Stmt := topS 51
theorem sc_compare_trees : FnScope ["kinds", "one", "other", "table", "moved", "numbers", "first", "second", "maker", "entries", "entry"] ["kinds", "one", "other"] (defScope s_compare_trees) := ⟨rfl, rfl, rfl, by decide +kernel, rfl, by decide +kernel, by decide +kernel⟩
def td_compare_trees : DTS :=
  dSeq (dxDrop (dCallX (sp_need_kinds) (dCons (dVar 0) (dNil))))
    (dSeq (dxDrop (dCallX (sq_need_rows) (dCons (dVar 0) (dCons (dVar 1) (dNil)))))
    (dSeq (dNever)
    (dSeq (dNever)
    (dSeq (dNever)
    (dSeq (dNever)
    (dSeq (dNever)
    (dSeq (dNever)
    (dNever))))))))
theorem body_compare_trees {P : Program} {w : World} {K : PySem.W.Frag} {mg : Str → Option Value} {base : Heap} (T : Txt K mg) (G_need_kinds : FnOk P w K mg base (L2.CX P w) (6) T.a_need_kinds T.d_need_kinds ["kinds"] (lSpX K mg (sp_need_kinds))) (G_need_rows : FnOk P w K mg base (L2.CX P w) (5) T.a_need_rows T.d_need_rows ["kinds", "rows"] (lSpX K mg (sq_need_rows))) :
    ∀ (cdv : Value) (A : Around) (outer : List Env) (s : Shared) (H : Hp) (E : XK), Room (6) (A.deeper (envOfC "compare_trees" (defScope s_compare_trees) s.heap.objs.size T.a_compare_trees cdv)) → DSsx (cxOf (L2.CX P w) P w K mg base ["kinds", "one", "other", "table", "moved", "numbers", "first", "second", "maker", "entries", "entry"] "compare_trees" (defScope s_compare_trees) T.a_compare_trees cdv A outer s H E) (fun cls d _ H => E cls d H) (defBody s_compare_trees) (td_compare_trees) :=
  fun cdv A outer s H E hr =>
    dssx_cons (dsx_expr (dex_call G_need_kinds (takes_of rfl rfl rfl rfl) (hr.mono (by decide)) (by rfl) T.m_need_kinds T.F_need_kinds.kp T.b_need_kinds (da_cons (de_var (pv 0)) (da_nil))))
    (dssx_cons (dsx_expr (dex_call G_need_rows (takes_of rfl rfl rfl rfl) (hr.mono (by decide)) (by rfl) T.m_need_rows T.F_need_rows.kp T.b_need_rows (da_cons (de_var (pv 0)) (da_cons (de_var (pv 1)) (da_nil)))))
    (dssx_cons (dsx_lift (ds_never))
    (dssx_cons (dsx_lift (ds_never))
    (dssx_cons (dsx_lift (ds_never))
    (dssx_cons (dsx_lift (ds_never))
    (dssx_cons (dsx_lift (ds_never))
    (dssx_cons (dsx_lift (ds_never))
    (dssx_one (dsx_lift (ds_never))))))))))
/-! ### _law_well -/
abbrev s__law_well : Stmt := topS 53
theorem sc__law_well : FnScope ["script", "stir", "cell"] ["script"] (defScope s__law_well) := ⟨rfl, rfl, rfl, by decide +kernel, rfl, by decide +kernel, by decide +kernel⟩
def td__law_well : DTS :=
  dSeq (dSet 1 (dC (.int 7)))
    (dSeq (dFor (dWalk (dVar 0)) (dgName 2) (dSet 1 (dOp fMod (dFn fInt (dCons (dOp fAddF (dOp fAddF (dOp fMulF (dVar 1) (dC (.int 48271))) (dOp fMod (dFn fInt (dCons (dVar 2) (dNil))) (dC (.int 2147483629)))) (dC (.int 11))) (dNil))) (dC (.int 2147483647)))))
    (dRet (dLst (dCons (dLc (dWalk (dVar 0)) [2] (dgName 2) (dTest (dOp fGt (dVar 2) (dOp fPow (dC (.int 10)) (dC (.int 18))))) (dOp fSubI (dFn fInt (dCons (dVar 2) (dNil))) (dOp fPow (dC (.int 10)) (dC (.int 18))))) (dCons (dVar 1) (dCons (dC (.int 0)) (dNil)))))))
theorem body__law_well {P : Program} {w : World} {K : PySem.W.Frag} {mg : Str → Option Value} {base : Heap} (T : Txt K mg) :
    ∀ (cdv : Value) (A : Around) (outer : List Env) (s : Shared) (H : Hp) (E : XK), Room (0) (A.deeper (envOfC "_law_well" (defScope s__law_well) s.heap.objs.size T.a__law_well cdv)) → DSs (cxOf CX0 P w K mg base ["script", "stir", "cell"] "_law_well" (defScope s__law_well) T.a__law_well cdv A outer s H E).nox (defBody s__law_well) (td__law_well) :=
  fun cdv A outer s H E hr =>
    dss_cons (ds_set (i := 1) sc__law_well.nd rfl (Or.inl rfl) (de_int pe_int))
    (dss_cons (ds_for PassesOwn.never rfl (di_walk (de_var (pv 0))) (dg_name (pg_name (i := 2) sc__law_well.nd rfl (Or.inl rfl))) (dss_one (ds_set (i := 1) sc__law_well.nd rfl (Or.inl rfl) (de_mod (de_callTy call_int1 ok_int (by rfl) T.z_int (by decide +kernel) (da_cons (de_addF (de_addF (de_mulF (de_var (pv 1)) (de_int pe_int)) (de_mod (de_callTy call_int1 ok_int (by rfl) T.z_int (by decide +kernel) (da_cons (de_var (pv 2)) (da_nil))) (de_int pe_int))) (de_int pe_int)) (da_nil))) (de_int pe_int)))))
    (dss_one (ds_ret (de_lst (da_cons (de_lc (own := [("cell", 2)]) rfl sc__law_well.nd (di_walk (de_var (pv 0))) (blkOk_by (by show blkC ["script", "stir", "cell"] (defScope s__law_well) _ _ = true; decide +kernel)) (fun _ _ _ _ _ => dgc_name (pg_name (i := 2) sc__law_well.nd rfl (Or.inl rfl))) (fun _ _ _ _ _ => dts_one (dt_cmp (c_gt) (de_var (pv 2)) (de_pow (de_int pe_int) (de_int pe_int)) (nomark _))) (fun _ _ _ _ _ => de_sub (de_callTy call_int1 ok_int (by rfl) T.z_int (by decide +kernel) (da_cons (de_var (pv 2)) (da_nil))) (de_pow (de_int pe_int) (de_int pe_int)))) (da_cons (de_var (pv 1)) (da_cons (de_int pe_int) (da_nil))))))))
/-! ### _law_draw -/
abbrev s__law_draw : Stmt := topS 54
theorem sc__law_draw : FnScope ["well", "many", "top"] ["well", "many"] (defScope s__law_draw) := ⟨rfl, rfl, rfl, by decide +kernel, rfl, by decide +kernel, by decide +kernel⟩
def td__law_draw : DTS :=
  dSeq (dIf (dTest (dOp fNeA (dOp fIx (dVar 0) (dC (.int 0))) (dLstF (dNil)))) (dSeq (dSet 2 (dOp fIx (dOp fIx (dVar 0) (dC (.int 0))) (dC (.int 0))))
    (dSeq (dIf (dTest (dOp fLt (dVar 2) (dVar 1))) (dDrop (dMt fPopAt (dOp fIx (dVar 0) (dC (.int 0))) (dCons (dC (.int 0)) (dNil)))) (dAsg (dOp fFdiv (dVar 2) (dVar 1)) (dgSub (dOp fIx (dVar 0) (dC (.int 0))) (dC (.int 0)))))
    (dRet (dOp fMod (dFn fInt (dCons (dVar 2) (dNil))) (dVar 1))))) (dNext))
    (dSeq (dAsg (dOp fAddF (dOp fIx (dVar 0) (dC (.int 2))) (dC (.int 1))) (dgSub (dVar 0) (dC (.int 2))))
    (dSeq (dAsg (dOp fMod (dFn fInt (dCons (dOp fAddF (dOp fAddF (dOp fMulF (dOp fIx (dVar 0) (dC (.int 1))) (dC (.int 48271))) (dOp fMulF (dOp fMulF (dC (.int 69621)) (dOp fIx (dVar 0) (dC (.int 2)))) (dOp fIx (dVar 0) (dC (.int 2))))) (dC (.int 40692))) (dNil))) (dC (.int 2147483647))) (dgSub (dVar 0) (dC (.int 1))))
    (dRet (dOp fMod (dOp fFdiv (dOp fMod (dFn fInt (dCons (dOp fMulF (dOp fIx (dVar 0) (dC (.int 1))) (dOp fIx (dVar 0) (dC (.int 1)))) (dNil))) (dC (.int 2147483629))) (dC (.int 32))) (dVar 1)))))
theorem body__law_draw {P : Program} {w : World} {K : PySem.W.Frag} {mg : Str → Option Value} {base : Heap} (T : Txt K mg) :
    ∀ (cdv : Value) (A : Around) (outer : List Env) (s : Shared) (H : Hp) (E : XK), Room (0) (A.deeper (envOfC "_law_draw" (defScope s__law_draw) s.heap.objs.size T.a__law_draw cdv)) → DSs (cxOf CX0 P w K mg base ["well", "many", "top"] "_law_draw" (defScope s__law_draw) T.a__law_draw cdv A outer s H E).nox (defBody s__law_draw) (td__law_draw) :=
  fun cdv A outer s H E hr =>
    dss_cons (ds_if (dt_cmp (c_ne hr.units) (de_ix (de_var (pv 0)) (de_int pe_int)) (de_lstF (da_nil)) (nomark _)) (dss_cons (ds_set (i := 2) sc__law_draw.nd rfl (Or.inl rfl) (de_ix (de_ix (de_var (pv 0)) (de_int pe_int)) (de_int pe_int)))
    (dss_cons (ds_if (dt_cmp (c_lt) (de_var (pv 2)) (de_var (pv 1)) (nomark _)) (dss_one (ds_expr (de_mt PySem.F.slot_list_pop PySem.F.type_list_pop mt_popAt ok_popAt (de_ix (de_var (pv 0)) (de_int pe_int)) (da_cons (de_int pe_int) (da_nil))))) (dss_one (ds_asg (de_fdiv (de_var (pv 2)) (de_var (pv 1))) (dg_sub (de_ix (de_var (pv 0)) (de_int pe_int)) (de_int pe_int)))))
    (dss_one (ds_ret (de_mod (de_callTy call_int1 ok_int (by rfl) T.z_int (by decide +kernel) (da_cons (de_var (pv 2)) (da_nil))) (de_var (pv 1))))))) (dss_nil))
    (dss_cons (ds_asg (de_addF (de_ix (de_var (pv 0)) (de_int pe_int)) (de_int pe_int)) (dg_sub (de_var (pv 0)) (de_int pe_int)))
    (dss_cons (ds_asg (de_mod (de_callTy call_int1 ok_int (by rfl) T.z_int (by decide +kernel) (da_cons (de_addF (de_addF (de_mulF (de_ix (de_var (pv 0)) (de_int pe_int)) (de_int pe_int)) (de_mulF (de_mulF (de_int pe_int) (de_ix (de_var (pv 0)) (de_int pe_int))) (de_ix (de_var (pv 0)) (de_int pe_int)))) (de_int pe_int)) (da_nil))) (de_int pe_int)) (dg_sub (de_var (pv 0)) (de_int pe_int)))
    (dss_one (ds_ret (de_mod (de_fdiv (de_mod (de_callTy call_int1 ok_int (by rfl) T.z_int (by decide +kernel) (da_cons (de_mulF (de_ix (de_var (pv 0)) (de_int pe_int)) (de_ix (de_var (pv 0)) (de_int pe_int))) (da_nil))) (de_int pe_int)) (de_int pe_int)) (de_var (pv 1)))))))
/-! ### _law_is -/
abbrev s__law_is : Stmt := topS 55
theorem sc__law_is : FnScope ["found", "due"] ["found", "due"] (defScope s__law_is) := ⟨rfl, rfl, rfl, by decide +kernel, rfl, by decide +kernel, by decide +kernel⟩
def td__law_is : DTS :=
  dRet (dAndV (dIs .bool (dVar 0)) (dOp fEqA (dVar 0) (dVar 1)))
theorem body__law_is {P : Program} {w : World} {K : PySem.W.Frag} {mg : Str → Option Value} {base : Heap} (T : Txt K mg) :
    ∀ (cdv : Value) (A : Around) (outer : List Env) (s : Shared) (H : Hp) (E : XK), Room (0) (A.deeper (envOfC "_law_is" (defScope s__law_is) s.heap.objs.size T.a__law_is cdv)) → DSs (cxOf CX0 P w K mg base ["found", "due"] "_law_is" (defScope s__law_is) T.a__law_is cdv A outer s H E).nox (defBody s__law_is) (td__law_is) :=
  fun cdv A outer s H E hr =>
    dss_one (ds_ret (de_and (de_isi .bool (by rfl) T.z_isinstance (de_var (pv 0)) (de_ty (pe_bltn (v := .ty "bool") (by rfl) T.z_bool (by decide +kernel) rfl))) (de_one (de_cmp (c_eq hr.units) (de_var (pv 0)) (de_var (pv 1)) (nomark _)))))
/-! ### _law_name -/
abbrev s__law_name : Stmt := topS 56
theorem sc__law_name : FnScope ["well", "taken", "high", "low", "signs", "words", "head", "body", "old", "at", "found", "k"] ["well", "taken", "high"] (defScope s__law_name) := ⟨rfl, rfl, rfl, by decide +kernel, rfl, by decide +kernel, by decide +kernel⟩
def td__law_name : DTS :=
  dSeq (dSet 3 (dC (.str "abcdefghijklmnopqrstuvwxyz")))
    (dSeq (dAsg (dTup (dCons (dOp fAddF (dOp fAddF (dVar 3) (dUpp (dVar 3))) (dC (.str "0123456789"))) (dCons (dLstF (dCons (dC (.str "kind")) (dCons (dC (.str "letters")) (dCons (dC (.str "none")) (dCons (dC (.str "start")) (dCons (dC (.str "state")) (dCons (dC (.str "words")) (dNil)))))))) (dNil)))) (dgTup 2 (dgCons (dgName 4) (dgCons (dgName 5) (dgNil)))))
    (dSeq (dSet 6 (dOp fIx (dVar 3) (dCall (sp__law_draw) [] (dCons (dVar 0) (dCons (dC (.int 26)) (dNil))))))
    (dSeq (dSet 7 (dJoin (dC (.str "")) (dLcF (dRng1 (dCall (sp__law_draw) [] (dCons (dVar 0) (dCons (dOp fIx (dLstF (dCons (dC (.int 2)) (dCons (dC (.int 4)) (dCons (dC (.int 10)) (dNil))))) (dCall (sp__law_draw) [] (dCons (dVar 0) (dCons (dC (.int 3)) (dNil))))) (dNil))))) [11] (dgName 11) (dYes) (dOp fIx (dVar 4) (dCall (sp__law_draw) [] (dCons (dVar 0) (dCons (dC (.int 62)) (dNil))))))))
    (dCut (dIf (dTest (dOp fEqA (dCall (sp__law_draw) [] (dCons (dVar 0) (dCons (dC (.int 2)) (dNil)))) (dC (.int 0)))) (dSeq (dSet 8 (dOp fIx (dOp fAddF (dVar 1) (dVar 5)) (dCall (sp__law_draw) [] (dCons (dVar 0) (dCons (dOp fAddF (dFn fLen (dCons (dVar 1) (dNil))) (dC (.int 6))) (dNil))))))
    (dSeq (dSet 9 (dOp fAddF (dC (.int 1)) (dCall (sp__law_draw) [] (dCons (dVar 0) (dCons (dFn fLen (dCons (dVar 8) (dNil))) (dNil))))))
    (dSeq (dSet 6 (dLow (dOp fIx (dVar 8) (dC (.int 0)))))
    (dSet 7 (dSlG (dOp fAddF (dOp fAddF (dSlG (dVar 8) (dNoPart) (dPart (dVar 9))) (dOp fIx (dLstF (dCons (dC (.str "")) (dCons (dOp fIx (dVar 4) (dCall (sp__law_draw) [] (dCons (dVar 0) (dCons (dC (.int 62)) (dNil))))) (dNil)))) (dCall (sp__law_draw) [] (dCons (dVar 0) (dCons (dC (.int 2)) (dNil)))))) (dSlG (dVar 8) (dPart (dOp fAddF (dVar 9) (dCall (sp__law_draw) [] (dCons (dVar 0) (dCons (dC (.int 2)) (dNil)))))) (dNoPart))) (dPart (dC (.int 1))) (dPart (dC (.int 10)))))))) (dNext))
    (dSeq (dSet 10 (dOp fAddF (dOp fIx (dLstF (dCons (dVar 6) (dCons (dUpp (dVar 6)) (dNil)))) (dFn fInt (dCons (dVar 2) (dNil)))) (dVar 7)))
    (dCut (dIf (dOrT (dTest (dOp fInA (dVar 10) (dVar 1))) (dTest (dOp fInA (dVar 10) (dVar 5)))) (dSet 10 (dOp fIx (dLcF (dRng1 (dC (.int 400))) [11] (dgName 11) (dTest (dOp fNotInA (dOp fAddF (dOp fIx (dVar 10) (dC (.int 0))) (dFn fStr (dCons (dVar 11) (dNil)))) (dVar 1))) (dOp fAddF (dOp fIx (dVar 10) (dC (.int 0))) (dFn fStr (dCons (dVar 11) (dNil))))) (dC (.int 0)))) (dNext))
    (dRet (dVar 10))))))))
theorem body__law_name {P : Program} {w : World} {K : PySem.W.Frag} {mg : Str → Option Value} {base : Heap} (T : Txt K mg) (G__law_draw : FnOk P w K mg base CX0 (1) T.a__law_draw T.d__law_draw ["well", "many"] (lSp K (sp__law_draw))) :
    ∀ (cdv : Value) (A : Around) (outer : List Env) (s : Shared) (H : Hp) (E : XK), Room (1) (A.deeper (envOfC "_law_name" (defScope s__law_name) s.heap.objs.size T.a__law_name cdv)) → DSs (cxOf CX0 P w K mg base ["well", "taken", "high", "low", "signs", "words", "head", "body", "old", "at", "found", "k"] "_law_name" (defScope s__law_name) T.a__law_name cdv A outer s H E).nox (defBody s__law_name) (td__law_name) :=
  fun cdv A outer s H E hr =>
    dss_cons (ds_set (i := 3) sc__law_name.nd rfl (Or.inl rfl) (de_str pe_str))
    (dss_cons (ds_asg (de_tup (da_cons (de_addF (de_addF (de_var (pv 3)) (de_upper (de_var (pv 3)))) (de_str pe_str)) (da_cons (de_lstF (da_cons (de_str pe_str) (da_cons (de_str pe_str) (da_cons (de_str pe_str) (da_cons (de_str pe_str) (da_cons (de_str pe_str) (da_cons (de_str pe_str) (da_nil)))))))) (da_nil)))) (dg_tup rfl (dgs_cons (dg_name (pg_name (i := 4) sc__law_name.nd rfl (Or.inr rfl))) (dgs_cons (dg_name (pg_name (i := 5) sc__law_name.nd rfl (Or.inl rfl))) (dgs_nil)))))
    (dss_cons (ds_set (i := 6) sc__law_name.nd rfl (Or.inl rfl) (de_ix (de_var (pv 3)) (de_call G__law_draw (hr.mono (by decide)) (by rfl) T.m__law_draw T.F__law_draw.kp T.b__law_draw .nil (fun _ => rfl) pass0 (da_cons (de_var (pv 0)) (da_cons (de_int pe_int) (da_nil))))))
    (dss_cons (ds_set (i := 7) sc__law_name.nd rfl (Or.inl rfl) (de_join (de_str pe_str) (de_lcF (own := [("k", 11)]) rfl sc__law_name.nd (di_range1 (by rfl) T.z_range (de_call G__law_draw (hr.mono (by decide)) (by rfl) T.m__law_draw T.F__law_draw.kp T.b__law_draw .nil (fun _ => rfl) pass0 (da_cons (de_var (pv 0)) (da_cons (de_ix (de_lstF (da_cons (de_int pe_int) (da_cons (de_int pe_int) (da_cons (de_int pe_int) (da_nil))))) (de_call G__law_draw (hr.mono (by decide)) (by rfl) T.m__law_draw T.F__law_draw.kp T.b__law_draw .nil (fun _ => rfl) pass0 (da_cons (de_var (pv 0)) (da_cons (de_int pe_int) (da_nil))))) (da_nil))))) (blkOk_by (by show blkC ["well", "taken", "high", "low", "signs", "words", "head", "body", "old", "at", "found", "k"] (defScope s__law_name) _ _ = true; decide +kernel)) (fun _ _ _ _ _ => dgc_name (pg_name (i := 11) sc__law_name.nd rfl (Or.inl rfl))) (fun _ _ _ _ _ => dts_nil) (fun _ _ _ _ _ => de_ix (de_var (pv 4)) (de_call G__law_draw (hr.mono (by decide)) (by rfl) T.m__law_draw T.F__law_draw.kp T.b__law_draw .nil (fun _ => rfl) pass0 (da_cons (de_var (pv 0)) (da_cons (de_int pe_int) (da_nil))))))))
    (dss_cut (ds_if (dt_cmp (c_eq hr.units) (de_call G__law_draw (hr.mono (by decide)) (by rfl) T.m__law_draw T.F__law_draw.kp T.b__law_draw .nil (fun _ => rfl) pass0 (da_cons (de_var (pv 0)) (da_cons (de_int pe_int) (da_nil)))) (de_int pe_int) (nomark _)) (dss_cons (ds_set (i := 8) sc__law_name.nd rfl (Or.inl rfl) (de_ix (de_addF (de_var (pv 1)) (de_var (pv 5))) (de_call G__law_draw (hr.mono (by decide)) (by rfl) T.m__law_draw T.F__law_draw.kp T.b__law_draw .nil (fun _ => rfl) pass0 (da_cons (de_var (pv 0)) (da_cons (de_addF (de_callB call_len ok_len (by rfl) T.z_len (by decide +kernel) (da_cons (de_var (pv 1)) (da_nil))) (de_int pe_int)) (da_nil))))))
    (dss_cons (ds_set (i := 9) sc__law_name.nd rfl (Or.inl rfl) (de_addF (de_int pe_int) (de_call G__law_draw (hr.mono (by decide)) (by rfl) T.m__law_draw T.F__law_draw.kp T.b__law_draw .nil (fun _ => rfl) pass0 (da_cons (de_var (pv 0)) (da_cons (de_callB call_len ok_len (by rfl) T.z_len (by decide +kernel) (da_cons (de_var (pv 8)) (da_nil))) (da_nil))))))
    (dss_cons (ds_set (i := 6) sc__law_name.nd rfl (Or.inl rfl) (de_lower (de_ix (de_var (pv 8)) (de_int pe_int))))
    (dss_one (ds_set (i := 7) sc__law_name.nd rfl (Or.inl rfl) (de_sliceG (de_addF (de_addF (de_sliceG (de_var (pv 8)) (do_none) (do_some (de_var (pv 9)))) (de_ix (de_lstF (da_cons (de_str pe_str) (da_cons (de_ix (de_var (pv 4)) (de_call G__law_draw (hr.mono (by decide)) (by rfl) T.m__law_draw T.F__law_draw.kp T.b__law_draw .nil (fun _ => rfl) pass0 (da_cons (de_var (pv 0)) (da_cons (de_int pe_int) (da_nil))))) (da_nil)))) (de_call G__law_draw (hr.mono (by decide)) (by rfl) T.m__law_draw T.F__law_draw.kp T.b__law_draw .nil (fun _ => rfl) pass0 (da_cons (de_var (pv 0)) (da_cons (de_int pe_int) (da_nil)))))) (de_sliceG (de_var (pv 8)) (do_some (de_addF (de_var (pv 9)) (de_call G__law_draw (hr.mono (by decide)) (by rfl) T.m__law_draw T.F__law_draw.kp T.b__law_draw .nil (fun _ => rfl) pass0 (da_cons (de_var (pv 0)) (da_cons (de_int pe_int) (da_nil)))))) (do_none))) (do_some (de_int pe_int)) (do_some (de_int pe_int)))))))) (dss_nil))
    (dss_cons (ds_set (i := 10) sc__law_name.nd rfl (Or.inr rfl) (de_addF (de_ix (de_lstF (da_cons (de_var (pv 6)) (da_cons (de_upper (de_var (pv 6))) (da_nil)))) (de_callTy call_int1 ok_int (by rfl) T.z_int (by decide +kernel) (da_cons (de_var (pv 2)) (da_nil)))) (de_var (pv 7))))
    (dss_cut (ds_if (dt_w (dw_or (dt_cmp (c_in hr.units) (de_var (pv 10)) (de_var (pv 1)) (by with_unfolding_all rfl)) (dw_or1 (dt_cmp (c_in hr.units) (de_var (pv 10)) (de_var (pv 5)) (by with_unfolding_all rfl))))) (dss_one (ds_set (i := 10) sc__law_name.nd rfl (Or.inr rfl) (de_ix (de_lcF (own := [("k", 11)]) rfl sc__law_name.nd (di_range1 (by rfl) T.z_range (de_int pe_int)) (blkOk_by (by show blkC ["well", "taken", "high", "low", "signs", "words", "head", "body", "old", "at", "found", "k"] (defScope s__law_name) _ _ = true; decide +kernel)) (fun _ _ _ _ _ => dgc_name (pg_name (i := 11) sc__law_name.nd rfl (Or.inl rfl))) (fun _ _ _ _ _ => dts_one (dt_cmp (c_notIn hr.units) (de_addF (de_ix (de_var (pv 10)) (de_int pe_int)) (de_callTy call_strA ok_str (by rfl) T.z_str (by decide +kernel) (da_cons (de_var (pv 11)) (da_nil)))) (de_var (pv 1)) (by with_unfolding_all rfl))) (fun _ _ _ _ _ => de_addF (de_ix (de_var (pv 10)) (de_int pe_int)) (de_callTy call_strA ok_str (by rfl) T.z_str (by decide +kernel) (da_cons (de_var (pv 11)) (da_nil))))) (de_int pe_int)))) (dss_nil))
    (dss_one (ds_ret (de_var (pv 10))))))))))
/-! ### _law_kinds -/
abbrev s__law_kinds : Stmt := topS 57
theorem sc__law_kinds : FnScope ["well", "most", "titles", "makers", "found", "done", "k", "left", "title", "some", "maker", "sorts", "many", "turn", "j"] ["well", "most"] (defScope s__law_kinds) := ⟨rfl, rfl, rfl, by decide +kernel, rfl, by decide +kernel, by decide +kernel⟩
def td__law_kinds : DTS :=
  dSeq (dAsg (dTup (dCons (dLst (dNil)) (dCons (dLst (dNil)) (dCons (dDic0) (dCons (dLst (dNil)) (dNil)))))) (dgTup 4 (dgCons (dgName 2) (dgCons (dgName 3) (dgCons (dgName 4) (dgCons (dgName 5) (dgNil)))))))
    (dSeq (dFor (dRng1 (dOp fAddF (dC (.int 1)) (dCall (sp__law_draw) [] (dCons (dVar 0) (dCons (dVar 1) (dNil)))))) (dgName 6) (dDrop (dMt fAppend (dVar 2) (dCons (dCall (sp__law_name) [] (dCons (dVar 0) (dCons (dVar 2) (dCons (dC (.bl true)) (dNil))))) (dNil)))))
    (dSeq (dSet 7 (dFn fList (dCons (dVar 2) (dNil))))
    (dSeq (dWhile (dTest (dOp fNeA (dVar 7) (dLstF (dNil)))) (dSeq (dPar [8, 9] (dCons (dMt fPopAt (dVar 7) (dCons (dCall (sp__law_draw) [] (dCons (dVar 0) (dCons (dFn fLen (dCons (dVar 7) (dNil))) (dNil)))) (dNil))) (dCons (dLst (dNil)) (dNil))))
    (dSeq (dFor (dRng1 (dOp fAddF (dC (.int 1)) (dCall (sp__law_draw) [] (dCons (dVar 0) (dCons (dOp fIx (dLstF (dCons (dC (.int 2)) (dCons (dC (.int 3)) (dCons (dC (.int 6)) (dNil))))) (dCall (sp__law_draw) [] (dCons (dVar 0) (dCons (dC (.int 3)) (dNil))))) (dNil)))))) (dgName 6) (dSeq (dSet 10 (dCall (sp__law_name) [] (dCons (dVar 0) (dCons (dVar 3) (dCons (dC (.bl true)) (dNil))))))
    (dCut (dIf (dAndT (dTest (dOp fNotInA (dVar 8) (dVar 3))) (dTest (dOp fEqA (dCall (sp__law_draw) [] (dCons (dVar 0) (dCons (dC (.int 5)) (dNil)))) (dC (.int 0))))) (dSet 10 (dVar 8)) (dNext))
    (dSeq (dDrop (dMt fAppend (dVar 3) (dCons (dVar 10) (dNil))))
    (dSeq (dAsg (dTup (dCons (dOp fIx (dLstF (dCons (dVar 2) (dCons (dVar 5) (dNil)))) (dFn fInt (dCons (dOp fEqA (dVar 6) (dC (.int 0))) (dNil)))) (dCons (dOp fIx (dLstF (dCons (dC (.int 0)) (dCons (dC (.int 1)) (dCons (dC (.int 2)) (dCons (dC (.int 2)) (dCons (dC (.int 3)) (dCons (dC (.int 4)) (dNil)))))))) (dCall (sp__law_draw) [] (dCons (dVar 0) (dCons (dC (.int 6)) (dNil))))) (dNil)))) (dgTup 2 (dgCons (dgName 11) (dgCons (dgName 12) (dgNil)))))
    (dDrop (dMt fAppend (dVar 9) (dCons (dTup (dCons (dVar 10) (dCons (dIfE (dTest (dOp fNeA (dVar 11) (dLstF (dNil)))) (dFn fTuple (dCons (dLcF (dRng1 (dVar 12)) [14] (dgName 14) (dYes) (dOp fIx (dVar 11) (dCall (sp__law_draw) [] (dCons (dVar 0) (dCons (dFn fLen (dCons (dVar 11) (dNil))) (dNil)))))) (dNil))) (dTup (dNil))) (dNil)))) (dNil)))))))))
    (dSeq (dSet 13 (dCall (sp__law_draw) [] (dCons (dVar 0) (dCons (dFn fLen (dCons (dVar 9) (dNil))) (dNil)))))
    (dSeq (dDPut (dVar 4) (dVar 8) (dFn fTuple (dCons (dOp fAddF (dSlF (dVar 9) (dPart (dVar 13)) (dNoPart)) (dSlF (dVar 9) (dNoPart) (dPart (dVar 13)))) (dNil))))
    (dDrop (dMt fAppend (dVar 5) (dCons (dVar 8) (dNil)))))))))
    (dRet (dFn fTuple (dCons (dLcF (dWalk (dVar 2)) [8] (dgName 8) (dYes) (dTup (dCons (dVar 8) (dCons (dOp fDx (dVar 4) (dVar 8)) (dNil))))) (dNil)))))))
theorem body__law_kinds {P : Program} {w : World} {K : PySem.W.Frag} {mg : Str → Option Value} {base : Heap} (T : Txt K mg) (G__law_draw : FnOk P w K mg base CX0 (1) T.a__law_draw T.d__law_draw ["well", "many"] (lSp K (sp__law_draw))) (G__law_name : FnOk P w K mg base CX0 (2) T.a__law_name T.d__law_name ["well", "taken", "high"] (lSp K (sp__law_name))) :
    ∀ (cdv : Value) (A : Around) (outer : List Env) (s : Shared) (H : Hp) (E : XK), Room (2) (A.deeper (envOfC "_law_kinds" (defScope s__law_kinds) s.heap.objs.size T.a__law_kinds cdv)) → DSs (cxOf CX0 P w K mg base ["well", "most", "titles", "makers", "found", "done", "k", "left", "title", "some", "maker", "sorts", "many", "turn", "j"] "_law_kinds" (defScope s__law_kinds) T.a__law_kinds cdv A outer s H E).nox (defBody s__law_kinds) (td__law_kinds) :=
  fun cdv A outer s H E hr =>
    dss_cons (ds_asg (de_tup (da_cons (de_lst (da_nil)) (da_cons (de_lst (da_nil)) (da_cons (de_dic0) (da_cons (de_lst (da_nil)) (da_nil)))))) (dg_tup rfl (dgs_cons (dg_name (pg_name (i := 2) sc__law_kinds.nd rfl (Or.inl rfl))) (dgs_cons (dg_name (pg_name (i := 3) sc__law_kinds.nd rfl (Or.inl rfl))) (dgs_cons (dg_name (pg_name (i := 4) sc__law_kinds.nd rfl (Or.inr rfl))) (dgs_cons (dg_name (pg_name (i := 5) sc__law_kinds.nd rfl (Or.inl rfl))) (dgs_nil)))))))
    (dss_cons (ds_for PassesOwn.never rfl (di_range1 (by rfl) T.z_range (de_addF (de_int pe_int) (de_call G__law_draw (hr.mono (by decide)) (by rfl) T.m__law_draw T.F__law_draw.kp T.b__law_draw .nil (fun _ => rfl) pass0 (da_cons (de_var (pv 0)) (da_cons (de_var (pv 1)) (da_nil)))))) (dg_name (pg_name (i := 6) sc__law_kinds.nd rfl (Or.inl rfl))) (dss_one (ds_expr (de_mt PySem.F.slot_list_append PySem.F.type_list_append mt_append ok_append (de_var (pv 2)) (da_cons (de_call G__law_name (hr.mono (by decide)) (by rfl) T.m__law_name T.F__law_name.kp T.b__law_name .nil (fun _ => rfl) pass0 (da_cons (de_var (pv 0)) (da_cons (de_var (pv 2)) (da_cons (de_bl pe_bl) (da_nil))))) (da_nil))))))
    (dss_cons (ds_set (i := 7) sc__law_kinds.nd rfl (Or.inl rfl) (de_callTy call_list_of ok_list (by rfl) T.z_list (by decide +kernel) (da_cons (de_var (pv 2)) (da_nil))))
    (dss_cons (ds_while PassesOwn.never (dt_cmp (c_ne hr.units) (de_var (pv 7)) (de_lstF (da_nil)) (nomark _)) (dss_cons (ds_par (i := 8) (j := 9) rfl sc__law_kinds.nd rfl rfl (by decide) rfl rfl (da_cons (de_mt PySem.F.slot_list_pop PySem.F.type_list_pop mt_popAt ok_popAt (de_var (pv 7)) (da_cons (de_call G__law_draw (hr.mono (by decide)) (by rfl) T.m__law_draw T.F__law_draw.kp T.b__law_draw .nil (fun _ => rfl) pass0 (da_cons (de_var (pv 0)) (da_cons (de_callB call_len ok_len (by rfl) T.z_len (by decide +kernel) (da_cons (de_var (pv 7)) (da_nil))) (da_nil)))) (da_nil))) (da_cons (de_lst (da_nil)) (da_nil))))
    (dss_cons (ds_for PassesOwn.never rfl (di_range1 (by rfl) T.z_range (de_addF (de_int pe_int) (de_call G__law_draw (hr.mono (by decide)) (by rfl) T.m__law_draw T.F__law_draw.kp T.b__law_draw .nil (fun _ => rfl) pass0 (da_cons (de_var (pv 0)) (da_cons (de_ix (de_lstF (da_cons (de_int pe_int) (da_cons (de_int pe_int) (da_cons (de_int pe_int) (da_nil))))) (de_call G__law_draw (hr.mono (by decide)) (by rfl) T.m__law_draw T.F__law_draw.kp T.b__law_draw .nil (fun _ => rfl) pass0 (da_cons (de_var (pv 0)) (da_cons (de_int pe_int) (da_nil))))) (da_nil)))))) (dg_name (pg_name (i := 6) sc__law_kinds.nd rfl (Or.inl rfl))) (dss_cons (ds_set (i := 10) sc__law_kinds.nd rfl (Or.inl rfl) (de_call G__law_name (hr.mono (by decide)) (by rfl) T.m__law_name T.F__law_name.kp T.b__law_name .nil (fun _ => rfl) pass0 (da_cons (de_var (pv 0)) (da_cons (de_var (pv 3)) (da_cons (de_bl pe_bl) (da_nil))))))
    (dss_cut (ds_if (dt_w (dw_and (dt_cmp (c_notIn hr.units) (de_var (pv 8)) (de_var (pv 3)) (by with_unfolding_all rfl)) (dw_and1 (dt_cmp (c_eq hr.units) (de_call G__law_draw (hr.mono (by decide)) (by rfl) T.m__law_draw T.F__law_draw.kp T.b__law_draw .nil (fun _ => rfl) pass0 (da_cons (de_var (pv 0)) (da_cons (de_int pe_int) (da_nil)))) (de_int pe_int) (nomark _))))) (dss_one (ds_set (i := 10) sc__law_kinds.nd rfl (Or.inl rfl) (de_var (pv 8)))) (dss_nil))
    (dss_cons (ds_expr (de_mt PySem.F.slot_list_append PySem.F.type_list_append mt_append ok_append (de_var (pv 3)) (da_cons (de_var (pv 10)) (da_nil))))
    (dss_cons (ds_asg (de_tup (da_cons (de_ix (de_lstF (da_cons (de_var (pv 2)) (da_cons (de_var (pv 5)) (da_nil)))) (de_callTy call_int1 ok_int (by rfl) T.z_int (by decide +kernel) (da_cons (de_cmp (c_eq hr.units) (de_var (pv 6)) (de_int pe_int) (nomark _)) (da_nil)))) (da_cons (de_ix (de_lstF (da_cons (de_int pe_int) (da_cons (de_int pe_int) (da_cons (de_int pe_int) (da_cons (de_int pe_int) (da_cons (de_int pe_int) (da_cons (de_int pe_int) (da_nil)))))))) (de_call G__law_draw (hr.mono (by decide)) (by rfl) T.m__law_draw T.F__law_draw.kp T.b__law_draw .nil (fun _ => rfl) pass0 (da_cons (de_var (pv 0)) (da_cons (de_int pe_int) (da_nil))))) (da_nil)))) (dg_tup rfl (dgs_cons (dg_name (pg_name (i := 11) sc__law_kinds.nd rfl (Or.inr rfl))) (dgs_cons (dg_name (pg_name (i := 12) sc__law_kinds.nd rfl (Or.inl rfl))) (dgs_nil)))))
    (dss_one (ds_expr (de_mt PySem.F.slot_list_append PySem.F.type_list_append mt_append ok_append (de_var (pv 9)) (da_cons (de_tup (da_cons (de_var (pv 10)) (da_cons (de_if (dt_cmp (c_ne hr.units) (de_var (pv 11)) (de_lstF (da_nil)) (nomark _)) (de_callTy call_tuple_of ok_tuple (by rfl) T.z_tuple (by decide +kernel) (da_cons (de_lcF (own := [("j", 14)]) rfl sc__law_kinds.nd (di_range1 (by rfl) T.z_range (de_var (pv 12))) (blkOk_by (by show blkC ["well", "most", "titles", "makers", "found", "done", "k", "left", "title", "some", "maker", "sorts", "many", "turn", "j"] (defScope s__law_kinds) _ _ = true; decide +kernel)) (fun _ _ _ _ _ => dgc_name (pg_name (i := 14) sc__law_kinds.nd rfl (Or.inl rfl))) (fun _ _ _ _ _ => dts_nil) (fun _ _ _ _ _ => de_ix (de_var (pv 11)) (de_call G__law_draw (hr.mono (by decide)) (by rfl) T.m__law_draw T.F__law_draw.kp T.b__law_draw .nil (fun _ => rfl) pass0 (da_cons (de_var (pv 0)) (da_cons (de_callB call_len ok_len (by rfl) T.z_len (by decide +kernel) (da_cons (de_var (pv 11)) (da_nil))) (da_nil)))))) (da_nil))) (de_tup (da_nil))) (da_nil)))) (da_nil))))))))))
    (dss_cons (ds_set (i := 13) sc__law_kinds.nd rfl (Or.inl rfl) (de_call G__law_draw (hr.mono (by decide)) (by rfl) T.m__law_draw T.F__law_draw.kp T.b__law_draw .nil (fun _ => rfl) pass0 (da_cons (de_var (pv 0)) (da_cons (de_callB call_len ok_len (by rfl) T.z_len (by decide +kernel) (da_cons (de_var (pv 9)) (da_nil))) (da_nil)))))
    (dss_cons (ds_dput (hu_of hr) (de_var (pv 4)) (de_var (pv 8)) (de_callTy call_tuple_of ok_tuple (by rfl) T.z_tuple (by decide +kernel) (da_cons (de_addF (de_sliceF (de_var (pv 9)) (do_some (de_var (pv 13))) (do_none)) (de_sliceF (de_var (pv 9)) (do_none) (do_some (de_var (pv 13))))) (da_nil))))
    (dss_one (ds_expr (de_mt PySem.F.slot_list_append PySem.F.type_list_append mt_append ok_append (de_var (pv 5)) (da_cons (de_var (pv 8)) (da_nil))))))))))
    (dss_one (ds_ret (de_callTy call_tuple_of ok_tuple (by rfl) T.z_tuple (by decide +kernel) (da_cons (de_lcF (own := [("title", 8)]) rfl sc__law_kinds.nd (di_walk (de_var (pv 2))) (blkOk_by (by show blkC ["well", "most", "titles", "makers", "found", "done", "k", "left", "title", "some", "maker", "sorts", "many", "turn", "j"] (defScope s__law_kinds) _ _ = true; decide +kernel)) (fun _ _ _ _ _ => dgc_name (pg_name (i := 8) sc__law_kinds.nd rfl (Or.inl rfl))) (fun _ _ _ _ _ => dts_nil) (fun _ _ _ _ _ => de_tup (da_cons (de_var (pv 8)) (da_cons (de_dx (hu_of hr) (de_var (pv 4)) (de_var (pv 8)) (fun _ _ => rfl)) (da_nil))))) (da_nil))))))))
/-! ### _law_is_name -/
abbrev s__law_is_name : Stmt := topS 58
theorem sc__law_is_name : FnScope ["value", "high", "low", "sign"] ["value", "high"] (defScope s__law_is_name) := ⟨rfl, rfl, rfl, by decide +kernel, rfl, by decide +kernel, by decide +kernel⟩
def td__law_is_name : DTS :=
  dSeq (dSet 2 (dC (.str "abcdefghijklmnopqrstuvwxyz")))
    (dSeq (dIf (dOrT (dNotT (dTruth (dIs .str (dVar 0)))) (dOrT (dTest (dInR (fun k => !k) (dFn fLen (dCons (dVar 0) (dNil))) (dC (.int 1)) (dC (.int 11)))) (dTest (dOp fInA (dVar 0) (dTup (dCons (dC (.str "kind")) (dCons (dC (.str "letters")) (dCons (dC (.str "none")) (dCons (dC (.str "start")) (dCons (dC (.str "state")) (dCons (dC (.str "words")) (dNil)))))))))))) (dRet (dC (.bl false))) (dNext))
    (dSeq (dIf (dTest (dOp fNotInSA (dOp fIx (dVar 0) (dC (.int 0))) (dOp fIx (dLstF (dCons (dVar 2) (dCons (dUpp (dVar 2)) (dNil)))) (dFn fInt (dCons (dVar 1) (dNil)))))) (dRet (dC (.bl false))) (dNext))
    (dRet (dFn fAll (dCons (dLcF (dWalkS (dVar 0)) [3] (dgName 3) (dYes) (dOp fInSA (dVar 3) (dOp fAddF (dOp fAddF (dVar 2) (dUpp (dVar 2))) (dC (.str "0123456789"))))) (dNil))))))
theorem body__law_is_name {P : Program} {w : World} {K : PySem.W.Frag} {mg : Str → Option Value} {base : Heap} (T : Txt K mg) :
    ∀ (cdv : Value) (A : Around) (outer : List Env) (s : Shared) (H : Hp) (E : XK), Room (0) (A.deeper (envOfC "_law_is_name" (defScope s__law_is_name) s.heap.objs.size T.a__law_is_name cdv)) → DSs (cxOf CX0 P w K mg base ["value", "high", "low", "sign"] "_law_is_name" (defScope s__law_is_name) T.a__law_is_name cdv A outer s H E).nox (defBody s__law_is_name) (td__law_is_name) :=
  fun cdv A outer s H E hr =>
    dss_cons (ds_set (i := 2) sc__law_is_name.nd rfl (Or.inr rfl) (de_str pe_str))
    (dss_cons (ds_if (dt_w (dw_or (dt_not (dt_truth (de_isi .str (by rfl) T.z_isinstance (de_var (pv 0)) (de_ty (pe_bltn (v := .ty "str") (by rfl) T.z_str (by decide +kernel) rfl))))) (dw_or (dt_notInR2 (de_callB call_len ok_len (by rfl) T.z_len (by decide +kernel) (da_cons (de_var (pv 0)) (da_nil))) (pe_rng2 (by rfl) T.z_range (de_int pe_int) (de_int pe_int)) (by with_unfolding_all rfl)) (dw_or1 (dt_cmp (c_in hr.units) (de_var (pv 0)) (de_tup (da_cons (de_str pe_str) (da_cons (de_str pe_str) (da_cons (de_str pe_str) (da_cons (de_str pe_str) (da_cons (de_str pe_str) (da_cons (de_str pe_str) (da_nil)))))))) (by with_unfolding_all rfl)))))) (dss_one (ds_ret (de_bl pe_bl))) (dss_nil))
    (dss_cons (ds_if (dt_cmp (c_notInS hr.units) (de_ix (de_var (pv 0)) (de_int pe_int)) (de_ix (de_lstF (da_cons (de_var (pv 2)) (da_cons (de_upper (de_var (pv 2))) (da_nil)))) (de_callTy call_int1 ok_int (by rfl) T.z_int (by decide +kernel) (da_cons (de_var (pv 1)) (da_nil)))) (by with_unfolding_all rfl)) (dss_one (ds_ret (de_bl pe_bl))) (dss_nil))
    (dss_one (ds_ret (de_callB (cr_all rfl) ok_all (by rfl) T.z_all (by decide +kernel) (da_cons (de_lcF (own := [("sign", 3)]) rfl sc__law_is_name.nd (di_str (de_var (pv 0))) (blkOk_by (by show blkC ["value", "high", "low", "sign"] (defScope s__law_is_name) _ _ = true; decide +kernel)) (fun _ _ _ _ _ => dgc_name (pg_name (i := 3) sc__law_is_name.nd rfl (Or.inl rfl))) (fun _ _ _ _ _ => dts_nil) (fun _ _ _ _ _ => de_cmp (c_inS hr.units) (de_var (pv 3)) (de_addF (de_addF (de_var (pv 2)) (de_upper (de_var (pv 2)))) (de_str pe_str)) (by with_unfolding_all rfl))) (da_nil)))))))
/-! ### _law_is_kinds -/
abbrev s__law_is_kinds : Stmt := topS 59
theorem sc__law_is_kinds : FnScope ["value", "titles", "makers", "fields", "piece", "maker", "left", "turn", "barren", "title", "field", "k"] ["value"] (defScope s__law_is_kinds) := ⟨rfl, rfl, rfl, by decide +kernel, rfl, by decide +kernel, by decide +kernel⟩
def td__law_is_kinds : DTS :=
  dSeq (dIf (dOrT (dNotT (dTruth (dIs .tup (dVar 0)))) (dTest (dInR (fun k => !k) (dFn fLen (dCons (dVar 0) (dNil))) (dC (.int 1)) (dC (.int 61))))) (dRet (dC (.bl false))) (dNext))
    (dSeq (dAsg (dTup (dCons (dLst (dNil)) (dCons (dLst (dNil)) (dCons (dLstF (dNil)) (dNil))))) (dgTup 3 (dgCons (dgName 1) (dgCons (dgName 2) (dgCons (dgName 3) (dgNil))))))
    (dSeq (dFor (dWalk (dVar 0)) (dgName 4) (dSeq (dIf (dOrT (dNotT (dTruth (dIs .tup (dVar 4)))) (dOrT (dTest (dOp fNeA (dFn fLen (dCons (dVar 4) (dNil))) (dC (.int 2)))) (dNotT (dTruth (dIs .tup (dOp fIx (dVar 4) (dC (.int 1)))))))) (dRet (dC (.bl false))) (dNext))
    (dSeq (dIf (dTest (dInR (fun k => !k) (dFn fLen (dCons (dOp fIx (dVar 4) (dC (.int 1))) (dNil))) (dC (.int 1)) (dC (.int 9)))) (dRet (dC (.bl false))) (dNext))
    (dSeq (dDrop (dMt fAppend (dVar 1) (dCons (dOp fIx (dVar 4) (dC (.int 0))) (dNil))))
    (dFor (dWalk (dOp fIx (dVar 4) (dC (.int 1)))) (dgName 5) (dSeq (dIf (dOrT (dNotT (dTruth (dIs .tup (dVar 5)))) (dOrT (dTest (dOp fNeA (dFn fLen (dCons (dVar 5) (dNil))) (dC (.int 2)))) (dOrT (dNotT (dTruth (dIs .tup (dOp fIx (dVar 5) (dC (.int 1)))))) (dTest (dOp fGt (dFn fLen (dCons (dOp fIx (dVar 5) (dC (.int 1))) (dNil))) (dC (.int 4))))))) (dRet (dC (.bl false))) (dNext))
    (dSeq (dDrop (dMt fAppend (dVar 2) (dCons (dOp fIx (dVar 5) (dC (.int 0))) (dNil))))
    (dSet 3 (dOp fAddF (dVar 3) (dFn fListF (dCons (dOp fIx (dVar 5) (dC (.int 1))) (dNil))))))))))))
    (dSeq (dIf (dNotT (dTruth (dFn fAll (dCons (dLcF (dWalk (dOp fAddF (dVar 1) (dVar 2))) [9] (dgName 9) (dYes) (dCall (sp__law_is_name) [] (dCons (dVar 9) (dCons (dC (.bl true)) (dNil))))) (dNil))))) (dRet (dC (.bl false))) (dNext))
    (dSeq (dIf (dOrT (dTest (dOp fLt (dLenSet (dVar 1)) (dFn fLen (dCons (dVar 1) (dNil))))) (dTest (dOp fLt (dLenSet (dVar 2)) (dFn fLen (dCons (dVar 2) (dNil)))))) (dRet (dC (.bl false))) (dNext))
    (dSeq (dIf (dNotT (dTruth (dFn fAll (dCons (dLcF (dWalk (dVar 3)) [10] (dgName 10) (dYes) (dAndV (dIs .str (dVar 10)) (dOp fInA (dVar 10) (dVar 1)))) (dNil))))) (dRet (dC (.bl false))) (dNext))
    (dSeq (dSet 6 (dLcF (dRng1 (dFn fLen (dCons (dVar 0) (dNil)))) [11] (dgName 11) (dYes) (dVar 11)))
    (dSeq (dFor (dRng1 (dFn fLen (dCons (dVar 0) (dNil)))) (dgName 7) (dSeq (dSet 8 (dLcF (dWalk (dVar 6)) [11] (dgName 11) (dYes) (dOp fIx (dVar 1) (dVar 11))))
    (dSet 6 (dLcF (dWalk (dVar 6)) [11] (dgName 11) (dTruth (dFn fAll (dCons (dLcF (dWalk (dOp fIx (dOp fIx (dVar 0) (dVar 11)) (dC (.int 1)))) [5] (dgName 5) (dYes) (dOp fNeA (dLcF (dWalk (dOp fIx (dVar 5) (dC (.int 1)))) [10] (dgName 10) (dTest (dOp fInA (dVar 10) (dVar 8))) (dVar 10)) (dLstF (dNil)))) (dNil)))) (dVar 11)))))
    (dRet (dOp fEqA (dVar 6) (dLstF (dNil)))))))))))
theorem body__law_is_kinds {P : Program} {w : World} {K : PySem.W.Frag} {mg : Str → Option Value} {base : Heap} (T : Txt K mg) (G__law_is_name : FnOk P w K mg base CX0 (1) T.a__law_is_name T.d__law_is_name ["value", "high"] (lSp K (sp__law_is_name))) :
    ∀ (cdv : Value) (A : Around) (outer : List Env) (s : Shared) (H : Hp) (E : XK), Room (1) (A.deeper (envOfC "_law_is_kinds" (defScope s__law_is_kinds) s.heap.objs.size T.a__law_is_kinds cdv)) → DSs (cxOf CX0 P w K mg base ["value", "titles", "makers", "fields", "piece", "maker", "left", "turn", "barren", "title", "field", "k"] "_law_is_kinds" (defScope s__law_is_kinds) T.a__law_is_kinds cdv A outer s H E).nox (defBody s__law_is_kinds) (td__law_is_kinds) :=
  fun cdv A outer s H E hr =>
    dss_cons (ds_if (dt_w (dw_or (dt_not (dt_truth (de_isi .tup (by rfl) T.z_isinstance (de_var (pv 0)) (de_ty (pe_bltn (v := .ty "tuple") (by rfl) T.z_tuple (by decide +kernel) rfl))))) (dw_or1 (dt_notInR2 (de_callB call_len ok_len (by rfl) T.z_len (by decide +kernel) (da_cons (de_var (pv 0)) (da_nil))) (pe_rng2 (by rfl) T.z_range (de_int pe_int) (de_int pe_int)) (by with_unfolding_all rfl))))) (dss_one (ds_ret (de_bl pe_bl))) (dss_nil))
    (dss_cons (ds_asg (de_tup (da_cons (de_lst (da_nil)) (da_cons (de_lst (da_nil)) (da_cons (de_lstF (da_nil)) (da_nil))))) (dg_tup rfl (dgs_cons (dg_name (pg_name (i := 1) sc__law_is_kinds.nd rfl (Or.inr rfl))) (dgs_cons (dg_name (pg_name (i := 2) sc__law_is_kinds.nd rfl (Or.inl rfl))) (dgs_cons (dg_name (pg_name (i := 3) sc__law_is_kinds.nd rfl (Or.inl rfl))) (dgs_nil))))))
    (dss_cons (ds_for PassesOwn.never rfl (di_walk (de_var (pv 0))) (dg_name (pg_name (i := 4) sc__law_is_kinds.nd rfl (Or.inl rfl))) (dss_cons (ds_if (dt_w (dw_or (dt_not (dt_truth (de_isi .tup (by rfl) T.z_isinstance (de_var (pv 4)) (de_ty (pe_bltn (v := .ty "tuple") (by rfl) T.z_tuple (by decide +kernel) rfl))))) (dw_or (dt_cmp (c_ne hr.units) (de_callB call_len ok_len (by rfl) T.z_len (by decide +kernel) (da_cons (de_var (pv 4)) (da_nil))) (de_int pe_int) (nomark _)) (dw_or1 (dt_not (dt_truth (de_isi .tup (by rfl) T.z_isinstance (de_ix (de_var (pv 4)) (de_int pe_int)) (de_ty (pe_bltn (v := .ty "tuple") (by rfl) T.z_tuple (by decide +kernel) rfl))))))))) (dss_one (ds_ret (de_bl pe_bl))) (dss_nil))
    (dss_cons (ds_if (dt_notInR2 (de_callB call_len ok_len (by rfl) T.z_len (by decide +kernel) (da_cons (de_ix (de_var (pv 4)) (de_int pe_int)) (da_nil))) (pe_rng2 (by rfl) T.z_range (de_int pe_int) (de_int pe_int)) (by with_unfolding_all rfl)) (dss_one (ds_ret (de_bl pe_bl))) (dss_nil))
    (dss_cons (ds_expr (de_mt PySem.F.slot_list_append PySem.F.type_list_append mt_append ok_append (de_var (pv 1)) (da_cons (de_ix (de_var (pv 4)) (de_int pe_int)) (da_nil))))
    (dss_one (ds_for PassesOwn.never rfl (di_walk (de_ix (de_var (pv 4)) (de_int pe_int))) (dg_name (pg_name (i := 5) sc__law_is_kinds.nd rfl (Or.inl rfl))) (dss_cons (ds_if (dt_w (dw_or (dt_not (dt_truth (de_isi .tup (by rfl) T.z_isinstance (de_var (pv 5)) (de_ty (pe_bltn (v := .ty "tuple") (by rfl) T.z_tuple (by decide +kernel) rfl))))) (dw_or (dt_cmp (c_ne hr.units) (de_callB call_len ok_len (by rfl) T.z_len (by decide +kernel) (da_cons (de_var (pv 5)) (da_nil))) (de_int pe_int) (nomark _)) (dw_or (dt_not (dt_truth (de_isi .tup (by rfl) T.z_isinstance (de_ix (de_var (pv 5)) (de_int pe_int)) (de_ty (pe_bltn (v := .ty "tuple") (by rfl) T.z_tuple (by decide +kernel) rfl))))) (dw_or1 (dt_cmp (c_gt) (de_callB call_len ok_len (by rfl) T.z_len (by decide +kernel) (da_cons (de_ix (de_var (pv 5)) (de_int pe_int)) (da_nil))) (de_int pe_int) (nomark _))))))) (dss_one (ds_ret (de_bl pe_bl))) (dss_nil))
    (dss_cons (ds_expr (de_mt PySem.F.slot_list_append PySem.F.type_list_append mt_append ok_append (de_var (pv 2)) (da_cons (de_ix (de_var (pv 5)) (de_int pe_int)) (da_nil))))
    (dss_one (ds_set (i := 3) sc__law_is_kinds.nd rfl (Or.inl rfl) (de_addF (de_var (pv 3)) (de_listF (by rfl) T.z_list (by decide +kernel) (da_cons (de_ix (de_var (pv 5)) (de_int pe_int)) (da_nil))))))))))))))
    (dss_cons (ds_if (dt_not (dt_truth (de_callB (cr_all rfl) ok_all (by rfl) T.z_all (by decide +kernel) (da_cons (de_lcF (own := [("title", 9)]) rfl sc__law_is_kinds.nd (di_walk (de_addF (de_var (pv 1)) (de_var (pv 2)))) (blkOk_by (by show blkC ["value", "titles", "makers", "fields", "piece", "maker", "left", "turn", "barren", "title", "field", "k"] (defScope s__law_is_kinds) _ _ = true; decide +kernel)) (fun _ _ _ _ _ => dgc_name (pg_name (i := 9) sc__law_is_kinds.nd rfl (Or.inl rfl))) (fun _ _ _ _ _ => dts_nil) (fun _ _ _ _ _ => de_call G__law_is_name (hr.mono (by decide)) (by rfl) T.m__law_is_name T.F__law_is_name.kp T.b__law_is_name .nil (fun _ => rfl) pass0 (da_cons (de_var (pv 9)) (da_cons (de_bl pe_bl) (da_nil))))) (da_nil))))) (dss_one (ds_ret (de_bl pe_bl))) (dss_nil))
    (dss_cons (ds_if (dt_w (dw_or (dt_cmp (c_lt) (de_lenSet rfl (by rfl) T.z_len (by rfl) T.z_set (de_var (pv 1))) (de_callB call_len ok_len (by rfl) T.z_len (by decide +kernel) (da_cons (de_var (pv 1)) (da_nil))) (nomark _)) (dw_or1 (dt_cmp (c_lt) (de_lenSet rfl (by rfl) T.z_len (by rfl) T.z_set (de_var (pv 2))) (de_callB call_len ok_len (by rfl) T.z_len (by decide +kernel) (da_cons (de_var (pv 2)) (da_nil))) (nomark _))))) (dss_one (ds_ret (de_bl pe_bl))) (dss_nil))
    (dss_cons (ds_if (dt_not (dt_truth (de_callB (cr_all rfl) ok_all (by rfl) T.z_all (by decide +kernel) (da_cons (de_lcF (own := [("field", 10)]) rfl sc__law_is_kinds.nd (di_walk (de_var (pv 3))) (blkOk_by (by show blkC ["value", "titles", "makers", "fields", "piece", "maker", "left", "turn", "barren", "title", "field", "k"] (defScope s__law_is_kinds) _ _ = true; decide +kernel)) (fun _ _ _ _ _ => dgc_name (pg_name (i := 10) sc__law_is_kinds.nd rfl (Or.inl rfl))) (fun _ _ _ _ _ => dts_nil) (fun _ _ _ _ _ => de_and (de_isi .str (by rfl) T.z_isinstance (de_var (pv 10)) (de_ty (pe_bltn (v := .ty "str") (by rfl) T.z_str (by decide +kernel) rfl))) (de_one (de_cmp (c_in hr.units) (de_var (pv 10)) (de_var (pv 1)) (by with_unfolding_all rfl))))) (da_nil))))) (dss_one (ds_ret (de_bl pe_bl))) (dss_nil))
    (dss_cons (ds_setLcF (i := 6) (own := [("k", 11)]) rfl sc__law_is_kinds.nd rfl rfl (sw_true rfl rfl rfl (by decide +kernel)) (di_range1 (by rfl) T.z_range (de_callB call_len ok_len (by rfl) T.z_len (by decide +kernel) (da_cons (de_var (pv 0)) (da_nil)))) (blkOk_by (by show blkC ["value", "titles", "makers", "fields", "piece", "maker", "left", "turn", "barren", "title", "field", "k"] (defScope s__law_is_kinds) _ _ = true; decide +kernel)) (fun _ _ _ _ _ => dgc_name (pg_name (i := 11) sc__law_is_kinds.nd rfl (Or.inl rfl))) (fun _ _ _ _ _ => dts_nil) (fun _ _ _ _ _ => de_var (pv 11)))
    (dss_cons (ds_for PassesOwn.never rfl (di_range1 (by rfl) T.z_range (de_callB call_len ok_len (by rfl) T.z_len (by decide +kernel) (da_cons (de_var (pv 0)) (da_nil)))) (dg_name (pg_name (i := 7) sc__law_is_kinds.nd rfl (Or.inl rfl))) (dss_cons (ds_set (i := 8) sc__law_is_kinds.nd rfl (Or.inr rfl) (de_lcF (own := [("k", 11)]) rfl sc__law_is_kinds.nd (di_walk (de_var (pv 6))) (blkOk_by (by show blkC ["value", "titles", "makers", "fields", "piece", "maker", "left", "turn", "barren", "title", "field", "k"] (defScope s__law_is_kinds) _ _ = true; decide +kernel)) (fun _ _ _ _ _ => dgc_name (pg_name (i := 11) sc__law_is_kinds.nd rfl (Or.inl rfl))) (fun _ _ _ _ _ => dts_nil) (fun _ _ _ _ _ => de_ix (de_var (pv 1)) (de_var (pv 11)))))
    (dss_one (ds_setLcF (i := 6) (own := [("k", 11)]) rfl sc__law_is_kinds.nd rfl rfl (sw_true rfl rfl rfl (by decide +kernel)) (di_walk (de_var (pv 6))) (blkOk_by (by show blkC ["value", "titles", "makers", "fields", "piece", "maker", "left", "turn", "barren", "title", "field", "k"] (defScope s__law_is_kinds) _ _ = true; decide +kernel)) (fun _ _ _ _ _ => dgc_name (pg_name (i := 11) sc__law_is_kinds.nd rfl (Or.inl rfl))) (fun _ _ _ _ _ => dts_one (dt_truth (de_callB (cr_all rfl) ok_all (by rfl) T.z_all (by decide +kernel) (da_cons (de_lcF (own := [("maker", 5)]) rfl sc__law_is_kinds.nd (di_walk (de_ix (de_ix (de_var (pv 0)) (de_var (pv 11))) (de_int pe_int))) (blkOk_by (by show blkC ["value", "titles", "makers", "fields", "piece", "maker", "left", "turn", "barren", "title", "field", "k"] _ _ _ = true; kernel_rfl)) (fun _ _ _ _ _ => dgc_name (pg_name (i := 5) sc__law_is_kinds.nd rfl (Or.inl rfl))) (fun _ _ _ _ _ => dts_nil) (fun _ _ _ _ _ => de_cmp (c_ne hr.units) (de_lcF (own := [("field", 10)]) rfl sc__law_is_kinds.nd (di_walk (de_ix (de_var (pv 5)) (de_int pe_int))) (blkOk_by (by show blkC ["value", "titles", "makers", "fields", "piece", "maker", "left", "turn", "barren", "title", "field", "k"] _ _ _ = true; kernel_rfl)) (fun _ _ _ _ _ => dgc_name (pg_name (i := 10) sc__law_is_kinds.nd rfl (Or.inl rfl))) (fun _ _ _ _ _ => dts_one (dt_cmp (c_in hr.units) (de_var (pv 10)) (de_var (pv 8)) (by with_unfolding_all rfl))) (fun _ _ _ _ _ => de_var (pv 10))) (de_lstF (da_nil)) (nomark _))) (da_nil))))) (fun _ _ _ _ _ => de_var (pv 11))))))
    (dss_one (ds_ret (de_cmp (c_eq hr.units) (de_var (pv 6)) (de_lstF (da_nil)) (nomark _)))))))))))
/-! ### _law_bent -/
abbrev s__law_bent : Stmt := topS 60
theorem sc__law_bent : FnScope ["well", "value", "at", "ways", "signs", "sign", "odd"] ["well", "value"] (defScope s__law_bent) := ⟨rfl, rfl, rfl, by decide +kernel, rfl, by decide +kernel, by decide +kernel⟩
def td__law_bent (k : Nat) : DTS :=
  dCut (dIf (dAndT (dTruth (dIs .tup (dVar 1))) (dAndT (dTest (dOp fNeA (dVar 1) (dTup (dNil)))) (dTest (dOp fGt (dCall (sp__law_draw) [] (dCons (dVar 0) (dCons (dC (.int 8)) (dNil)))) (dC (.int 0)))))) (dSeq (dSet 2 (dCall (sp__law_draw) [] (dCons (dVar 0) (dCons (dFn fLen (dCons (dVar 1) (dNil))) (dNil)))))
    (dRet (dOp fAddF (dOp fAddF (dSlG (dVar 1) (dNoPart) (dPart (dVar 2))) (dTup (dCons (dCall (sp__law_bent k) [] (dCons (dVar 0) (dCons (dOp fIx (dVar 1) (dVar 2)) (dNil)))) (dNil)))) (dSlG (dVar 1) (dPart (dOp fAddF (dVar 2) (dC (.int 1)))) (dNoPart))))) (dNext))
    (dCut (dIf (dAndT (dTruth (dIs .tup (dVar 1))) (dTest (dOp fGt (dCall (sp__law_draw) [] (dCons (dVar 0) (dCons (dC (.int 3)) (dNil)))) (dC (.int 0))))) (dSeq (dSet 2 (dCall (sp__law_draw) [] (dCons (dVar 0) (dCons (dOp fAddF (dFn fLen (dCons (dVar 1) (dNil))) (dC (.int 1))) (dNil)))))
    (dSeq (dSet 3 (dLstF (dCons (dOp fAddF (dSlG (dVar 1) (dNoPart) (dPart (dVar 2))) (dSlG (dVar 1) (dPart (dOp fAddF (dVar 2) (dC (.int 1)))) (dNoPart))) (dCons (dOp fAddF (dOp fAddF (dSlG (dVar 1) (dNoPart) (dPart (dVar 2))) (dSlG (dVar 1) (dPart (dVar 2)) (dPart (dOp fAddF (dVar 2) (dC (.int 1)))))) (dSlG (dVar 1) (dPart (dVar 2)) (dNoPart))) (dCons (dOp fAddF (dSlG (dVar 1) (dPart (dVar 2)) (dNoPart)) (dSlG (dVar 1) (dNoPart) (dPart (dVar 2)))) (dNil))))))
    (dRet (dOp fIx (dOp fAddF (dVar 3) (dLstF (dCons (dFn fListF (dCons (dVar 1) (dNil))) (dCons (dOp fMulB (dVar 1) (dC (.int 2))) (dCons (dOp fAddF (dVar 1) (dTup (dCons (dTup (dNil)) (dNil)))) (dNil)))))) (dCall (sp__law_draw) [] (dCons (dVar 0) (dCons (dC (.int 6)) (dNil)))))))) (dNext))
    (dCut (dIf (dAndT (dTruth (dIs .str (dVar 1))) (dTest (dOp fGt (dCall (sp__law_draw) [] (dCons (dVar 0) (dCons (dC (.int 3)) (dNil)))) (dC (.int 0))))) (dSeq (dSet 4 (dC (.str " !\"#$&'()*+,-./0123456789:;<=>?@ABCDEFGHIJKLMNOPQRSTUVWXYZ[\\]^_`abcdefghijklmnopqrstuvwxyz{|}~\n")))
    (dSeq (dPar [2, 5] (dCons (dCall (sp__law_draw) [] (dCons (dVar 0) (dCons (dOp fAddF (dFn fLen (dCons (dVar 1) (dNil))) (dC (.int 1))) (dNil)))) (dCons (dOp fIx (dVar 4) (dCall (sp__law_draw) [] (dCons (dVar 0) (dCons (dFn fLen (dCons (dVar 4) (dNil))) (dNil))))) (dNil))))
    (dSeq (dSet 3 (dLstF (dCons (dOp fAddF (dOp fAddF (dSlG (dVar 1) (dNoPart) (dPart (dVar 2))) (dVar 5)) (dSlG (dVar 1) (dPart (dVar 2)) (dNoPart))) (dCons (dOp fAddF (dOp fAddF (dSlG (dVar 1) (dNoPart) (dPart (dVar 2))) (dVar 5)) (dSlG (dVar 1) (dPart (dOp fAddF (dVar 2) (dC (.int 1)))) (dNoPart))) (dCons (dLow (dVar 1)) (dCons (dUpp (dVar 1)) (dNil)))))))
    (dRet (dOp fIx (dOp fAddF (dVar 3) (dLstF (dCons (dOp fAddF (dVar 1) (dC (.str "0"))) (dCons (dSlG (dVar 1) (dPart (dC (.int 1))) (dNoPart)) (dCons (dSlG (dVar 1) (dNoPart) (dPart (dUn fNeg (dC (.int 1))))) (dCons (dSlG (dVar 1) (dNoPart) (dPart (dC (.int 1)))) (dNil))))))) (dCall (sp__law_draw) [] (dCons (dVar 0) (dCons (dC (.int 8)) (dNil))))))))) (dNext))
    (dCut (dIf (dAndT (dTruth (dIs .int (dVar 1))) (dTest (dOp fGt (dCall (sp__law_draw) [] (dCons (dVar 0) (dCons (dC (.int 2)) (dNil)))) (dC (.int 0))))) (dRet (dOp fIx (dLstF (dCons (dOp fAddB (dVar 1) (dC (.int 1))) (dCons (dOp fSubB (dVar 1) (dC (.int 1))) (dCons (dUn fNegB (dVar 1)) (dCons (dOp fMulB (dVar 1) (dOp fPow (dC (.int 10)) (dC (.int 9)))) (dCons (dSlG (dFn fStr (dCons (dVar 1) (dNil))) (dNoPart) (dPart (dC (.int 40)))) (dNil))))))) (dCall (sp__law_draw) [] (dCons (dVar 0) (dCons (dC (.int 5)) (dNil)))))) (dNext))
    (dSeq (dSet 6 (dLstF (dCons (dC (.str "")) (dCons (dC (.str "kind")) (dCons (dC (.str "letters")) (dCons (dC (.str "start")) (dCons (dC (.str "state")) (dCons (dC (.str "Kind")) (dCons (dC (.str "a")) (dCons (dC (.str "A")) (dCons (dC (.str "a1")) (dCons (dC (.str "A1")) (dCons (dC (.str "1A")) (dCons (dC (.str "A_")) (dCons (dC (.str "A b")) (dCons (dC (.str "Abcdefghij")) (dCons (dC (.str "abcdefghij")) (dNil))))))))))))))))))
    (dSeq (dSet 6 (dOp fAddF (dVar 6) (dLstF (dCons (dC (.str "Abcdefghijk")) (dCons (dC (.str "abcdefghijk")) (dCons (dC (.int 0)) (dCons (dC (.int 1)) (dCons (dUn fNeg (dC (.int 1))) (dCons (dC (.int 2)) (dCons (dC (.bl true)) (dCons (dC (.bl false)) (dCons (dC .non) (dCons (dTup (dNil)) (dCons (dLstF (dNil)) (dCons (dDic0F) (dCons (dTup (dCons (dC (.str "A")) (dNil))) (dCons (dTup (dCons (dC (.str "A")) (dCons (dTup (dNil)) (dNil)))) (dCons (dTup (dCons (dC (.str "A")) (dCons (dTup (dCons (dTup (dCons (dC (.str "B")) (dCons (dTup (dNil)) (dNil)))) (dNil))) (dNil)))) (dNil)))))))))))))))))))
    (dRet (dOp fIx (dOp fAddF (dVar 6) (dLstF (dCons (dTup (dCons (dVar 1) (dNil))) (dCons (dLstF (dCons (dVar 1) (dNil))) (dCons (dTup (dCons (dVar 1) (dCons (dVar 1) (dNil)))) (dCons (dOp fPow (dC (.int 10)) (dC (.int 30))) (dCons (dTup (dCons (dC (.int 0)) (dCons (dC (.int 1)) (dNil)))) (dCons (dTup (dCons (dC (.str "A")) (dCons (dTup (dCons (dC (.str "A")) (dNil))) (dNil)))) (dNil))))))))) (dCall (sp__law_draw) [] (dCons (dVar 0) (dCons (dOp fAddF (dFn fLen (dCons (dVar 6) (dNil))) (dC (.int 6))) (dNil)))))))))))
theorem body__law_bent {P : Program} {w : World} {K : PySem.W.Frag} {mg : Str → Option Value} {base : Heap} (T : Txt K mg) (k : Nat) (G__law_bent : FnOk P w K mg base CX0 (k + 1) T.a__law_bent T.d__law_bent ["well", "value"] (lSp K (sp__law_bent k))) (G__law_draw : FnOk P w K mg base CX0 (1) T.a__law_draw T.d__law_draw ["well", "many"] (lSp K (sp__law_draw))) :
    ∀ (cdv : Value) (A : Around) (outer : List Env) (s : Shared) (H : Hp) (E : XK), Room (k + 1) (A.deeper (envOfC "_law_bent" (defScope s__law_bent) s.heap.objs.size T.a__law_bent cdv)) → DSs (cxOf CX0 P w K mg base ["well", "value", "at", "ways", "signs", "sign", "odd"] "_law_bent" (defScope s__law_bent) T.a__law_bent cdv A outer s H E).nox (defBody s__law_bent) (td__law_bent k) :=
  fun cdv A outer s H E hr =>
    dss_cut (ds_if (dt_w (dw_and (dt_truth (de_isi .tup (by rfl) T.z_isinstance (de_var (pv 1)) (de_ty (pe_bltn (v := .ty "tuple") (by rfl) T.z_tuple (by decide +kernel) rfl)))) (dw_and (dt_cmp (c_ne hr.units) (de_var (pv 1)) (de_tup (da_nil)) (nomark _)) (dw_and1 (dt_cmp (c_gt) (de_call G__law_draw (hr.mono (by omega)) (by rfl) T.m__law_draw T.F__law_draw.kp T.b__law_draw .nil (fun _ => rfl) pass0 (da_cons (de_var (pv 0)) (da_cons (de_int pe_int) (da_nil)))) (de_int pe_int) (nomark _)))))) (dss_cons (ds_set (i := 2) sc__law_bent.nd rfl (Or.inl rfl) (de_call G__law_draw (hr.mono (by omega)) (by rfl) T.m__law_draw T.F__law_draw.kp T.b__law_draw .nil (fun _ => rfl) pass0 (da_cons (de_var (pv 0)) (da_cons (de_callB call_len ok_len (by rfl) T.z_len (by decide +kernel) (da_cons (de_var (pv 1)) (da_nil))) (da_nil)))))
    (dss_one (ds_ret (de_addF (de_addF (de_sliceG (de_var (pv 1)) (do_none) (do_some (de_var (pv 2)))) (de_tup (da_cons (de_call G__law_bent hr (by rfl) T.m__law_bent T.F__law_bent.kp T.b__law_bent .nil (fun _ => rfl) pass0 (da_cons (de_var (pv 0)) (da_cons (de_ix (de_var (pv 1)) (de_var (pv 2))) (da_nil)))) (da_nil)))) (de_sliceG (de_var (pv 1)) (do_some (de_addF (de_var (pv 2)) (de_int pe_int))) (do_none)))))) (dss_nil))
    (dss_cut (ds_if (dt_w (dw_and (dt_truth (de_isi .tup (by rfl) T.z_isinstance (de_var (pv 1)) (de_ty (pe_bltn (v := .ty "tuple") (by rfl) T.z_tuple (by decide +kernel) rfl)))) (dw_and1 (dt_cmp (c_gt) (de_call G__law_draw (hr.mono (by omega)) (by rfl) T.m__law_draw T.F__law_draw.kp T.b__law_draw .nil (fun _ => rfl) pass0 (da_cons (de_var (pv 0)) (da_cons (de_int pe_int) (da_nil)))) (de_int pe_int) (nomark _))))) (dss_cons (ds_set (i := 2) sc__law_bent.nd rfl (Or.inl rfl) (de_call G__law_draw (hr.mono (by omega)) (by rfl) T.m__law_draw T.F__law_draw.kp T.b__law_draw .nil (fun _ => rfl) pass0 (da_cons (de_var (pv 0)) (da_cons (de_addF (de_callB call_len ok_len (by rfl) T.z_len (by decide +kernel) (da_cons (de_var (pv 1)) (da_nil))) (de_int pe_int)) (da_nil)))))
    (dss_cons (ds_set (i := 3) sc__law_bent.nd rfl (Or.inl rfl) (de_lstF (da_cons (de_addF (de_sliceG (de_var (pv 1)) (do_none) (do_some (de_var (pv 2)))) (de_sliceG (de_var (pv 1)) (do_some (de_addF (de_var (pv 2)) (de_int pe_int))) (do_none))) (da_cons (de_addF (de_addF (de_sliceG (de_var (pv 1)) (do_none) (do_some (de_var (pv 2)))) (de_sliceG (de_var (pv 1)) (do_some (de_var (pv 2))) (do_some (de_addF (de_var (pv 2)) (de_int pe_int))))) (de_sliceG (de_var (pv 1)) (do_some (de_var (pv 2))) (do_none))) (da_cons (de_addF (de_sliceG (de_var (pv 1)) (do_some (de_var (pv 2))) (do_none)) (de_sliceG (de_var (pv 1)) (do_none) (do_some (de_var (pv 2))))) (da_nil))))))
    (dss_one (ds_ret (de_ix (de_addF (de_var (pv 3)) (de_lstF (da_cons (de_listF (by rfl) T.z_list (by decide +kernel) (da_cons (de_var (pv 1)) (da_nil))) (da_cons (de_mulB (de_var (pv 1)) (de_int pe_int)) (da_cons (de_addF (de_var (pv 1)) (de_tup (da_cons (de_tup (da_nil)) (da_nil)))) (da_nil)))))) (de_call G__law_draw (hr.mono (by omega)) (by rfl) T.m__law_draw T.F__law_draw.kp T.b__law_draw .nil (fun _ => rfl) pass0 (da_cons (de_var (pv 0)) (da_cons (de_int pe_int) (da_nil))))))))) (dss_nil))
    (dss_cut (ds_if (dt_w (dw_and (dt_truth (de_isi .str (by rfl) T.z_isinstance (de_var (pv 1)) (de_ty (pe_bltn (v := .ty "str") (by rfl) T.z_str (by decide +kernel) rfl)))) (dw_and1 (dt_cmp (c_gt) (de_call G__law_draw (hr.mono (by omega)) (by rfl) T.m__law_draw T.F__law_draw.kp T.b__law_draw .nil (fun _ => rfl) pass0 (da_cons (de_var (pv 0)) (da_cons (de_int pe_int) (da_nil)))) (de_int pe_int) (nomark _))))) (dss_cons (ds_set (i := 4) sc__law_bent.nd rfl (Or.inl rfl) (de_str pe_str))
    (dss_cons (ds_par (i := 2) (j := 5) rfl sc__law_bent.nd rfl rfl (by decide) rfl rfl (da_cons (de_call G__law_draw (hr.mono (by omega)) (by rfl) T.m__law_draw T.F__law_draw.kp T.b__law_draw .nil (fun _ => rfl) pass0 (da_cons (de_var (pv 0)) (da_cons (de_addF (de_callB call_len ok_len (by rfl) T.z_len (by decide +kernel) (da_cons (de_var (pv 1)) (da_nil))) (de_int pe_int)) (da_nil)))) (da_cons (de_ix (de_var (pv 4)) (de_call G__law_draw (hr.mono (by omega)) (by rfl) T.m__law_draw T.F__law_draw.kp T.b__law_draw .nil (fun _ => rfl) pass0 (da_cons (de_var (pv 0)) (da_cons (de_callB call_len ok_len (by rfl) T.z_len (by decide +kernel) (da_cons (de_var (pv 4)) (da_nil))) (da_nil))))) (da_nil))))
    (dss_cons (ds_set (i := 3) sc__law_bent.nd rfl (Or.inl rfl) (de_lstF (da_cons (de_addF (de_addF (de_sliceG (de_var (pv 1)) (do_none) (do_some (de_var (pv 2)))) (de_var (pv 5))) (de_sliceG (de_var (pv 1)) (do_some (de_var (pv 2))) (do_none))) (da_cons (de_addF (de_addF (de_sliceG (de_var (pv 1)) (do_none) (do_some (de_var (pv 2)))) (de_var (pv 5))) (de_sliceG (de_var (pv 1)) (do_some (de_addF (de_var (pv 2)) (de_int pe_int))) (do_none))) (da_cons (de_lower (de_var (pv 1))) (da_cons (de_upper (de_var (pv 1))) (da_nil)))))))
    (dss_one (ds_ret (de_ix (de_addF (de_var (pv 3)) (de_lstF (da_cons (de_addF (de_var (pv 1)) (de_str pe_str)) (da_cons (de_sliceG (de_var (pv 1)) (do_some (de_int pe_int)) (do_none)) (da_cons (de_sliceG (de_var (pv 1)) (do_none) (do_some (de_neg (de_int pe_int)))) (da_cons (de_sliceG (de_var (pv 1)) (do_none) (do_some (de_int pe_int))) (da_nil))))))) (de_call G__law_draw (hr.mono (by omega)) (by rfl) T.m__law_draw T.F__law_draw.kp T.b__law_draw .nil (fun _ => rfl) pass0 (da_cons (de_var (pv 0)) (da_cons (de_int pe_int) (da_nil)))))))))) (dss_nil))
    (dss_cut (ds_if (dt_w (dw_and (dt_truth (de_isi .int (by rfl) T.z_isinstance (de_var (pv 1)) (de_ty (pe_bltn (v := .ty "int") (by rfl) T.z_int (by decide +kernel) rfl)))) (dw_and1 (dt_cmp (c_gt) (de_call G__law_draw (hr.mono (by omega)) (by rfl) T.m__law_draw T.F__law_draw.kp T.b__law_draw .nil (fun _ => rfl) pass0 (da_cons (de_var (pv 0)) (da_cons (de_int pe_int) (da_nil)))) (de_int pe_int) (nomark _))))) (dss_one (ds_ret (de_ix (de_lstF (da_cons (de_addB (de_var (pv 1)) (de_int pe_int)) (da_cons (de_subB (de_var (pv 1)) (de_int pe_int)) (da_cons (de_negB (de_var (pv 1))) (da_cons (de_mulB (de_var (pv 1)) (de_pow (de_int pe_int) (de_int pe_int))) (da_cons (de_sliceG (de_callTy call_strA ok_str (by rfl) T.z_str (by decide +kernel) (da_cons (de_var (pv 1)) (da_nil))) (do_none) (do_some (de_int pe_int))) (da_nil))))))) (de_call G__law_draw (hr.mono (by omega)) (by rfl) T.m__law_draw T.F__law_draw.kp T.b__law_draw .nil (fun _ => rfl) pass0 (da_cons (de_var (pv 0)) (da_cons (de_int pe_int) (da_nil))))))) (dss_nil))
    (dss_cons (ds_set (i := 6) sc__law_bent.nd rfl (Or.inl rfl) (de_lstF (da_cons (de_str pe_str) (da_cons (de_str pe_str) (da_cons (de_str pe_str) (da_cons (de_str pe_str) (da_cons (de_str pe_str) (da_cons (de_str pe_str) (da_cons (de_str pe_str) (da_cons (de_str pe_str) (da_cons (de_str pe_str) (da_cons (de_str pe_str) (da_cons (de_str pe_str) (da_cons (de_str pe_str) (da_cons (de_str pe_str) (da_cons (de_str pe_str) (da_cons (de_str pe_str) (da_nil))))))))))))))))))
    (dss_cons (ds_set (i := 6) sc__law_bent.nd rfl (Or.inl rfl) (de_addF (de_var (pv 6)) (de_lstF (da_cons (de_str pe_str) (da_cons (de_str pe_str) (da_cons (de_int pe_int) (da_cons (de_int pe_int) (da_cons (de_neg (de_int pe_int)) (da_cons (de_int pe_int) (da_cons (de_bl pe_bl) (da_cons (de_bl pe_bl) (da_cons (de_non pe_non) (da_cons (de_tup (da_nil)) (da_cons (de_lstF (da_nil)) (da_cons (de_dic0F) (da_cons (de_tup (da_cons (de_str pe_str) (da_nil))) (da_cons (de_tup (da_cons (de_str pe_str) (da_cons (de_tup (da_nil)) (da_nil)))) (da_cons (de_tup (da_cons (de_str pe_str) (da_cons (de_tup (da_cons (de_tup (da_cons (de_str pe_str) (da_cons (de_tup (da_nil)) (da_nil)))) (da_nil))) (da_nil)))) (da_nil)))))))))))))))))))
    (dss_one (ds_ret (de_ix (de_addF (de_var (pv 6)) (de_lstF (da_cons (de_tup (da_cons (de_var (pv 1)) (da_nil))) (da_cons (de_lstF (da_cons (de_var (pv 1)) (da_nil))) (da_cons (de_tup (da_cons (de_var (pv 1)) (da_cons (de_var (pv 1)) (da_nil)))) (da_cons (de_pow (de_int pe_int) (de_int pe_int)) (da_cons (de_tup (da_cons (de_int pe_int) (da_cons (de_int pe_int) (da_nil)))) (da_cons (de_tup (da_cons (de_str pe_str) (da_cons (de_tup (da_cons (de_str pe_str) (da_nil))) (da_nil)))) (da_nil))))))))) (de_call G__law_draw (hr.mono (by omega)) (by rfl) T.m__law_draw T.F__law_draw.kp T.b__law_draw .nil (fun _ => rfl) pass0 (da_cons (de_var (pv 0)) (da_cons (de_addF (de_callB call_len ok_len (by rfl) T.z_len (by decide +kernel) (da_cons (de_var (pv 6)) (da_nil))) (de_int pe_int)) (da_nil))))))))))))
/-! ### _law_door -/
abbrev s__law_door : Stmt := topS 61
theorem sc__law_door : FnScope ["door", "value", "found"] ["door", "value"] (defScope s__law_door) := ⟨rfl, rfl, rfl, by decide +kernel, rfl, by decide +kernel, by decide +kernel⟩
def td__law_door : DTS :=
  dSeq (dSet 2 (dC (.str "let")))
    (dSeq (dQt (dTry subT (dIf (dTest (dOp fEqA (dVar 0) (dC (.int 0)))) (dxDrop (dCallPX 3 (sq_is_tree) [2, 1, 0] (dCons (dTup (dNil)) (dCons (dC (.int 0)) (dCons (dVar 1) (dNil)))))) (dIf (dTest (dOp fEqA (dVar 0) (dC (.int 1)))) (dxDrop (dCallX (sq_compare_trees) (dCons (dVar 1) (dCons (dTup (dNil)) (dCons (dTup (dNil)) (dNil)))))) (dIf (dTest (dOp fEqA (dVar 0) (dC (.int 2)))) (dxDrop (dCallPX 3 (sq_rows_of) [2, 1, 0] (dCons (dTup (dNil)) (dCons (dC (.int 0)) (dCons (dVar 1) (dNil)))))) (dIf (dTest (dOp fEqA (dVar 0) (dC (.int 3)))) (dxDrop (dCallX (sq_is_rows) (dCons (dVar 1) (dCons (dTup (dNil)) (dNil))))) (dIf (dTest (dOp fEqA (dVar 0) (dC (.int 4)))) (dxDrop (dCallPX 2 (sq_listing_of) [1, 0] (dCons (dTup (dNil)) (dCons (dVar 1) (dNil))))) (dxDrop (dCallPX 2 (sq_tree_size) [1, 0] (dCons (dTup (dNil)) (dCons (dVar 1) (dNil)))))))))) [("BadKinds", dSet 2 (dC (.str "kinds"))), ("PrintError", dSet 2 (dC (.str "other")))]))
    (dRet (dVar 2)))
theorem body__law_door {P : Program} {w : World} {K : PySem.W.Frag} {mg : Str → Option Value} {base : Heap} (T : Txt K mg) (G_compare_trees : FnOk P w K mg base (L2.CX P w) (7) T.a_compare_trees T.d_compare_trees ["kinds", "one", "other"] (lSpX K mg (sq_compare_trees))) (G_is_rows : FnOk P w K mg base (L2.CX P w) (7) T.a_is_rows T.d_is_rows ["kinds", "thing"] (lSpX K mg (sq_is_rows))) (G_is_tree : FnOk P w K mg base (L2.CX P w) (7) T.a_is_tree T.d_is_tree ["kinds", "kind", "thing"] (lSpX K mg (sq_is_tree))) (G_listing_of : FnOk P w K mg base (L2.CX P w) (7) T.a_listing_of T.d_listing_of ["kinds", "rows"] (lSpX K mg (sq_listing_of))) (G_rows_of : FnOk P w K mg base (L2.CX P w) (7) T.a_rows_of T.d_rows_of ["kinds", "kind", "listing"] (lSpX K mg (sq_rows_of))) (G_tree_size : FnOk P w K mg base (L2.CX P w) (7) T.a_tree_size T.d_tree_size ["kinds", "rows"] (lSpX K mg (sq_tree_size))) :
    ∀ (cdv : Value) (A : Around) (outer : List Env) (s : Shared) (H : Hp) (E : XK), Room (7) (A.deeper (envOfC "_law_door" (defScope s__law_door) s.heap.objs.size T.a__law_door cdv)) → DSs (cxOf CX0 P w K mg base ["door", "value", "found"] "_law_door" (defScope s__law_door) T.a__law_door cdv A outer s H E).nox (defBody s__law_door) (td__law_door) :=
  fun cdv A outer s H E hr =>
    dss_cons (ds_set (i := 2) sc__law_door.nd rfl (Or.inl rfl) (de_str pe_str))
    (dss_cons (ds_tryx (dsx_try rfl rfl takes0 (fun W pn xe tk po => dssx_one (dsx_if (dt_cmp (c_eq hr.units) (de_var (pv 0)) (de_int pe_int) (nomark _)) (dssx_one (dsx_expr (dex_callP G_is_tree tk (hr.mono (by decide)) (by rfl) T.m_is_tree T.F_is_tree.kp T.kw_is_tree_210 (dk_cons (de_tup (da_nil)) (dk_cons (de_int pe_int) (dk_cons (de_var (pv 1)) (dk_nil)))) rfl))) (dssx_one (dsx_if (dt_cmp (c_eq hr.units) (de_var (pv 0)) (de_int pe_int) (nomark _)) (dssx_one (dsx_expr (dex_call G_compare_trees tk (hr.mono (by decide)) (by rfl) T.m_compare_trees T.F_compare_trees.kp T.b_compare_trees (da_cons (de_var (pv 1)) (da_cons (de_tup (da_nil)) (da_cons (de_tup (da_nil)) (da_nil))))))) (dssx_one (dsx_if (dt_cmp (c_eq hr.units) (de_var (pv 0)) (de_int pe_int) (nomark _)) (dssx_one (dsx_expr (dex_callP G_rows_of tk (hr.mono (by decide)) (by rfl) T.m_rows_of T.F_rows_of.kp T.kw_rows_of_210 (dk_cons (de_tup (da_nil)) (dk_cons (de_int pe_int) (dk_cons (de_var (pv 1)) (dk_nil)))) rfl))) (dssx_one (dsx_if (dt_cmp (c_eq hr.units) (de_var (pv 0)) (de_int pe_int) (nomark _)) (dssx_one (dsx_expr (dex_call G_is_rows tk (hr.mono (by decide)) (by rfl) T.m_is_rows T.F_is_rows.kp T.b_is_rows (da_cons (de_var (pv 1)) (da_cons (de_tup (da_nil)) (da_nil)))))) (dssx_one (dsx_if (dt_cmp (c_eq hr.units) (de_var (pv 0)) (de_int pe_int) (nomark _)) (dssx_one (dsx_expr (dex_callP G_listing_of tk (hr.mono (by decide)) (by rfl) T.m_listing_of T.F_listing_of.kp T.kw_listing_of_10 (dk_cons (de_tup (da_nil)) (dk_cons (de_var (pv 1)) (dk_nil))) rfl))) (dssx_one (dsx_expr (dex_callP G_tree_size tk (hr.mono (by decide)) (by rfl) T.m_tree_size T.F_tree_size.kp T.kw_tree_size_10 (dk_cons (de_tup (da_nil)) (dk_cons (de_var (pv 1)) (dk_nil))) rfl))))))))))))) (DHds.cons ⟨by rfl, by decide, .inl T.n_BadKinds⟩ T.s_BadKinds (fun _ _ => dss_one (ds_set (i := 2) sc__law_door.nd rfl (Or.inl rfl) (de_str pe_str))) (DHds.cons ⟨by rfl, by decide, .inl T.n_PrintError⟩ T.s_PrintError (fun _ _ => dss_one (ds_set (i := 2) sc__law_door.nd rfl (Or.inl rfl) (de_str pe_str))) (DHds.nil)))))
    (dss_one (ds_ret (de_var (pv 2)))))
/-! ### _law_value_right -/
abbrev s__law_value_right : Stmt := topS 62
theorem sc__law_value_right : FnScope ["value", "due", "copied", "door", "found"] ["value"] (defScope s__law_value_right) := ⟨rfl, rfl, rfl, by decide +kernel, rfl, by decide +kernel, by decide +kernel⟩
def td__law_value_right : DTS :=
  dSeq (dAsg (dTup (dCons (dCall (sp__law_is_kinds) [] (dCons (dVar 0) (dNil))) (dCons (dFn fRepr (dCons (dVar 0) (dNil))) (dNil)))) (dgTup 2 (dgCons (dgName 1) (dgCons (dgName 2) (dgNil)))))
    (dSeq (dIf (dNotT (dTruth (dFn fAll (dCons (dLcF (dWalk (dLstF (dCons (dCall (sp_is_kinds) [] (dCons (dVar 0) (dNil))) (dCons (dCall (sp_is_kinds) [] (dCons (dVar 0) (dNil))) (dCons (dCall (sp_is_kinds) [] (dCons (dVar 0) (dNil))) (dNil)))))) [4] (dgName 4) (dYes) (dCall (sp__law_is) [] (dCons (dVar 4) (dCons (dVar 1) (dNil))))) (dNil))))) (dRet (dC (.bl false))) (dNext))
    (dSeq (dFor (dRng1 (dC (.int 6))) (dgName 3) (dIf (dTest (dOp fEqA (dOp fEqA (dCall (sp__law_door) [] (dCons (dVar 3) (dCons (dVar 0) (dNil)))) (dC (.str "kinds"))) (dVar 1))) (dRet (dC (.bl false))) (dNext)))
    (dRet (dOp fEqA (dFn fRepr (dCons (dVar 0) (dNil))) (dVar 2)))))
theorem body__law_value_right {P : Program} {w : World} {K : PySem.W.Frag} {mg : Str → Option Value} {base : Heap} (T : Txt K mg) (G__law_door : FnOk P w K mg base CX0 (8) T.a__law_door T.d__law_door ["door", "value"] (lSp K (sp__law_door))) (G__law_is : FnOk P w K mg base CX0 (1) T.a__law_is T.d__law_is ["found", "due"] (lSp K (sp__law_is))) (G__law_is_kinds : FnOk P w K mg base CX0 (2) T.a__law_is_kinds T.d__law_is_kinds ["value"] (lSp K (sp__law_is_kinds))) (G_is_kinds : FnOk P w K mg base CX0 (5) T.a_is_kinds T.d_is_kinds ["thing"] (lSp K (sp_is_kinds))) :
    ∀ (cdv : Value) (A : Around) (outer : List Env) (s : Shared) (H : Hp) (E : XK), A.guards = some [] → Room (8) (A.deeper (envOfC "_law_value_right" (defScope s__law_value_right) s.heap.objs.size T.a__law_value_right cdv)) → DSs (cxOf CX0 P w K mg base ["value", "due", "copied", "door", "found"] "_law_value_right" (defScope s__law_value_right) T.a__law_value_right cdv A outer s H E).nox (defBody s__law_value_right) (td__law_value_right) :=
  fun cdv A outer s H E gd hr =>
    dss_cons (ds_asg (de_tup (da_cons (de_call G__law_is_kinds (hr.mono (by decide)) (by rfl) T.m__law_is_kinds T.F__law_is_kinds.kp T.b__law_is_kinds .nil (fun _ => rfl) pass0 (da_cons (de_var (pv 0)) (da_nil))) (da_cons (de_callB (call_reprD gd (hu2_of hr)) ok_repr (by rfl) T.z_repr (by decide +kernel) (da_cons (de_var (pv 0)) (da_nil))) (da_nil)))) (dg_tup rfl (dgs_cons (dg_name (pg_name (i := 1) sc__law_value_right.nd rfl (Or.inr rfl))) (dgs_cons (dg_name (pg_name (i := 2) sc__law_value_right.nd rfl (Or.inl rfl))) (dgs_nil)))))
    (dss_cons (ds_if (dt_not (dt_truth (de_callB (cr_all rfl) ok_all (by rfl) T.z_all (by decide +kernel) (da_cons (de_lcF (own := [("found", 4)]) rfl sc__law_value_right.nd (di_walk (de_lstF (da_cons (de_call G_is_kinds (hr.mono (by decide)) (by rfl) T.m_is_kinds T.F_is_kinds.kp T.b_is_kinds .nil (fun _ => rfl) pass0 (da_cons (de_var (pv 0)) (da_nil))) (da_cons (de_callK G_is_kinds (hr.mono (by decide)) (by rfl) T.m_is_kinds T.F_is_kinds.kp T.kw_is_kinds pass0 (dk_cons (de_var (pv 0)) (dk_nil))) (da_cons (de_call G_is_kinds (hr.mono (by decide)) (by rfl) T.m_is_kinds T.F_is_kinds.kp T.b_is_kinds .nil (fun _ => rfl) pass0 (da_cons (de_var (pv 0)) (da_nil))) (da_nil)))))) (blkOk_by (by show blkC ["value", "due", "copied", "door", "found"] (defScope s__law_value_right) _ _ = true; decide +kernel)) (fun _ _ _ _ _ => dgc_name (pg_name (i := 4) sc__law_value_right.nd rfl (Or.inl rfl))) (fun _ _ _ _ _ => dts_nil) (fun _ _ _ _ _ => de_call G__law_is (hr.mono (by decide)) (by rfl) T.m__law_is T.F__law_is.kp T.b__law_is .nil (fun _ => rfl) pass0 (da_cons (de_var (pv 4)) (da_cons (de_var (pv 1)) (da_nil))))) (da_nil))))) (dss_one (ds_ret (de_bl pe_bl))) (dss_nil))
    (dss_cons (ds_for PassesOwn.never rfl (di_range1 (by rfl) T.z_range (de_int pe_int)) (dg_name (pg_name (i := 3) sc__law_value_right.nd rfl (Or.inl rfl))) (dss_one (ds_if (dt_cmp (c_eq hr.units) (de_cmp (c_eq hr.units) (de_call G__law_door (hr.mono (by decide)) (by rfl) T.m__law_door T.F__law_door.kp T.b__law_door .nil (fun _ => rfl) pass0 (da_cons (de_var (pv 3)) (da_cons (de_var (pv 0)) (da_nil)))) (de_str pe_str) (nomark _)) (de_var (pv 1)) (nomark _)) (dss_one (ds_ret (de_bl pe_bl))) (dss_nil))))
    (dss_one (ds_ret (de_cmp (c_eq hr.units) (de_callB (call_reprD gd (hu2_of hr)) ok_repr (by rfl) T.z_repr (by decide +kernel) (da_cons (de_var (pv 0)) (da_nil))) (de_var (pv 2)) (nomark _))))))
/-! ### _law_barren -/
abbrev s__law_barren : Stmt := topS 63
theorem sc__law_barren : FnScope ["well", "family", "titles", "found", "title", "makers", "some", "maker", "fields", "many", "j"] ["well", "family"] (defScope s__law_barren) := ⟨rfl, rfl, rfl, by decide +kernel, rfl, by decide +kernel, by decide +kernel⟩
def td__law_barren : DTS :=
  dSeq (dAsg (dTup (dCons (dLcF (dWalk (dVar 1)) [4, 5] (dgTup 2 (dgCons (dgName 4) (dgCons (dgName 5) (dgNil)))) (dYes) (dVar 4)) (dCons (dLst (dNil)) (dNil)))) (dgTup 2 (dgCons (dgName 2) (dgCons (dgName 3) (dgNil)))))
    (dSeq (dFor (dWalk (dVar 1)) (dgTup 2 (dgCons (dgName 4) (dgCons (dgName 5) (dgNil)))) (dSeq (dSet 6 (dLst (dNil)))
    (dSeq (dFor (dWalk (dVar 5)) (dgTup 2 (dgCons (dgName 7) (dgCons (dgName 8) (dgNil)))) (dSeq (dSet 9 (dOp fIx (dLstF (dCons (dC (.int 1)) (dCons (dC (.int 1)) (dCons (dC (.int 2)) (dCons (dC (.int 0)) (dNil)))))) (dCall (sp__law_draw) [] (dCons (dVar 0) (dCons (dC (.int 4)) (dNil))))))
    (dDrop (dMt fAppend (dVar 6) (dCons (dTup (dCons (dVar 7) (dCons (dFn fTuple (dCons (dLcF (dRng1 (dVar 9)) [10] (dgName 10) (dYes) (dOp fIx (dVar 2) (dCall (sp__law_draw) [] (dCons (dVar 0) (dCons (dFn fLen (dCons (dVar 2) (dNil))) (dNil)))))) (dNil))) (dNil)))) (dNil))))))
    (dDrop (dMt fAppend (dVar 3) (dCons (dTup (dCons (dVar 4) (dCons (dFn fTuple (dCons (dVar 6) (dNil))) (dNil)))) (dNil)))))))
    (dRet (dFn fTuple (dCons (dVar 3) (dNil)))))
theorem body__law_barren {P : Program} {w : World} {K : PySem.W.Frag} {mg : Str → Option Value} {base : Heap} (T : Txt K mg) (G__law_draw : FnOk P w K mg base CX0 (1) T.a__law_draw T.d__law_draw ["well", "many"] (lSp K (sp__law_draw))) :
    ∀ (cdv : Value) (A : Around) (outer : List Env) (s : Shared) (H : Hp) (E : XK), Room (1) (A.deeper (envOfC "_law_barren" (defScope s__law_barren) s.heap.objs.size T.a__law_barren cdv)) → DSs (cxOf CX0 P w K mg base ["well", "family", "titles", "found", "title", "makers", "some", "maker", "fields", "many", "j"] "_law_barren" (defScope s__law_barren) T.a__law_barren cdv A outer s H E).nox (defBody s__law_barren) (td__law_barren) :=
  fun cdv A outer s H E hr =>
    dss_cons (ds_asg (de_tup (da_cons (de_lcF (own := [("title", 4), ("makers", 5)]) rfl sc__law_barren.nd (di_walk (de_var (pv 1))) (blkOk_by (by show blkC ["well", "family", "titles", "found", "title", "makers", "some", "maker", "fields", "many", "j"] (defScope s__law_barren) _ _ = true; decide +kernel)) (fun _ _ _ _ _ => dgc_tup rfl (dgcs_cons (dgc_name (pg_name (i := 4) sc__law_barren.nd rfl (Or.inl rfl))) (dgcs_cons (dgc_name (pg_name (i := 5) sc__law_barren.nd rfl (Or.inl rfl))) (dgcs_nil)))) (fun _ _ _ _ _ => dts_nil) (fun _ _ _ _ _ => de_var (pv 4))) (da_cons (de_lst (da_nil)) (da_nil)))) (dg_tup rfl (dgs_cons (dg_name (pg_name (i := 2) sc__law_barren.nd rfl (Or.inr rfl))) (dgs_cons (dg_name (pg_name (i := 3) sc__law_barren.nd rfl (Or.inl rfl))) (dgs_nil)))))
    (dss_cons (ds_for PassesOwn.never rfl (di_walk (de_var (pv 1))) (dg_tup rfl (dgs_cons (dg_name (pg_name (i := 4) sc__law_barren.nd rfl (Or.inl rfl))) (dgs_cons (dg_name (pg_name (i := 5) sc__law_barren.nd rfl (Or.inl rfl))) (dgs_nil)))) (dss_cons (ds_set (i := 6) sc__law_barren.nd rfl (Or.inl rfl) (de_lst (da_nil)))
    (dss_cons (ds_for PassesOwn.never rfl (di_walk (de_var (pv 5))) (dg_tup rfl (dgs_cons (dg_name (pg_name (i := 7) sc__law_barren.nd rfl (Or.inl rfl))) (dgs_cons (dg_name (pg_name (i := 8) sc__law_barren.nd rfl (Or.inl rfl))) (dgs_nil)))) (dss_cons (ds_set (i := 9) sc__law_barren.nd rfl (Or.inl rfl) (de_ix (de_lstF (da_cons (de_int pe_int) (da_cons (de_int pe_int) (da_cons (de_int pe_int) (da_cons (de_int pe_int) (da_nil)))))) (de_call G__law_draw (hr.mono (by decide)) (by rfl) T.m__law_draw T.F__law_draw.kp T.b__law_draw .nil (fun _ => rfl) pass0 (da_cons (de_var (pv 0)) (da_cons (de_int pe_int) (da_nil))))))
    (dss_one (ds_expr (de_mt PySem.F.slot_list_append PySem.F.type_list_append mt_append ok_append (de_var (pv 6)) (da_cons (de_tup (da_cons (de_var (pv 7)) (da_cons (de_callTy call_tuple_of ok_tuple (by rfl) T.z_tuple (by decide +kernel) (da_cons (de_lcF (own := [("j", 10)]) rfl sc__law_barren.nd (di_range1 (by rfl) T.z_range (de_var (pv 9))) (blkOk_by (by show blkC ["well", "family", "titles", "found", "title", "makers", "some", "maker", "fields", "many", "j"] (defScope s__law_barren) _ _ = true; decide +kernel)) (fun _ _ _ _ _ => dgc_name (pg_name (i := 10) sc__law_barren.nd rfl (Or.inl rfl))) (fun _ _ _ _ _ => dts_nil) (fun _ _ _ _ _ => de_ix (de_var (pv 2)) (de_call G__law_draw (hr.mono (by decide)) (by rfl) T.m__law_draw T.F__law_draw.kp T.b__law_draw .nil (fun _ => rfl) pass0 (da_cons (de_var (pv 0)) (da_cons (de_callB call_len ok_len (by rfl) T.z_len (by decide +kernel) (da_cons (de_var (pv 2)) (da_nil))) (da_nil)))))) (da_nil))) (da_nil)))) (da_nil)))))))
    (dss_one (ds_expr (de_mt PySem.F.slot_list_append PySem.F.type_list_append mt_append ok_append (de_var (pv 3)) (da_cons (de_tup (da_cons (de_var (pv 4)) (da_cons (de_callTy call_tuple_of ok_tuple (by rfl) T.z_tuple (by decide +kernel) (da_cons (de_var (pv 6)) (da_nil))) (da_nil)))) (da_nil))))))))
    (dss_one (ds_ret (de_callTy call_tuple_of ok_tuple (by rfl) T.z_tuple (by decide +kernel) (da_cons (de_var (pv 3)) (da_nil))))))
/-! ### _law_wide -/
abbrev s__law_wide : Stmt := topS 64
theorem sc__law_wide : FnScope ["well", "found", "many", "deep", "last", "family", "turn", "k"] ["well"] (defScope s__law_wide) := ⟨rfl, rfl, rfl, by decide +kernel, rfl, by decide +kernel, by decide +kernel⟩
def td__law_wide : DTS :=
  dSeq (dSet 1 (dLst (dNil)))
    (dSeq (dFor (dWalk (dLstF (dCons (dC (.int 59)) (dCons (dC (.int 60)) (dCons (dC (.int 61)) (dNil)))))) (dgName 2) (dDrop (dMt fAppend (dVar 1) (dCons (dFn fTuple (dCons (dLcF (dRng1 (dVar 2)) [7] (dgName 7) (dYes) (dTup (dCons (dOp fAddF (dC (.str "K")) (dFn fStr (dCons (dVar 7) (dNil)))) (dCons (dTup (dCons (dTup (dCons (dOp fAddF (dC (.str "M")) (dFn fStr (dCons (dVar 7) (dNil)))) (dCons (dTup (dNil)) (dNil)))) (dNil))) (dNil))))) (dNil))) (dNil)))))
    (dSeq (dFor (dWalk (dLstF (dCons (dC (.int 7)) (dCons (dC (.int 8)) (dCons (dC (.int 9)) (dNil)))))) (dgName 2) (dDrop (dMt fAppend (dVar 1) (dCons (dTup (dCons (dTup (dCons (dC (.str "K")) (dCons (dFn fTuple (dCons (dLcF (dRng1 (dVar 2)) [7] (dgName 7) (dYes) (dTup (dCons (dOp fAddF (dC (.str "M")) (dFn fStr (dCons (dVar 7) (dNil)))) (dCons (dOp fMulB (dTup (dCons (dC (.str "K")) (dNil))) (dFn fInt (dCons (dOp fGt (dVar 7) (dC (.int 0))) (dNil)))) (dNil))))) (dNil))) (dNil)))) (dNil))) (dNil)))))
    (dSeq (dFor (dWalk (dLstF (dCons (dC (.int 3)) (dCons (dC (.int 4)) (dCons (dC (.int 5)) (dNil)))))) (dgName 2) (dDrop (dMt fAppend (dVar 1) (dCons (dTup (dCons (dTup (dCons (dC (.str "K")) (dCons (dTup (dCons (dTup (dCons (dC (.str "M")) (dCons (dTup (dNil)) (dNil)))) (dCons (dTup (dCons (dC (.str "N")) (dCons (dOp fMulB (dTup (dCons (dC (.str "K")) (dNil))) (dVar 2)) (dNil)))) (dNil)))) (dNil)))) (dNil))) (dNil)))))
    (dSeq (dSet 3 (dFn fTuple (dCons (dLcF (dRng1 (dC (.int 59))) [7] (dgName 7) (dYes) (dTup (dCons (dOp fAddF (dC (.str "K")) (dFn fStr (dCons (dVar 7) (dNil)))) (dCons (dTup (dCons (dTup (dCons (dOp fAddF (dC (.str "M")) (dFn fStr (dCons (dVar 7) (dNil)))) (dCons (dTup (dCons (dOp fAddF (dC (.str "K")) (dFn fStr (dCons (dOp fAddF (dVar 7) (dC (.int 1))) (dNil)))) (dNil))) (dNil)))) (dNil))) (dNil))))) (dNil))))
    (dSeq (dFor (dWalk (dLstF (dCons (dTup (dNil)) (dCons (dTup (dCons (dC (.str "K0")) (dNil))) (dCons (dTup (dCons (dC (.str "K59")) (dNil))) (dNil)))))) (dgName 4) (dSeq (dSet 5 (dOp fAddF (dVar 3) (dTup (dCons (dTup (dCons (dC (.str "K59")) (dCons (dTup (dCons (dTup (dCons (dC (.str "L")) (dCons (dVar 4) (dNil)))) (dCons (dTup (dCons (dC (.str "M59")) (dCons (dTup (dCons (dC (.str "K59")) (dCons (dC (.str "K0")) (dNil)))) (dNil)))) (dNil)))) (dNil)))) (dNil)))))
    (dSeq (dSet 6 (dCall (sp__law_draw) [] (dCons (dVar 0) (dCons (dC (.int 60)) (dNil)))))
    (dDrop (dMt fAppend (dVar 1) (dCons (dOp fAddF (dSlF (dVar 5) (dPart (dVar 6)) (dNoPart)) (dSlF (dVar 5) (dNoPart) (dPart (dVar 6)))) (dNil)))))))
    (dRet (dVar 1)))))))
theorem body__law_wide {P : Program} {w : World} {K : PySem.W.Frag} {mg : Str → Option Value} {base : Heap} (T : Txt K mg) (G__law_draw : FnOk P w K mg base CX0 (1) T.a__law_draw T.d__law_draw ["well", "many"] (lSp K (sp__law_draw))) :
    ∀ (cdv : Value) (A : Around) (outer : List Env) (s : Shared) (H : Hp) (E : XK), Room (1) (A.deeper (envOfC "_law_wide" (defScope s__law_wide) s.heap.objs.size T.a__law_wide cdv)) → DSs (cxOf CX0 P w K mg base ["well", "found", "many", "deep", "last", "family", "turn", "k"] "_law_wide" (defScope s__law_wide) T.a__law_wide cdv A outer s H E).nox (defBody s__law_wide) (td__law_wide) :=
  fun cdv A outer s H E hr =>
    dss_cons (ds_set (i := 1) sc__law_wide.nd rfl (Or.inl rfl) (de_lst (da_nil)))
    (dss_cons (ds_for PassesOwn.never rfl (di_walk (de_lstF (da_cons (de_int pe_int) (da_cons (de_int pe_int) (da_cons (de_int pe_int) (da_nil)))))) (dg_name (pg_name (i := 2) sc__law_wide.nd rfl (Or.inl rfl))) (dss_one (ds_expr (de_mt PySem.F.slot_list_append PySem.F.type_list_append mt_append ok_append (de_var (pv 1)) (da_cons (de_callTy call_tuple_of ok_tuple (by rfl) T.z_tuple (by decide +kernel) (da_cons (de_lcF (own := [("k", 7)]) rfl sc__law_wide.nd (di_range1 (by rfl) T.z_range (de_var (pv 2))) (blkOk_by (by show blkC ["well", "found", "many", "deep", "last", "family", "turn", "k"] (defScope s__law_wide) _ _ = true; decide +kernel)) (fun _ _ _ _ _ => dgc_name (pg_name (i := 7) sc__law_wide.nd rfl (Or.inl rfl))) (fun _ _ _ _ _ => dts_nil) (fun _ _ _ _ _ => de_tup (da_cons (de_addF (de_str pe_str) (de_callTy call_strA ok_str (by rfl) T.z_str (by decide +kernel) (da_cons (de_var (pv 7)) (da_nil)))) (da_cons (de_tup (da_cons (de_tup (da_cons (de_addF (de_str pe_str) (de_callTy call_strA ok_str (by rfl) T.z_str (by decide +kernel) (da_cons (de_var (pv 7)) (da_nil)))) (da_cons (de_tup (da_nil)) (da_nil)))) (da_nil))) (da_nil))))) (da_nil))) (da_nil))))))
    (dss_cons (ds_for PassesOwn.never rfl (di_walk (de_lstF (da_cons (de_int pe_int) (da_cons (de_int pe_int) (da_cons (de_int pe_int) (da_nil)))))) (dg_name (pg_name (i := 2) sc__law_wide.nd rfl (Or.inl rfl))) (dss_one (ds_expr (de_mt PySem.F.slot_list_append PySem.F.type_list_append mt_append ok_append (de_var (pv 1)) (da_cons (de_tup (da_cons (de_tup (da_cons (de_str pe_str) (da_cons (de_callTy call_tuple_of ok_tuple (by rfl) T.z_tuple (by decide +kernel) (da_cons (de_lcF (own := [("k", 7)]) rfl sc__law_wide.nd (di_range1 (by rfl) T.z_range (de_var (pv 2))) (blkOk_by (by show blkC ["well", "found", "many", "deep", "last", "family", "turn", "k"] (defScope s__law_wide) _ _ = true; decide +kernel)) (fun _ _ _ _ _ => dgc_name (pg_name (i := 7) sc__law_wide.nd rfl (Or.inl rfl))) (fun _ _ _ _ _ => dts_nil) (fun _ _ _ _ _ => de_tup (da_cons (de_addF (de_str pe_str) (de_callTy call_strA ok_str (by rfl) T.z_str (by decide +kernel) (da_cons (de_var (pv 7)) (da_nil)))) (da_cons (de_mulB (de_tup (da_cons (de_str pe_str) (da_nil))) (de_callTy call_int1 ok_int (by rfl) T.z_int (by decide +kernel) (da_cons (de_cmp (c_gt) (de_var (pv 7)) (de_int pe_int) (nomark _)) (da_nil)))) (da_nil))))) (da_nil))) (da_nil)))) (da_nil))) (da_nil))))))
    (dss_cons (ds_for PassesOwn.never rfl (di_walk (de_lstF (da_cons (de_int pe_int) (da_cons (de_int pe_int) (da_cons (de_int pe_int) (da_nil)))))) (dg_name (pg_name (i := 2) sc__law_wide.nd rfl (Or.inl rfl))) (dss_one (ds_expr (de_mt PySem.F.slot_list_append PySem.F.type_list_append mt_append ok_append (de_var (pv 1)) (da_cons (de_tup (da_cons (de_tup (da_cons (de_str pe_str) (da_cons (de_tup (da_cons (de_tup (da_cons (de_str pe_str) (da_cons (de_tup (da_nil)) (da_nil)))) (da_cons (de_tup (da_cons (de_str pe_str) (da_cons (de_mulB (de_tup (da_cons (de_str pe_str) (da_nil))) (de_var (pv 2))) (da_nil)))) (da_nil)))) (da_nil)))) (da_nil))) (da_nil))))))
    (dss_cons (ds_set (i := 3) sc__law_wide.nd rfl (Or.inl rfl) (de_callTy call_tuple_of ok_tuple (by rfl) T.z_tuple (by decide +kernel) (da_cons (de_lcF (own := [("k", 7)]) rfl sc__law_wide.nd (di_range1 (by rfl) T.z_range (de_int pe_int)) (blkOk_by (by show blkC ["well", "found", "many", "deep", "last", "family", "turn", "k"] (defScope s__law_wide) _ _ = true; decide +kernel)) (fun _ _ _ _ _ => dgc_name (pg_name (i := 7) sc__law_wide.nd rfl (Or.inl rfl))) (fun _ _ _ _ _ => dts_nil) (fun _ _ _ _ _ => de_tup (da_cons (de_addF (de_str pe_str) (de_callTy call_strA ok_str (by rfl) T.z_str (by decide +kernel) (da_cons (de_var (pv 7)) (da_nil)))) (da_cons (de_tup (da_cons (de_tup (da_cons (de_addF (de_str pe_str) (de_callTy call_strA ok_str (by rfl) T.z_str (by decide +kernel) (da_cons (de_var (pv 7)) (da_nil)))) (da_cons (de_tup (da_cons (de_addF (de_str pe_str) (de_callTy call_strA ok_str (by rfl) T.z_str (by decide +kernel) (da_cons (de_addF (de_var (pv 7)) (de_int pe_int)) (da_nil)))) (da_nil))) (da_nil)))) (da_nil))) (da_nil))))) (da_nil))))
    (dss_cons (ds_for PassesOwn.never rfl (di_walk (de_lstF (da_cons (de_tup (da_nil)) (da_cons (de_tup (da_cons (de_str pe_str) (da_nil))) (da_cons (de_tup (da_cons (de_str pe_str) (da_nil))) (da_nil)))))) (dg_name (pg_name (i := 4) sc__law_wide.nd rfl (Or.inl rfl))) (dss_cons (ds_set (i := 5) sc__law_wide.nd rfl (Or.inl rfl) (de_addF (de_var (pv 3)) (de_tup (da_cons (de_tup (da_cons (de_str pe_str) (da_cons (de_tup (da_cons (de_tup (da_cons (de_str pe_str) (da_cons (de_var (pv 4)) (da_nil)))) (da_cons (de_tup (da_cons (de_str pe_str) (da_cons (de_tup (da_cons (de_str pe_str) (da_cons (de_str pe_str) (da_nil)))) (da_nil)))) (da_nil)))) (da_nil)))) (da_nil)))))
    (dss_cons (ds_set (i := 6) sc__law_wide.nd rfl (Or.inl rfl) (de_call G__law_draw (hr.mono (by decide)) (by rfl) T.m__law_draw T.F__law_draw.kp T.b__law_draw .nil (fun _ => rfl) pass0 (da_cons (de_var (pv 0)) (da_cons (de_int pe_int) (da_nil)))))
    (dss_one (ds_expr (de_mt PySem.F.slot_list_append PySem.F.type_list_append mt_append ok_append (de_var (pv 1)) (da_cons (de_addF (de_sliceF (de_var (pv 5)) (do_some (de_var (pv 6))) (do_none)) (de_sliceF (de_var (pv 5)) (do_none) (do_some (de_var (pv 6))))) (da_nil))))))))
    (dss_one (ds_ret (de_var (pv 1)))))))))
/-! ### law -/
abbrev s_law : Stmt := topS 65
theorem sc_law : FnScope ["script", "well", "values", "turn", "family", "k", "value"] ["script"] (defScope s_law) := ⟨rfl, rfl, rfl, by decide +kernel, rfl, by decide +kernel, by decide +kernel⟩
def td_law : DTS :=
  dSeq (dSet 1 (dCall (sp__law_well) [] (dCons (dVar 0) (dNil))))
    (dSeq (dSet 2 (dOp fAdd (dCall (sp__law_wide) [] (dCons (dVar 1) (dNil))) (dLst (dCons (dC .non) (dCons (dC (.int 0)) (dCons (dC (.str "")) (dCons (dTup (dNil)) (dCons (dTup (dCons (dTup (dCons (dC (.str "A")) (dCons (dTup (dNil)) (dNil)))) (dNil))) (dCons (dTup (dCons (dTup (dCons (dC (.str "A")) (dCons (dTup (dCons (dTup (dCons (dC (.str "B")) (dCons (dTup (dCons (dC (.str "A")) (dNil))) (dNil)))) (dNil))) (dNil)))) (dNil))) (dCons (dTup (dCons (dTup (dCons (dC (.str "A")) (dCons (dTup (dCons (dTup (dCons (dC (.str "B")) (dCons (dTup (dNil)) (dNil)))) (dNil))) (dNil)))) (dNil))) (dCons (dLstF (dNil)) (dCons (dC (.str "kinds")) (dNil)))))))))))))
    (dSeq (dFor (dRng1 (dC (.int 3))) (dgName 3) (dSeq (dSet 4 (dCall (sp__law_kinds) [] (dCons (dVar 1) (dCons (dOp fIx (dLstF (dCons (dC (.int 2)) (dCons (dC (.int 4)) (dCons (dC (.int 6)) (dNil))))) (dVar 3)) (dNil)))))
    (dSeq (dSet 2 (dOp fAdd (dVar 2) (dLst (dCons (dVar 4) (dCons (dFn fListF (dCons (dVar 4) (dNil))) (dCons (dBack (dVar 4)) (dCons (dOp fAddF (dVar 4) (dSlF (dVar 4) (dNoPart) (dPart (dC (.int 1))))) (dNil))))))))
    (dSeq (dFor (dRng1 (dC (.int 10))) (dgName 5) (dSeq (dSet 6 (dCall (sp__law_bent 20) [] (dCons (dVar 1) (dCons (dVar 4) (dNil)))))
    (dSet 2 (dOp fAdd (dVar 2) (dLst (dCons (dVar 6) (dCons (dCall (sp__law_bent 20) [] (dCons (dVar 1) (dCons (dVar 6) (dNil)))) (dNil))))))))
    (dFor (dRng1 (dC (.int 4))) (dgName 5) (dDrop (dMt fAppend (dVar 2) (dCons (dCall (sp__law_barren) [] (dCons (dVar 1) (dCons (dVar 4) (dNil)))) (dNil)))))))))
    (dRet (dFn fAll (dCons (dLcF (dWalk (dVar 2)) [6] (dgName 6) (dYes) (dCall (sp__law_value_right) [] (dCons (dVar 6) (dNil)))) (dNil))))))
theorem body_law {P : Program} {w : World} {K : PySem.W.Frag} {mg : Str → Option Value} {base : Heap} (T : Txt K mg) (G__law_barren : FnOk P w K mg base CX0 (2) T.a__law_barren T.d__law_barren ["well", "family"] (lSp K (sp__law_barren))) (G__law_bent : FnOk P w K mg base CX0 (21) T.a__law_bent T.d__law_bent ["well", "value"] (lSp K (sp__law_bent 20))) (G__law_kinds : FnOk P w K mg base CX0 (3) T.a__law_kinds T.d__law_kinds ["well", "most"] (lSp K (sp__law_kinds))) (G__law_value_right : FnOkG P w K mg base CX0 (9) T.a__law_value_right T.d__law_value_right ["value"] (lSp K (sp__law_value_right))) (G__law_well : FnOk P w K mg base CX0 (1) T.a__law_well T.d__law_well ["script"] (lSp K (sp__law_well))) (G__law_wide : FnOk P w K mg base CX0 (2) T.a__law_wide T.d__law_wide ["well"] (lSp K (sp__law_wide))) :
    ∀ (cdv : Value) (A : Around) (outer : List Env) (s : Shared) (H : Hp) (E : XK), A.guards = some [] → Room (22) (A.deeper (envOfC "law" (defScope s_law) s.heap.objs.size T.a_law cdv)) → DSs (cxOf CX0 P w K mg base ["script", "well", "values", "turn", "family", "k", "value"] "law" (defScope s_law) T.a_law cdv A outer s H E).nox (defBody s_law) (td_law) :=
  fun cdv A outer s H E gd hr =>
    dss_cons (ds_set (i := 1) sc_law.nd rfl (Or.inl rfl) (de_call G__law_well (hr.mono (by decide)) (by rfl) T.m__law_well T.F__law_well.kp T.b__law_well .nil (fun _ => rfl) pass0 (da_cons (de_var (pv 0)) (da_nil))))
    (dss_cons (ds_set (i := 2) sc_law.nd rfl (Or.inl rfl) (de_add (de_call G__law_wide (hr.mono (by decide)) (by rfl) T.m__law_wide T.F__law_wide.kp T.b__law_wide .nil (fun _ => rfl) pass0 (da_cons (de_var (pv 1)) (da_nil))) (de_lst (da_cons (de_non pe_non) (da_cons (de_int pe_int) (da_cons (de_str pe_str) (da_cons (de_tup (da_nil)) (da_cons (de_tup (da_cons (de_tup (da_cons (de_str pe_str) (da_cons (de_tup (da_nil)) (da_nil)))) (da_nil))) (da_cons (de_tup (da_cons (de_tup (da_cons (de_str pe_str) (da_cons (de_tup (da_cons (de_tup (da_cons (de_str pe_str) (da_cons (de_tup (da_cons (de_str pe_str) (da_nil))) (da_nil)))) (da_nil))) (da_nil)))) (da_nil))) (da_cons (de_tup (da_cons (de_tup (da_cons (de_str pe_str) (da_cons (de_tup (da_cons (de_tup (da_cons (de_str pe_str) (da_cons (de_tup (da_nil)) (da_nil)))) (da_nil))) (da_nil)))) (da_nil))) (da_cons (de_lstF (da_nil)) (da_cons (de_str pe_str) (da_nil)))))))))))))
    (dss_cons (ds_for PassesOwn.never rfl (di_range1 (by rfl) T.z_range (de_int pe_int)) (dg_name (pg_name (i := 3) sc_law.nd rfl (Or.inl rfl))) (dss_cons (ds_set (i := 4) sc_law.nd rfl (Or.inl rfl) (de_call G__law_kinds (hr.mono (by decide)) (by rfl) T.m__law_kinds T.F__law_kinds.kp T.b__law_kinds .nil (fun _ => rfl) pass0 (da_cons (de_var (pv 1)) (da_cons (de_ix (de_lstF (da_cons (de_int pe_int) (da_cons (de_int pe_int) (da_cons (de_int pe_int) (da_nil))))) (de_var (pv 3))) (da_nil)))))
    (dss_cons (ds_set (i := 2) sc_law.nd rfl (Or.inl rfl) (de_add (de_var (pv 2)) (de_lst (da_cons (de_var (pv 4)) (da_cons (de_listF (by rfl) T.z_list (by decide +kernel) (da_cons (de_var (pv 4)) (da_nil))) (da_cons (de_back (de_var (pv 4))) (da_cons (de_addF (de_var (pv 4)) (de_sliceF (de_var (pv 4)) (do_none) (do_some (de_int pe_int)))) (da_nil))))))))
    (dss_cons (ds_for PassesOwn.never rfl (di_range1 (by rfl) T.z_range (de_int pe_int)) (dg_name (pg_name (i := 5) sc_law.nd rfl (Or.inl rfl))) (dss_cons (ds_set (i := 6) sc_law.nd rfl (Or.inl rfl) (de_call G__law_bent (hr.mono (by omega)) (by rfl) T.m__law_bent T.F__law_bent.kp T.b__law_bent .nil (fun _ => rfl) pass0 (da_cons (de_var (pv 1)) (da_cons (de_var (pv 4)) (da_nil)))))
    (dss_one (ds_set (i := 2) sc_law.nd rfl (Or.inl rfl) (de_add (de_var (pv 2)) (de_lst (da_cons (de_var (pv 6)) (da_cons (de_call G__law_bent (hr.mono (by omega)) (by rfl) T.m__law_bent T.F__law_bent.kp T.b__law_bent .nil (fun _ => rfl) pass0 (da_cons (de_var (pv 1)) (da_cons (de_var (pv 6)) (da_nil)))) (da_nil)))))))))
    (dss_one (ds_for PassesOwn.never rfl (di_range1 (by rfl) T.z_range (de_int pe_int)) (dg_name (pg_name (i := 5) sc_law.nd rfl (Or.inl rfl))) (dss_one (ds_expr (de_mt PySem.F.slot_list_append PySem.F.type_list_append mt_append ok_append (de_var (pv 2)) (da_cons (de_call G__law_barren (hr.mono (by decide)) (by rfl) T.m__law_barren T.F__law_barren.kp T.b__law_barren .nil (fun _ => rfl) pass0 (da_cons (de_var (pv 1)) (da_cons (de_var (pv 4)) (da_nil)))) (da_nil)))))))))))
    (dss_one (ds_ret (de_callB (cr_all rfl) ok_all (by rfl) T.z_all (by decide +kernel) (da_cons (de_lcF (own := [("value", 6)]) rfl sc_law.nd (di_walk (de_var (pv 2))) (blkOk_by (by show blkC ["script", "well", "values", "turn", "family", "k", "value"] (defScope s_law) _ _ = true; decide +kernel)) (fun _ _ _ _ _ => dgc_name (pg_name (i := 6) sc_law.nd rfl (Or.inl rfl))) (fun _ _ _ _ _ => dts_nil) (fun _ _ _ _ _ => de_callG G__law_value_right gd (hr.mono (by decide)) (by rfl) T.m__law_value_right T.F__law_value_right.kp T.b__law_value_right pass0 (da_cons (de_var (pv 6)) (da_nil)))) (da_nil)))))))
/-! ## the end: the facts of the top -/
def mkTxt {K : PySem.W.Frag} {h : Heap} {mg : Str → Option Value} (X : K.In h) (GN : h.Ns mainGlobals mg)
    {f_is_row : Addr} {od_is_row an_is_row : Option Addr} {sl_is_row : Array (Option Value)} {oc_is_row kV_is_row dc_is_row pm_is_row cd_is_row ct_is_row : Value}
    {f_in_run : Addr} {od_in_run an_in_run : Option Addr} {sl_in_run : Array (Option Value)} {oc_in_run kV_in_run dc_in_run pm_in_run cd_in_run ct_in_run : Value}
    {f_is_desk_name : Addr} {od_is_desk_name an_is_desk_name : Option Addr} {sl_is_desk_name : Array (Option Value)} {oc_is_desk_name kV_is_desk_name dc_is_desk_name pm_is_desk_name cd_is_desk_name ct_is_desk_name : Value}
    {f_is_high : Addr} {od_is_high an_is_high : Option Addr} {sl_is_high : Array (Option Value)} {oc_is_high kV_is_high dc_is_high pm_is_high cd_is_high ct_is_high : Value}
    {f_all_different : Addr} {od_all_different an_all_different : Option Addr} {sl_all_different : Array (Option Value)} {oc_all_different kV_all_different dc_all_different pm_all_different cd_all_different ct_all_different : Value}
    {f_kind_index : Addr} {od_kind_index an_kind_index : Option Addr} {sl_kind_index : Array (Option Value)} {oc_kind_index kV_kind_index dc_kind_index pm_kind_index cd_kind_index ct_kind_index : Value}
    {f_has_form : Addr} {od_has_form an_has_form : Option Addr} {sl_has_form : Array (Option Value)} {oc_has_form kV_has_form dc_has_form pm_has_form cd_has_form ct_has_form : Value}
    {f_with_trees : Addr} {od_with_trees an_with_trees : Option Addr} {sl_with_trees : Array (Option Value)} {oc_with_trees kV_with_trees dc_with_trees pm_with_trees cd_with_trees ct_with_trees : Value}
    {f_is_kinds : Addr} {od_is_kinds an_is_kinds : Option Addr} {sl_is_kinds : Array (Option Value)} {oc_is_kinds kV_is_kinds dc_is_kinds pm_is_kinds cd_is_kinds ct_is_kinds : Value}
    {f_need_kinds : Addr} {od_need_kinds an_need_kinds : Option Addr} {sl_need_kinds : Array (Option Value)} {oc_need_kinds kV_need_kinds dc_need_kinds pm_need_kinds cd_need_kinds ct_need_kinds : Value}
    {f_need_kind : Addr} {od_need_kind an_need_kind : Option Addr} {sl_need_kind : Array (Option Value)} {oc_need_kind kV_need_kind dc_need_kind pm_need_kind cd_need_kind ct_need_kind : Value}
    {f_is_tree : Addr} {od_is_tree an_is_tree : Option Addr} {sl_is_tree : Array (Option Value)} {oc_is_tree kV_is_tree dc_is_tree pm_is_tree cd_is_tree ct_is_tree : Value}
    {f_fit_rows : Addr} {od_fit_rows an_fit_rows : Option Addr} {sl_fit_rows : Array (Option Value)} {oc_fit_rows kV_fit_rows dc_fit_rows pm_fit_rows cd_fit_rows ct_fit_rows : Value}
    {f_need_rows : Addr} {od_need_rows an_need_rows : Option Addr} {sl_need_rows : Array (Option Value)} {oc_need_rows kV_need_rows dc_need_rows pm_need_rows cd_need_rows ct_need_rows : Value}
    {f_is_rows : Addr} {od_is_rows an_is_rows : Option Addr} {sl_is_rows : Array (Option Value)} {oc_is_rows kV_is_rows dc_is_rows pm_is_rows cd_is_rows ct_is_rows : Value}
    {f_rows_of : Addr} {od_rows_of an_rows_of : Option Addr} {sl_rows_of : Array (Option Value)} {oc_rows_of kV_rows_of dc_rows_of pm_rows_of cd_rows_of ct_rows_of : Value}
    {f_tree_size : Addr} {od_tree_size an_tree_size : Option Addr} {sl_tree_size : Array (Option Value)} {oc_tree_size kV_tree_size dc_tree_size pm_tree_size cd_tree_size ct_tree_size : Value}
    {f_listing_of : Addr} {od_listing_of an_listing_of : Option Addr} {sl_listing_of : Array (Option Value)} {oc_listing_of kV_listing_of dc_listing_of pm_listing_of cd_listing_of ct_listing_of : Value}
    {f_compare_trees : Addr} {od_compare_trees an_compare_trees : Option Addr} {sl_compare_trees : Array (Option Value)} {oc_compare_trees kV_compare_trees dc_compare_trees pm_compare_trees cd_compare_trees ct_compare_trees : Value}
    {f__law_well : Addr} {od__law_well an__law_well : Option Addr} {sl__law_well : Array (Option Value)} {oc__law_well kV__law_well dc__law_well pm__law_well cd__law_well ct__law_well : Value}
    {f__law_draw : Addr} {od__law_draw an__law_draw : Option Addr} {sl__law_draw : Array (Option Value)} {oc__law_draw kV__law_draw dc__law_draw pm__law_draw cd__law_draw ct__law_draw : Value}
    {f__law_is : Addr} {od__law_is an__law_is : Option Addr} {sl__law_is : Array (Option Value)} {oc__law_is kV__law_is dc__law_is pm__law_is cd__law_is ct__law_is : Value}
    {f__law_name : Addr} {od__law_name an__law_name : Option Addr} {sl__law_name : Array (Option Value)} {oc__law_name kV__law_name dc__law_name pm__law_name cd__law_name ct__law_name : Value}
    {f__law_kinds : Addr} {od__law_kinds an__law_kinds : Option Addr} {sl__law_kinds : Array (Option Value)} {oc__law_kinds kV__law_kinds dc__law_kinds pm__law_kinds cd__law_kinds ct__law_kinds : Value}
    {f__law_is_name : Addr} {od__law_is_name an__law_is_name : Option Addr} {sl__law_is_name : Array (Option Value)} {oc__law_is_name kV__law_is_name dc__law_is_name pm__law_is_name cd__law_is_name ct__law_is_name : Value}
    {f__law_is_kinds : Addr} {od__law_is_kinds an__law_is_kinds : Option Addr} {sl__law_is_kinds : Array (Option Value)} {oc__law_is_kinds kV__law_is_kinds dc__law_is_kinds pm__law_is_kinds cd__law_is_kinds ct__law_is_kinds : Value}
    {f__law_bent : Addr} {od__law_bent an__law_bent : Option Addr} {sl__law_bent : Array (Option Value)} {oc__law_bent kV__law_bent dc__law_bent pm__law_bent cd__law_bent ct__law_bent : Value}
    {f__law_door : Addr} {od__law_door an__law_door : Option Addr} {sl__law_door : Array (Option Value)} {oc__law_door kV__law_door dc__law_door pm__law_door cd__law_door ct__law_door : Value}
    {f__law_value_right : Addr} {od__law_value_right an__law_value_right : Option Addr} {sl__law_value_right : Array (Option Value)} {oc__law_value_right kV__law_value_right dc__law_value_right pm__law_value_right cd__law_value_right ct__law_value_right : Value}
    {f__law_barren : Addr} {od__law_barren an__law_barren : Option Addr} {sl__law_barren : Array (Option Value)} {oc__law_barren kV__law_barren dc__law_barren pm__law_barren cd__law_barren ct__law_barren : Value}
    {f__law_wide : Addr} {od__law_wide an__law_wide : Option Addr} {sl__law_wide : Array (Option Value)} {oc__law_wide kV__law_wide dc__law_wide pm__law_wide cd__law_wide ct__law_wide : Value}
    {f_law : Addr} {od_law an_law : Option Addr} {sl_law : Array (Option Value)} {oc_law kV_law dc_law pm_law cd_law ct_law : Value}
    {t_DIGITS : Tok}
    {t_LONGEST : Tok}
    {t_LOWER : Tok}
    {t_MOST_FIELDS : Tok}
    {t_MOST_KINDS : Tok}
    {t_MOST_MAKERS : Tok}
    {t_MOST_ROWS : Tok}
    {t_MOST_TOLD : Tok}
    {t_UPPER : Tok}
    {c_BadKind : Addr}
    {c_BadKinds : Addr}
    {c_BadRows : Addr}
    {c_PrintError : Addr}
    (A_is_row : PySem.W.nsIn K mainGlobals "is_row" = some (some (.ref f_is_row)))
    (L_is_row : K.lookup f_is_row = some ⟨oc_is_row, od_is_row, .func (PySem.W.fnOf "is_row" "is_row" (defArgs (topS 13)) (defBody (topS 13)) (defScope (topS 13)) .none kV_is_row dc_is_row pm_is_row an_is_row cd_is_row ct_is_row), sl_is_row⟩)
    (C_is_row : PySem.W.codeIn K cd_is_row "is_row" = true)
    (K_is_row : PySem.W.keepIn K (.ref f_is_row) = true)
    (A_in_run : PySem.W.nsIn K mainGlobals "in_run" = some (some (.ref f_in_run)))
    (L_in_run : K.lookup f_in_run = some ⟨oc_in_run, od_in_run, .func (PySem.W.fnOf "in_run" "in_run" (defArgs (topS 14)) (defBody (topS 14)) (defScope (topS 14)) .none kV_in_run dc_in_run pm_in_run an_in_run cd_in_run ct_in_run), sl_in_run⟩)
    (C_in_run : PySem.W.codeIn K cd_in_run "in_run" = true)
    (K_in_run : PySem.W.keepIn K (.ref f_in_run) = true)
    (A_is_desk_name : PySem.W.nsIn K mainGlobals "is_desk_name" = some (some (.ref f_is_desk_name)))
    (L_is_desk_name : K.lookup f_is_desk_name = some ⟨oc_is_desk_name, od_is_desk_name, .func (PySem.W.fnOf "is_desk_name" "is_desk_name" (defArgs (topS 15)) (defBody (topS 15)) (defScope (topS 15)) .none kV_is_desk_name dc_is_desk_name pm_is_desk_name an_is_desk_name cd_is_desk_name ct_is_desk_name), sl_is_desk_name⟩)
    (C_is_desk_name : PySem.W.codeIn K cd_is_desk_name "is_desk_name" = true)
    (K_is_desk_name : PySem.W.keepIn K (.ref f_is_desk_name) = true)
    (A_is_high : PySem.W.nsIn K mainGlobals "is_high" = some (some (.ref f_is_high)))
    (L_is_high : K.lookup f_is_high = some ⟨oc_is_high, od_is_high, .func (PySem.W.fnOf "is_high" "is_high" (defArgs (topS 16)) (defBody (topS 16)) (defScope (topS 16)) .none kV_is_high dc_is_high pm_is_high an_is_high cd_is_high ct_is_high), sl_is_high⟩)
    (C_is_high : PySem.W.codeIn K cd_is_high "is_high" = true)
    (K_is_high : PySem.W.keepIn K (.ref f_is_high) = true)
    (A_all_different : PySem.W.nsIn K mainGlobals "all_different" = some (some (.ref f_all_different)))
    (L_all_different : K.lookup f_all_different = some ⟨oc_all_different, od_all_different, .func (PySem.W.fnOf "all_different" "all_different" (defArgs (topS 17)) (defBody (topS 17)) (defScope (topS 17)) .none kV_all_different dc_all_different pm_all_different an_all_different cd_all_different ct_all_different), sl_all_different⟩)
    (C_all_different : PySem.W.codeIn K cd_all_different "all_different" = true)
    (K_all_different : PySem.W.keepIn K (.ref f_all_different) = true)
    (A_kind_index : PySem.W.nsIn K mainGlobals "kind_index" = some (some (.ref f_kind_index)))
    (L_kind_index : K.lookup f_kind_index = some ⟨oc_kind_index, od_kind_index, .func (PySem.W.fnOf "kind_index" "kind_index" (defArgs (topS 19)) (defBody (topS 19)) (defScope (topS 19)) .none kV_kind_index dc_kind_index pm_kind_index an_kind_index cd_kind_index ct_kind_index), sl_kind_index⟩)
    (C_kind_index : PySem.W.codeIn K cd_kind_index "kind_index" = true)
    (K_kind_index : PySem.W.keepIn K (.ref f_kind_index) = true)
    (A_has_form : PySem.W.nsIn K mainGlobals "has_form" = some (some (.ref f_has_form)))
    (L_has_form : K.lookup f_has_form = some ⟨oc_has_form, od_has_form, .func (PySem.W.fnOf "has_form" "has_form" (defArgs (topS 35)) (defBody (topS 35)) (defScope (topS 35)) .none kV_has_form dc_has_form pm_has_form an_has_form cd_has_form ct_has_form), sl_has_form⟩)
    (C_has_form : PySem.W.codeIn K cd_has_form "has_form" = true)
    (K_has_form : PySem.W.keepIn K (.ref f_has_form) = true)
    (A_with_trees : PySem.W.nsIn K mainGlobals "with_trees" = some (some (.ref f_with_trees)))
    (L_with_trees : K.lookup f_with_trees = some ⟨oc_with_trees, od_with_trees, .func (PySem.W.fnOf "with_trees" "with_trees" (defArgs (topS 36)) (defBody (topS 36)) (defScope (topS 36)) .none kV_with_trees dc_with_trees pm_with_trees an_with_trees cd_with_trees ct_with_trees), sl_with_trees⟩)
    (C_with_trees : PySem.W.codeIn K cd_with_trees "with_trees" = true)
    (K_with_trees : PySem.W.keepIn K (.ref f_with_trees) = true)
    (A_is_kinds : PySem.W.nsIn K mainGlobals "is_kinds" = some (some (.ref f_is_kinds)))
    (L_is_kinds : K.lookup f_is_kinds = some ⟨oc_is_kinds, od_is_kinds, .func (PySem.W.fnOf "is_kinds" "is_kinds" (defArgs (topS 37)) (defBody (topS 37)) (defScope (topS 37)) .none kV_is_kinds dc_is_kinds pm_is_kinds an_is_kinds cd_is_kinds ct_is_kinds), sl_is_kinds⟩)
    (C_is_kinds : PySem.W.codeIn K cd_is_kinds "is_kinds" = true)
    (K_is_kinds : PySem.W.keepIn K (.ref f_is_kinds) = true)
    (A_need_kinds : PySem.W.nsIn K mainGlobals "need_kinds" = some (some (.ref f_need_kinds)))
    (L_need_kinds : K.lookup f_need_kinds = some ⟨oc_need_kinds, od_need_kinds, .func (PySem.W.fnOf "need_kinds" "need_kinds" (defArgs (topS 38)) (defBody (topS 38)) (defScope (topS 38)) .none kV_need_kinds dc_need_kinds pm_need_kinds an_need_kinds cd_need_kinds ct_need_kinds), sl_need_kinds⟩)
    (C_need_kinds : PySem.W.codeIn K cd_need_kinds "need_kinds" = true)
    (K_need_kinds : PySem.W.keepIn K (.ref f_need_kinds) = true)
    (A_need_kind : PySem.W.nsIn K mainGlobals "need_kind" = some (some (.ref f_need_kind)))
    (L_need_kind : K.lookup f_need_kind = some ⟨oc_need_kind, od_need_kind, .func (PySem.W.fnOf "need_kind" "need_kind" (defArgs (topS 39)) (defBody (topS 39)) (defScope (topS 39)) .none kV_need_kind dc_need_kind pm_need_kind an_need_kind cd_need_kind ct_need_kind), sl_need_kind⟩)
    (C_need_kind : PySem.W.codeIn K cd_need_kind "need_kind" = true)
    (K_need_kind : PySem.W.keepIn K (.ref f_need_kind) = true)
    (A_is_tree : PySem.W.nsIn K mainGlobals "is_tree" = some (some (.ref f_is_tree)))
    (L_is_tree : K.lookup f_is_tree = some ⟨oc_is_tree, od_is_tree, .func (PySem.W.fnOf "is_tree" "is_tree" (defArgs (topS 42)) (defBody (topS 42)) (defScope (topS 42)) .none kV_is_tree dc_is_tree pm_is_tree an_is_tree cd_is_tree ct_is_tree), sl_is_tree⟩)
    (C_is_tree : PySem.W.codeIn K cd_is_tree "is_tree" = true)
    (K_is_tree : PySem.W.keepIn K (.ref f_is_tree) = true)
    (A_fit_rows : PySem.W.nsIn K mainGlobals "fit_rows" = some (some (.ref f_fit_rows)))
    (L_fit_rows : K.lookup f_fit_rows = some ⟨oc_fit_rows, od_fit_rows, .func (PySem.W.fnOf "fit_rows" "fit_rows" (defArgs (topS 44)) (defBody (topS 44)) (defScope (topS 44)) .none kV_fit_rows dc_fit_rows pm_fit_rows an_fit_rows cd_fit_rows ct_fit_rows), sl_fit_rows⟩)
    (C_fit_rows : PySem.W.codeIn K cd_fit_rows "fit_rows" = true)
    (K_fit_rows : PySem.W.keepIn K (.ref f_fit_rows) = true)
    (A_need_rows : PySem.W.nsIn K mainGlobals "need_rows" = some (some (.ref f_need_rows)))
    (L_need_rows : K.lookup f_need_rows = some ⟨oc_need_rows, od_need_rows, .func (PySem.W.fnOf "need_rows" "need_rows" (defArgs (topS 45)) (defBody (topS 45)) (defScope (topS 45)) .none kV_need_rows dc_need_rows pm_need_rows an_need_rows cd_need_rows ct_need_rows), sl_need_rows⟩)
    (C_need_rows : PySem.W.codeIn K cd_need_rows "need_rows" = true)
    (K_need_rows : PySem.W.keepIn K (.ref f_need_rows) = true)
    (A_is_rows : PySem.W.nsIn K mainGlobals "is_rows" = some (some (.ref f_is_rows)))
    (L_is_rows : K.lookup f_is_rows = some ⟨oc_is_rows, od_is_rows, .func (PySem.W.fnOf "is_rows" "is_rows" (defArgs (topS 46)) (defBody (topS 46)) (defScope (topS 46)) .none kV_is_rows dc_is_rows pm_is_rows an_is_rows cd_is_rows ct_is_rows), sl_is_rows⟩)
    (C_is_rows : PySem.W.codeIn K cd_is_rows "is_rows" = true)
    (K_is_rows : PySem.W.keepIn K (.ref f_is_rows) = true)
    (A_rows_of : PySem.W.nsIn K mainGlobals "rows_of" = some (some (.ref f_rows_of)))
    (L_rows_of : K.lookup f_rows_of = some ⟨oc_rows_of, od_rows_of, .func (PySem.W.fnOf "rows_of" "rows_of" (defArgs (topS 48)) (defBody (topS 48)) (defScope (topS 48)) .none kV_rows_of dc_rows_of pm_rows_of an_rows_of cd_rows_of ct_rows_of), sl_rows_of⟩)
    (C_rows_of : PySem.W.codeIn K cd_rows_of "rows_of" = true)
    (K_rows_of : PySem.W.keepIn K (.ref f_rows_of) = true)
    (A_tree_size : PySem.W.nsIn K mainGlobals "tree_size" = some (some (.ref f_tree_size)))
    (L_tree_size : K.lookup f_tree_size = some ⟨oc_tree_size, od_tree_size, .func (PySem.W.fnOf "tree_size" "tree_size" (defArgs (topS 49)) (defBody (topS 49)) (defScope (topS 49)) .none kV_tree_size dc_tree_size pm_tree_size an_tree_size cd_tree_size ct_tree_size), sl_tree_size⟩)
    (C_tree_size : PySem.W.codeIn K cd_tree_size "tree_size" = true)
    (K_tree_size : PySem.W.keepIn K (.ref f_tree_size) = true)
    (A_listing_of : PySem.W.nsIn K mainGlobals "listing_of" = some (some (.ref f_listing_of)))
    (L_listing_of : K.lookup f_listing_of = some ⟨oc_listing_of, od_listing_of, .func (PySem.W.fnOf "listing_of" "listing_of" (defArgs (topS 50)) (defBody (topS 50)) (defScope (topS 50)) .none kV_listing_of dc_listing_of pm_listing_of an_listing_of cd_listing_of ct_listing_of), sl_listing_of⟩)
    (C_listing_of : PySem.W.codeIn K cd_listing_of "listing_of" = true)
    (K_listing_of : PySem.W.keepIn K (.ref f_listing_of) = true)
    (A_compare_trees : PySem.W.nsIn K mainGlobals "compare_trees" = some (some (.ref f_compare_trees)))
    (L_compare_trees : K.lookup f_compare_trees = some ⟨oc_compare_trees, od_compare_trees, .func (PySem.W.fnOf "compare_trees" "compare_trees" (defArgs (topS 51)) (defBody (topS 51)) (defScope (topS 51)) .none kV_compare_trees dc_compare_trees pm_compare_trees an_compare_trees cd_compare_trees ct_compare_trees), sl_compare_trees⟩)
    (C_compare_trees : PySem.W.codeIn K cd_compare_trees "compare_trees" = true)
    (K_compare_trees : PySem.W.keepIn K (.ref f_compare_trees) = true)
    (A__law_well : PySem.W.nsIn K mainGlobals "_law_well" = some (some (.ref f__law_well)))
    (L__law_well : K.lookup f__law_well = some ⟨oc__law_well, od__law_well, .func (PySem.W.fnOf "_law_well" "_law_well" (defArgs (topS 53)) (defBody (topS 53)) (defScope (topS 53)) .none kV__law_well dc__law_well pm__law_well an__law_well cd__law_well ct__law_well), sl__law_well⟩)
    (C__law_well : PySem.W.codeIn K cd__law_well "_law_well" = true)
    (K__law_well : PySem.W.keepIn K (.ref f__law_well) = true)
    (A__law_draw : PySem.W.nsIn K mainGlobals "_law_draw" = some (some (.ref f__law_draw)))
    (L__law_draw : K.lookup f__law_draw = some ⟨oc__law_draw, od__law_draw, .func (PySem.W.fnOf "_law_draw" "_law_draw" (defArgs (topS 54)) (defBody (topS 54)) (defScope (topS 54)) .none kV__law_draw dc__law_draw pm__law_draw an__law_draw cd__law_draw ct__law_draw), sl__law_draw⟩)
    (C__law_draw : PySem.W.codeIn K cd__law_draw "_law_draw" = true)
    (K__law_draw : PySem.W.keepIn K (.ref f__law_draw) = true)
    (A__law_is : PySem.W.nsIn K mainGlobals "_law_is" = some (some (.ref f__law_is)))
    (L__law_is : K.lookup f__law_is = some ⟨oc__law_is, od__law_is, .func (PySem.W.fnOf "_law_is" "_law_is" (defArgs (topS 55)) (defBody (topS 55)) (defScope (topS 55)) .none kV__law_is dc__law_is pm__law_is an__law_is cd__law_is ct__law_is), sl__law_is⟩)
    (C__law_is : PySem.W.codeIn K cd__law_is "_law_is" = true)
    (K__law_is : PySem.W.keepIn K (.ref f__law_is) = true)
    (A__law_name : PySem.W.nsIn K mainGlobals "_law_name" = some (some (.ref f__law_name)))
    (L__law_name : K.lookup f__law_name = some ⟨oc__law_name, od__law_name, .func (PySem.W.fnOf "_law_name" "_law_name" (defArgs (topS 56)) (defBody (topS 56)) (defScope (topS 56)) .none kV__law_name dc__law_name pm__law_name an__law_name cd__law_name ct__law_name), sl__law_name⟩)
    (C__law_name : PySem.W.codeIn K cd__law_name "_law_name" = true)
    (K__law_name : PySem.W.keepIn K (.ref f__law_name) = true)
    (A__law_kinds : PySem.W.nsIn K mainGlobals "_law_kinds" = some (some (.ref f__law_kinds)))
    (L__law_kinds : K.lookup f__law_kinds = some ⟨oc__law_kinds, od__law_kinds, .func (PySem.W.fnOf "_law_kinds" "_law_kinds" (defArgs (topS 57)) (defBody (topS 57)) (defScope (topS 57)) .none kV__law_kinds dc__law_kinds pm__law_kinds an__law_kinds cd__law_kinds ct__law_kinds), sl__law_kinds⟩)
    (C__law_kinds : PySem.W.codeIn K cd__law_kinds "_law_kinds" = true)
    (K__law_kinds : PySem.W.keepIn K (.ref f__law_kinds) = true)
    (A__law_is_name : PySem.W.nsIn K mainGlobals "_law_is_name" = some (some (.ref f__law_is_name)))
    (L__law_is_name : K.lookup f__law_is_name = some ⟨oc__law_is_name, od__law_is_name, .func (PySem.W.fnOf "_law_is_name" "_law_is_name" (defArgs (topS 58)) (defBody (topS 58)) (defScope (topS 58)) .none kV__law_is_name dc__law_is_name pm__law_is_name an__law_is_name cd__law_is_name ct__law_is_name), sl__law_is_name⟩)
    (C__law_is_name : PySem.W.codeIn K cd__law_is_name "_law_is_name" = true)
    (K__law_is_name : PySem.W.keepIn K (.ref f__law_is_name) = true)
    (A__law_is_kinds : PySem.W.nsIn K mainGlobals "_law_is_kinds" = some (some (.ref f__law_is_kinds)))
    (L__law_is_kinds : K.lookup f__law_is_kinds = some ⟨oc__law_is_kinds, od__law_is_kinds, .func (PySem.W.fnOf "_law_is_kinds" "_law_is_kinds" (defArgs (topS 59)) (defBody (topS 59)) (defScope (topS 59)) .none kV__law_is_kinds dc__law_is_kinds pm__law_is_kinds an__law_is_kinds cd__law_is_kinds ct__law_is_kinds), sl__law_is_kinds⟩)
    (C__law_is_kinds : PySem.W.codeIn K cd__law_is_kinds "_law_is_kinds" = true)
    (K__law_is_kinds : PySem.W.keepIn K (.ref f__law_is_kinds) = true)
    (A__law_bent : PySem.W.nsIn K mainGlobals "_law_bent" = some (some (.ref f__law_bent)))
    (L__law_bent : K.lookup f__law_bent = some ⟨oc__law_bent, od__law_bent, .func (PySem.W.fnOf "_law_bent" "_law_bent" (defArgs (topS 60)) (defBody (topS 60)) (defScope (topS 60)) .none kV__law_bent dc__law_bent pm__law_bent an__law_bent cd__law_bent ct__law_bent), sl__law_bent⟩)
    (C__law_bent : PySem.W.codeIn K cd__law_bent "_law_bent" = true)
    (K__law_bent : PySem.W.keepIn K (.ref f__law_bent) = true)
    (A__law_door : PySem.W.nsIn K mainGlobals "_law_door" = some (some (.ref f__law_door)))
    (L__law_door : K.lookup f__law_door = some ⟨oc__law_door, od__law_door, .func (PySem.W.fnOf "_law_door" "_law_door" (defArgs (topS 61)) (defBody (topS 61)) (defScope (topS 61)) .none kV__law_door dc__law_door pm__law_door an__law_door cd__law_door ct__law_door), sl__law_door⟩)
    (C__law_door : PySem.W.codeIn K cd__law_door "_law_door" = true)
    (K__law_door : PySem.W.keepIn K (.ref f__law_door) = true)
    (A__law_value_right : PySem.W.nsIn K mainGlobals "_law_value_right" = some (some (.ref f__law_value_right)))
    (L__law_value_right : K.lookup f__law_value_right = some ⟨oc__law_value_right, od__law_value_right, .func (PySem.W.fnOf "_law_value_right" "_law_value_right" (defArgs (topS 62)) (defBody (topS 62)) (defScope (topS 62)) .none kV__law_value_right dc__law_value_right pm__law_value_right an__law_value_right cd__law_value_right ct__law_value_right), sl__law_value_right⟩)
    (C__law_value_right : PySem.W.codeIn K cd__law_value_right "_law_value_right" = true)
    (K__law_value_right : PySem.W.keepIn K (.ref f__law_value_right) = true)
    (A__law_barren : PySem.W.nsIn K mainGlobals "_law_barren" = some (some (.ref f__law_barren)))
    (L__law_barren : K.lookup f__law_barren = some ⟨oc__law_barren, od__law_barren, .func (PySem.W.fnOf "_law_barren" "_law_barren" (defArgs (topS 63)) (defBody (topS 63)) (defScope (topS 63)) .none kV__law_barren dc__law_barren pm__law_barren an__law_barren cd__law_barren ct__law_barren), sl__law_barren⟩)
    (C__law_barren : PySem.W.codeIn K cd__law_barren "_law_barren" = true)
    (K__law_barren : PySem.W.keepIn K (.ref f__law_barren) = true)
    (A__law_wide : PySem.W.nsIn K mainGlobals "_law_wide" = some (some (.ref f__law_wide)))
    (L__law_wide : K.lookup f__law_wide = some ⟨oc__law_wide, od__law_wide, .func (PySem.W.fnOf "_law_wide" "_law_wide" (defArgs (topS 64)) (defBody (topS 64)) (defScope (topS 64)) .none kV__law_wide dc__law_wide pm__law_wide an__law_wide cd__law_wide ct__law_wide), sl__law_wide⟩)
    (C__law_wide : PySem.W.codeIn K cd__law_wide "_law_wide" = true)
    (K__law_wide : PySem.W.keepIn K (.ref f__law_wide) = true)
    (A_law : PySem.W.nsIn K mainGlobals "law" = some (some (.ref f_law)))
    (L_law : K.lookup f_law = some ⟨oc_law, od_law, .func (PySem.W.fnOf "law" "law" (defArgs (topS 65)) (defBody (topS 65)) (defScope (topS 65)) .none kV_law dc_law pm_law an_law cd_law ct_law), sl_law⟩)
    (C_law : PySem.W.codeIn K cd_law "law" = true)
    (K_law : PySem.W.keepIn K (.ref f_law) = true)
    (G_DIGITS : PySem.W.nsIn K mainGlobals "DIGITS" = some (some (.str "0123456789" t_DIGITS)))
    (G_LONGEST : PySem.W.nsIn K mainGlobals "LONGEST" = some (some (.int 10 t_LONGEST)))
    (G_LOWER : PySem.W.nsIn K mainGlobals "LOWER" = some (some (.str "abcdefghijklmnopqrstuvwxyz" t_LOWER)))
    (G_MOST_FIELDS : PySem.W.nsIn K mainGlobals "MOST_FIELDS" = some (some (.int 4 t_MOST_FIELDS)))
    (G_MOST_KINDS : PySem.W.nsIn K mainGlobals "MOST_KINDS" = some (some (.int 60 t_MOST_KINDS)))
    (G_MOST_MAKERS : PySem.W.nsIn K mainGlobals "MOST_MAKERS" = some (some (.int 8 t_MOST_MAKERS)))
    (G_MOST_ROWS : PySem.W.nsIn K mainGlobals "MOST_ROWS" = some (some (.int 4000 t_MOST_ROWS)))
    (G_MOST_TOLD : PySem.W.nsIn K mainGlobals "MOST_TOLD" = some (some (.int 4000 t_MOST_TOLD)))
    (G_UPPER : PySem.W.nsIn K mainGlobals "UPPER" = some (some (.str "ABCDEFGHIJKLMNOPQRSTUVWXYZ" t_UPPER)))
    (N_BadKind : PySem.W.nsIn K mainGlobals "BadKind" = some (some (.ref c_BadKind)))
    (Q_BadKind : PySem.W.excIn K c_BadKind [.type "ValueError", .type "Exception", .type "BaseException", .type "object"] "ValueError.__new__" = true)
    (V_BadKind : PySem.W.keepIn K (.ref c_BadKind) = true)
    (S_BadKind : PySem.W.subIn K (.ref c_BadKind) (.type "BaseException") = some true)
    (Y_BadKind : PySem.W.typeIn K (.ref c_BadKind) = some (.type "type"))
    (N_BadKinds : PySem.W.nsIn K mainGlobals "BadKinds" = some (some (.ref c_BadKinds)))
    (Q_BadKinds : PySem.W.excIn K c_BadKinds [.type "ValueError", .type "Exception", .type "BaseException", .type "object"] "ValueError.__new__" = true)
    (V_BadKinds : PySem.W.keepIn K (.ref c_BadKinds) = true)
    (S_BadKinds : PySem.W.subIn K (.ref c_BadKinds) (.type "BaseException") = some true)
    (Y_BadKinds : PySem.W.typeIn K (.ref c_BadKinds) = some (.type "type"))
    (N_BadRows : PySem.W.nsIn K mainGlobals "BadRows" = some (some (.ref c_BadRows)))
    (Q_BadRows : PySem.W.excIn K c_BadRows [.type "ValueError", .type "Exception", .type "BaseException", .type "object"] "ValueError.__new__" = true)
    (V_BadRows : PySem.W.keepIn K (.ref c_BadRows) = true)
    (S_BadRows : PySem.W.subIn K (.ref c_BadRows) (.type "BaseException") = some true)
    (Y_BadRows : PySem.W.typeIn K (.ref c_BadRows) = some (.type "type"))
    (N_PrintError : PySem.W.nsIn K mainGlobals "PrintError" = some (some (.ref c_PrintError)))
    (E_BadKind_BadKinds : PySem.W.exmOne K (.ref c_BadKind) (.ref c_BadKinds) = some false)
    (E_BadKind_PrintError : PySem.W.exmOne K (.ref c_BadKind) (.ref c_PrintError) = some true)
    (E_BadKinds_BadKinds : PySem.W.exmOne K (.ref c_BadKinds) (.ref c_BadKinds) = some true)
    (E_BadKinds_PrintError : PySem.W.exmOne K (.ref c_BadKinds) (.ref c_PrintError) = some true)
    (E_BadRows_BadKinds : PySem.W.exmOne K (.ref c_BadRows) (.ref c_BadKinds) = some false)
    (E_BadRows_PrintError : PySem.W.exmOne K (.ref c_BadRows) (.ref c_PrintError) = some true)
    (Z_all : PySem.W.nsIn K mainGlobals "all" = some none)
    (Z_any : PySem.W.nsIn K mainGlobals "any" = some none)
    (Z_bool : PySem.W.nsIn K mainGlobals "bool" = some none)
    (Z_enumerate : PySem.W.nsIn K mainGlobals "enumerate" = some none)
    (Z_int : PySem.W.nsIn K mainGlobals "int" = some none)
    (Z_isinstance : PySem.W.nsIn K mainGlobals "isinstance" = some none)
    (Z_len : PySem.W.nsIn K mainGlobals "len" = some none)
    (Z_list : PySem.W.nsIn K mainGlobals "list" = some none)
    (Z_range : PySem.W.nsIn K mainGlobals "range" = some none)
    (Z_repr : PySem.W.nsIn K mainGlobals "repr" = some none)
    (Z_set : PySem.W.nsIn K mainGlobals "set" = some none)
    (Z_str : PySem.W.nsIn K mainGlobals "str" = some none)
    (Z_tuple : PySem.W.nsIn K mainGlobals "tuple" = some none)
    : Txt K mg where
  a_is_row := f_is_row
  d_is_row := PySem.W.fnOf "is_row" "is_row" (defArgs (topS 13)) (defBody (topS 13)) (defScope (topS 13)) .none kV_is_row dc_is_row pm_is_row an_is_row cd_is_row ct_is_row
  F_is_row := fun_mk (st := topS 13) L_is_row C_is_row K_is_row
  m_is_row := PySem.W.mg_of X GN A_is_row
  b_is_row := (fun_mk (st := topS 13) L_is_row C_is_row K_is_row).binds fun _ _ _ _ _ _ us hl => match us, hl with | [_, _, _], _ => rfl
  a_in_run := f_in_run
  d_in_run := PySem.W.fnOf "in_run" "in_run" (defArgs (topS 14)) (defBody (topS 14)) (defScope (topS 14)) .none kV_in_run dc_in_run pm_in_run an_in_run cd_in_run ct_in_run
  F_in_run := fun_mk (st := topS 14) L_in_run C_in_run K_in_run
  m_in_run := PySem.W.mg_of X GN A_in_run
  b_in_run := (fun_mk (st := topS 14) L_in_run C_in_run K_in_run).binds fun _ _ _ _ _ _ us hl => match us, hl with | [_], _ => rfl
  a_is_desk_name := f_is_desk_name
  d_is_desk_name := PySem.W.fnOf "is_desk_name" "is_desk_name" (defArgs (topS 15)) (defBody (topS 15)) (defScope (topS 15)) .none kV_is_desk_name dc_is_desk_name pm_is_desk_name an_is_desk_name cd_is_desk_name ct_is_desk_name
  F_is_desk_name := fun_mk (st := topS 15) L_is_desk_name C_is_desk_name K_is_desk_name
  m_is_desk_name := PySem.W.mg_of X GN A_is_desk_name
  b_is_desk_name := (fun_mk (st := topS 15) L_is_desk_name C_is_desk_name K_is_desk_name).binds fun _ _ _ _ _ _ us hl => match us, hl with | [_], _ => rfl
  a_is_high := f_is_high
  d_is_high := PySem.W.fnOf "is_high" "is_high" (defArgs (topS 16)) (defBody (topS 16)) (defScope (topS 16)) .none kV_is_high dc_is_high pm_is_high an_is_high cd_is_high ct_is_high
  F_is_high := fun_mk (st := topS 16) L_is_high C_is_high K_is_high
  m_is_high := PySem.W.mg_of X GN A_is_high
  b_is_high := (fun_mk (st := topS 16) L_is_high C_is_high K_is_high).binds fun _ _ _ _ _ _ us hl => match us, hl with | [_], _ => rfl
  a_all_different := f_all_different
  d_all_different := PySem.W.fnOf "all_different" "all_different" (defArgs (topS 17)) (defBody (topS 17)) (defScope (topS 17)) .none kV_all_different dc_all_different pm_all_different an_all_different cd_all_different ct_all_different
  F_all_different := fun_mk (st := topS 17) L_all_different C_all_different K_all_different
  m_all_different := PySem.W.mg_of X GN A_all_different
  b_all_different := (fun_mk (st := topS 17) L_all_different C_all_different K_all_different).binds fun _ _ _ _ _ _ us hl => match us, hl with | [_], _ => rfl
  a_kind_index := f_kind_index
  d_kind_index := PySem.W.fnOf "kind_index" "kind_index" (defArgs (topS 19)) (defBody (topS 19)) (defScope (topS 19)) .none kV_kind_index dc_kind_index pm_kind_index an_kind_index cd_kind_index ct_kind_index
  F_kind_index := fun_mk (st := topS 19) L_kind_index C_kind_index K_kind_index
  m_kind_index := PySem.W.mg_of X GN A_kind_index
  b_kind_index := (fun_mk (st := topS 19) L_kind_index C_kind_index K_kind_index).binds fun _ _ _ _ _ _ us hl => match us, hl with | [_, _], _ => rfl
  a_has_form := f_has_form
  d_has_form := PySem.W.fnOf "has_form" "has_form" (defArgs (topS 35)) (defBody (topS 35)) (defScope (topS 35)) .none kV_has_form dc_has_form pm_has_form an_has_form cd_has_form ct_has_form
  F_has_form := fun_mk (st := topS 35) L_has_form C_has_form K_has_form
  m_has_form := PySem.W.mg_of X GN A_has_form
  b_has_form := (fun_mk (st := topS 35) L_has_form C_has_form K_has_form).binds fun _ _ _ _ _ _ us hl => match us, hl with | [_], _ => rfl
  a_with_trees := f_with_trees
  d_with_trees := PySem.W.fnOf "with_trees" "with_trees" (defArgs (topS 36)) (defBody (topS 36)) (defScope (topS 36)) .none kV_with_trees dc_with_trees pm_with_trees an_with_trees cd_with_trees ct_with_trees
  F_with_trees := fun_mk (st := topS 36) L_with_trees C_with_trees K_with_trees
  m_with_trees := PySem.W.mg_of X GN A_with_trees
  b_with_trees := (fun_mk (st := topS 36) L_with_trees C_with_trees K_with_trees).binds fun _ _ _ _ _ _ us hl => match us, hl with | [_], _ => rfl
  a_is_kinds := f_is_kinds
  d_is_kinds := PySem.W.fnOf "is_kinds" "is_kinds" (defArgs (topS 37)) (defBody (topS 37)) (defScope (topS 37)) .none kV_is_kinds dc_is_kinds pm_is_kinds an_is_kinds cd_is_kinds ct_is_kinds
  F_is_kinds := fun_mk (st := topS 37) L_is_kinds C_is_kinds K_is_kinds
  m_is_kinds := PySem.W.mg_of X GN A_is_kinds
  b_is_kinds := (fun_mk (st := topS 37) L_is_kinds C_is_kinds K_is_kinds).binds fun _ _ _ _ _ _ us hl => match us, hl with | [_], _ => rfl
  kw_is_kinds := ⟨fun s ws _ hl => match ws, hl with | [_], _ => .of_eq rfl, rfl⟩
  a_need_kinds := f_need_kinds
  d_need_kinds := PySem.W.fnOf "need_kinds" "need_kinds" (defArgs (topS 38)) (defBody (topS 38)) (defScope (topS 38)) .none kV_need_kinds dc_need_kinds pm_need_kinds an_need_kinds cd_need_kinds ct_need_kinds
  F_need_kinds := fun_mk (st := topS 38) L_need_kinds C_need_kinds K_need_kinds
  m_need_kinds := PySem.W.mg_of X GN A_need_kinds
  b_need_kinds := (fun_mk (st := topS 38) L_need_kinds C_need_kinds K_need_kinds).binds fun _ _ _ _ _ _ us hl => match us, hl with | [_], _ => rfl
  a_need_kind := f_need_kind
  d_need_kind := PySem.W.fnOf "need_kind" "need_kind" (defArgs (topS 39)) (defBody (topS 39)) (defScope (topS 39)) .none kV_need_kind dc_need_kind pm_need_kind an_need_kind cd_need_kind ct_need_kind
  F_need_kind := fun_mk (st := topS 39) L_need_kind C_need_kind K_need_kind
  m_need_kind := PySem.W.mg_of X GN A_need_kind
  b_need_kind := (fun_mk (st := topS 39) L_need_kind C_need_kind K_need_kind).binds fun _ _ _ _ _ _ us hl => match us, hl with | [_, _], _ => rfl
  a_is_tree := f_is_tree
  d_is_tree := PySem.W.fnOf "is_tree" "is_tree" (defArgs (topS 42)) (defBody (topS 42)) (defScope (topS 42)) .none kV_is_tree dc_is_tree pm_is_tree an_is_tree cd_is_tree ct_is_tree
  F_is_tree := fun_mk (st := topS 42) L_is_tree C_is_tree K_is_tree
  m_is_tree := PySem.W.mg_of X GN A_is_tree
  b_is_tree := (fun_mk (st := topS 42) L_is_tree C_is_tree K_is_tree).binds fun _ _ _ _ _ _ us hl => match us, hl with | [_, _, _], _ => rfl
  kw_is_tree_210 := ⟨fun s ws _ hl => match ws, hl with | [_, _, _], _ => .of_eq rfl, rfl, rfl, by decide⟩
  kw_is_tree := ⟨fun s ws _ hl => match ws, hl with | [_, _, _], _ => .of_eq rfl, rfl⟩
  a_fit_rows := f_fit_rows
  d_fit_rows := PySem.W.fnOf "fit_rows" "fit_rows" (defArgs (topS 44)) (defBody (topS 44)) (defScope (topS 44)) .none kV_fit_rows dc_fit_rows pm_fit_rows an_fit_rows cd_fit_rows ct_fit_rows
  F_fit_rows := fun_mk (st := topS 44) L_fit_rows C_fit_rows K_fit_rows
  m_fit_rows := PySem.W.mg_of X GN A_fit_rows
  b_fit_rows := (fun_mk (st := topS 44) L_fit_rows C_fit_rows K_fit_rows).binds fun _ _ _ _ _ _ us hl => match us, hl with | [_, _], _ => rfl
  a_need_rows := f_need_rows
  d_need_rows := PySem.W.fnOf "need_rows" "need_rows" (defArgs (topS 45)) (defBody (topS 45)) (defScope (topS 45)) .none kV_need_rows dc_need_rows pm_need_rows an_need_rows cd_need_rows ct_need_rows
  F_need_rows := fun_mk (st := topS 45) L_need_rows C_need_rows K_need_rows
  m_need_rows := PySem.W.mg_of X GN A_need_rows
  b_need_rows := (fun_mk (st := topS 45) L_need_rows C_need_rows K_need_rows).binds fun _ _ _ _ _ _ us hl => match us, hl with | [_, _], _ => rfl
  a_is_rows := f_is_rows
  d_is_rows := PySem.W.fnOf "is_rows" "is_rows" (defArgs (topS 46)) (defBody (topS 46)) (defScope (topS 46)) .none kV_is_rows dc_is_rows pm_is_rows an_is_rows cd_is_rows ct_is_rows
  F_is_rows := fun_mk (st := topS 46) L_is_rows C_is_rows K_is_rows
  m_is_rows := PySem.W.mg_of X GN A_is_rows
  b_is_rows := (fun_mk (st := topS 46) L_is_rows C_is_rows K_is_rows).binds fun _ _ _ _ _ _ us hl => match us, hl with | [_, _], _ => rfl
  a_rows_of := f_rows_of
  d_rows_of := PySem.W.fnOf "rows_of" "rows_of" (defArgs (topS 48)) (defBody (topS 48)) (defScope (topS 48)) .none kV_rows_of dc_rows_of pm_rows_of an_rows_of cd_rows_of ct_rows_of
  F_rows_of := fun_mk (st := topS 48) L_rows_of C_rows_of K_rows_of
  m_rows_of := PySem.W.mg_of X GN A_rows_of
  b_rows_of := (fun_mk (st := topS 48) L_rows_of C_rows_of K_rows_of).binds fun _ _ _ _ _ _ us hl => match us, hl with | [_, _, _], _ => rfl
  kw_rows_of_210 := ⟨fun s ws _ hl => match ws, hl with | [_, _, _], _ => .of_eq rfl, rfl, rfl, by decide⟩
  kw_rows_of := ⟨fun s ws _ hl => match ws, hl with | [_, _, _], _ => .of_eq rfl, rfl⟩
  a_tree_size := f_tree_size
  d_tree_size := PySem.W.fnOf "tree_size" "tree_size" (defArgs (topS 49)) (defBody (topS 49)) (defScope (topS 49)) .none kV_tree_size dc_tree_size pm_tree_size an_tree_size cd_tree_size ct_tree_size
  F_tree_size := fun_mk (st := topS 49) L_tree_size C_tree_size K_tree_size
  m_tree_size := PySem.W.mg_of X GN A_tree_size
  b_tree_size := (fun_mk (st := topS 49) L_tree_size C_tree_size K_tree_size).binds fun _ _ _ _ _ _ us hl => match us, hl with | [_, _], _ => rfl
  kw_tree_size_10 := ⟨fun s ws _ hl => match ws, hl with | [_, _], _ => .of_eq rfl, rfl, rfl, by decide⟩
  kw_tree_size := ⟨fun s ws _ hl => match ws, hl with | [_, _], _ => .of_eq rfl, rfl⟩
  a_listing_of := f_listing_of
  d_listing_of := PySem.W.fnOf "listing_of" "listing_of" (defArgs (topS 50)) (defBody (topS 50)) (defScope (topS 50)) .none kV_listing_of dc_listing_of pm_listing_of an_listing_of cd_listing_of ct_listing_of
  F_listing_of := fun_mk (st := topS 50) L_listing_of C_listing_of K_listing_of
  m_listing_of := PySem.W.mg_of X GN A_listing_of
  b_listing_of := (fun_mk (st := topS 50) L_listing_of C_listing_of K_listing_of).binds fun _ _ _ _ _ _ us hl => match us, hl with | [_, _], _ => rfl
  kw_listing_of_10 := ⟨fun s ws _ hl => match ws, hl with | [_, _], _ => .of_eq rfl, rfl, rfl, by decide⟩
  kw_listing_of := ⟨fun s ws _ hl => match ws, hl with | [_, _], _ => .of_eq rfl, rfl⟩
  a_compare_trees := f_compare_trees
  d_compare_trees := PySem.W.fnOf "compare_trees" "compare_trees" (defArgs (topS 51)) (defBody (topS 51)) (defScope (topS 51)) .none kV_compare_trees dc_compare_trees pm_compare_trees an_compare_trees cd_compare_trees ct_compare_trees
  F_compare_trees := fun_mk (st := topS 51) L_compare_trees C_compare_trees K_compare_trees
  m_compare_trees := PySem.W.mg_of X GN A_compare_trees
  b_compare_trees := (fun_mk (st := topS 51) L_compare_trees C_compare_trees K_compare_trees).binds fun _ _ _ _ _ _ us hl => match us, hl with | [_, _, _], _ => rfl
  a__law_well := f__law_well
  d__law_well := PySem.W.fnOf "_law_well" "_law_well" (defArgs (topS 53)) (defBody (topS 53)) (defScope (topS 53)) .none kV__law_well dc__law_well pm__law_well an__law_well cd__law_well ct__law_well
  F__law_well := fun_mk (st := topS 53) L__law_well C__law_well K__law_well
  m__law_well := PySem.W.mg_of X GN A__law_well
  b__law_well := (fun_mk (st := topS 53) L__law_well C__law_well K__law_well).binds fun _ _ _ _ _ _ us hl => match us, hl with | [_], _ => rfl
  a__law_draw := f__law_draw
  d__law_draw := PySem.W.fnOf "_law_draw" "_law_draw" (defArgs (topS 54)) (defBody (topS 54)) (defScope (topS 54)) .none kV__law_draw dc__law_draw pm__law_draw an__law_draw cd__law_draw ct__law_draw
  F__law_draw := fun_mk (st := topS 54) L__law_draw C__law_draw K__law_draw
  m__law_draw := PySem.W.mg_of X GN A__law_draw
  b__law_draw := (fun_mk (st := topS 54) L__law_draw C__law_draw K__law_draw).binds fun _ _ _ _ _ _ us hl => match us, hl with | [_, _], _ => rfl
  a__law_is := f__law_is
  d__law_is := PySem.W.fnOf "_law_is" "_law_is" (defArgs (topS 55)) (defBody (topS 55)) (defScope (topS 55)) .none kV__law_is dc__law_is pm__law_is an__law_is cd__law_is ct__law_is
  F__law_is := fun_mk (st := topS 55) L__law_is C__law_is K__law_is
  m__law_is := PySem.W.mg_of X GN A__law_is
  b__law_is := (fun_mk (st := topS 55) L__law_is C__law_is K__law_is).binds fun _ _ _ _ _ _ us hl => match us, hl with | [_, _], _ => rfl
  a__law_name := f__law_name
  d__law_name := PySem.W.fnOf "_law_name" "_law_name" (defArgs (topS 56)) (defBody (topS 56)) (defScope (topS 56)) .none kV__law_name dc__law_name pm__law_name an__law_name cd__law_name ct__law_name
  F__law_name := fun_mk (st := topS 56) L__law_name C__law_name K__law_name
  m__law_name := PySem.W.mg_of X GN A__law_name
  b__law_name := (fun_mk (st := topS 56) L__law_name C__law_name K__law_name).binds fun _ _ _ _ _ _ us hl => match us, hl with | [_, _, _], _ => rfl
  a__law_kinds := f__law_kinds
  d__law_kinds := PySem.W.fnOf "_law_kinds" "_law_kinds" (defArgs (topS 57)) (defBody (topS 57)) (defScope (topS 57)) .none kV__law_kinds dc__law_kinds pm__law_kinds an__law_kinds cd__law_kinds ct__law_kinds
  F__law_kinds := fun_mk (st := topS 57) L__law_kinds C__law_kinds K__law_kinds
  m__law_kinds := PySem.W.mg_of X GN A__law_kinds
  b__law_kinds := (fun_mk (st := topS 57) L__law_kinds C__law_kinds K__law_kinds).binds fun _ _ _ _ _ _ us hl => match us, hl with | [_, _], _ => rfl
  a__law_is_name := f__law_is_name
  d__law_is_name := PySem.W.fnOf "_law_is_name" "_law_is_name" (defArgs (topS 58)) (defBody (topS 58)) (defScope (topS 58)) .none kV__law_is_name dc__law_is_name pm__law_is_name an__law_is_name cd__law_is_name ct__law_is_name
  F__law_is_name := fun_mk (st := topS 58) L__law_is_name C__law_is_name K__law_is_name
  m__law_is_name := PySem.W.mg_of X GN A__law_is_name
  b__law_is_name := (fun_mk (st := topS 58) L__law_is_name C__law_is_name K__law_is_name).binds fun _ _ _ _ _ _ us hl => match us, hl with | [_, _], _ => rfl
  a__law_is_kinds := f__law_is_kinds
  d__law_is_kinds := PySem.W.fnOf "_law_is_kinds" "_law_is_kinds" (defArgs (topS 59)) (defBody (topS 59)) (defScope (topS 59)) .none kV__law_is_kinds dc__law_is_kinds pm__law_is_kinds an__law_is_kinds cd__law_is_kinds ct__law_is_kinds
  F__law_is_kinds := fun_mk (st := topS 59) L__law_is_kinds C__law_is_kinds K__law_is_kinds
  m__law_is_kinds := PySem.W.mg_of X GN A__law_is_kinds
  b__law_is_kinds := (fun_mk (st := topS 59) L__law_is_kinds C__law_is_kinds K__law_is_kinds).binds fun _ _ _ _ _ _ us hl => match us, hl with | [_], _ => rfl
  a__law_bent := f__law_bent
  d__law_bent := PySem.W.fnOf "_law_bent" "_law_bent" (defArgs (topS 60)) (defBody (topS 60)) (defScope (topS 60)) .none kV__law_bent dc__law_bent pm__law_bent an__law_bent cd__law_bent ct__law_bent
  F__law_bent := fun_mk (st := topS 60) L__law_bent C__law_bent K__law_bent
  m__law_bent := PySem.W.mg_of X GN A__law_bent
  b__law_bent := (fun_mk (st := topS 60) L__law_bent C__law_bent K__law_bent).binds fun _ _ _ _ _ _ us hl => match us, hl with | [_, _], _ => rfl
  a__law_door := f__law_door
  d__law_door := PySem.W.fnOf "_law_door" "_law_door" (defArgs (topS 61)) (defBody (topS 61)) (defScope (topS 61)) .none kV__law_door dc__law_door pm__law_door an__law_door cd__law_door ct__law_door
  F__law_door := fun_mk (st := topS 61) L__law_door C__law_door K__law_door
  m__law_door := PySem.W.mg_of X GN A__law_door
  b__law_door := (fun_mk (st := topS 61) L__law_door C__law_door K__law_door).binds fun _ _ _ _ _ _ us hl => match us, hl with | [_, _], _ => rfl
  a__law_value_right := f__law_value_right
  d__law_value_right := PySem.W.fnOf "_law_value_right" "_law_value_right" (defArgs (topS 62)) (defBody (topS 62)) (defScope (topS 62)) .none kV__law_value_right dc__law_value_right pm__law_value_right an__law_value_right cd__law_value_right ct__law_value_right
  F__law_value_right := fun_mk (st := topS 62) L__law_value_right C__law_value_right K__law_value_right
  m__law_value_right := PySem.W.mg_of X GN A__law_value_right
  b__law_value_right := (fun_mk (st := topS 62) L__law_value_right C__law_value_right K__law_value_right).binds fun _ _ _ _ _ _ us hl => match us, hl with | [_], _ => rfl
  a__law_barren := f__law_barren
  d__law_barren := PySem.W.fnOf "_law_barren" "_law_barren" (defArgs (topS 63)) (defBody (topS 63)) (defScope (topS 63)) .none kV__law_barren dc__law_barren pm__law_barren an__law_barren cd__law_barren ct__law_barren
  F__law_barren := fun_mk (st := topS 63) L__law_barren C__law_barren K__law_barren
  m__law_barren := PySem.W.mg_of X GN A__law_barren
  b__law_barren := (fun_mk (st := topS 63) L__law_barren C__law_barren K__law_barren).binds fun _ _ _ _ _ _ us hl => match us, hl with | [_, _], _ => rfl
  a__law_wide := f__law_wide
  d__law_wide := PySem.W.fnOf "_law_wide" "_law_wide" (defArgs (topS 64)) (defBody (topS 64)) (defScope (topS 64)) .none kV__law_wide dc__law_wide pm__law_wide an__law_wide cd__law_wide ct__law_wide
  F__law_wide := fun_mk (st := topS 64) L__law_wide C__law_wide K__law_wide
  m__law_wide := PySem.W.mg_of X GN A__law_wide
  b__law_wide := (fun_mk (st := topS 64) L__law_wide C__law_wide K__law_wide).binds fun _ _ _ _ _ _ us hl => match us, hl with | [_], _ => rfl
  a_law := f_law
  d_law := PySem.W.fnOf "law" "law" (defArgs (topS 65)) (defBody (topS 65)) (defScope (topS 65)) .none kV_law dc_law pm_law an_law cd_law ct_law
  F_law := fun_mk (st := topS 65) L_law C_law K_law
  m_law := PySem.W.mg_of X GN A_law
  b_law := (fun_mk (st := topS 65) L_law C_law K_law).binds fun _ _ _ _ _ _ us hl => match us, hl with | [_], _ => rfl
  t_DIGITS := t_DIGITS
  g_DIGITS := PySem.W.mg_of X GN G_DIGITS
  t_LONGEST := t_LONGEST
  g_LONGEST := PySem.W.mg_of X GN G_LONGEST
  t_LOWER := t_LOWER
  g_LOWER := PySem.W.mg_of X GN G_LOWER
  t_MOST_FIELDS := t_MOST_FIELDS
  g_MOST_FIELDS := PySem.W.mg_of X GN G_MOST_FIELDS
  t_MOST_KINDS := t_MOST_KINDS
  g_MOST_KINDS := PySem.W.mg_of X GN G_MOST_KINDS
  t_MOST_MAKERS := t_MOST_MAKERS
  g_MOST_MAKERS := PySem.W.mg_of X GN G_MOST_MAKERS
  t_MOST_ROWS := t_MOST_ROWS
  g_MOST_ROWS := PySem.W.mg_of X GN G_MOST_ROWS
  t_MOST_TOLD := t_MOST_TOLD
  g_MOST_TOLD := PySem.W.mg_of X GN G_MOST_TOLD
  t_UPPER := t_UPPER
  g_UPPER := PySem.W.mg_of X GN G_UPPER
  c_BadKind := c_BadKind
  n_BadKind := PySem.W.mg_of X GN N_BadKind
  q_BadKind := Q_BadKind
  k_BadKind := V_BadKind
  r_BadKind := fun _ e => by subst e; exact raises_own S_BadKind Y_BadKind
  c_BadKinds := c_BadKinds
  n_BadKinds := PySem.W.mg_of X GN N_BadKinds
  q_BadKinds := Q_BadKinds
  k_BadKinds := V_BadKinds
  r_BadKinds := fun _ e => by subst e; exact raises_own S_BadKinds Y_BadKinds
  s_BadKinds := subOk_cons (PySem.W.mg_of X GN N_BadKind) E_BadKind_BadKinds (subOk_skip (by decide) (subOk_cons (PySem.W.mg_of X GN N_BadKinds) E_BadKinds_BadKinds (subOk_skip (by decide) (subOk_cons (PySem.W.mg_of X GN N_BadRows) E_BadRows_BadKinds (subOk_skip (by decide) (subOk_nil))))))
  c_BadRows := c_BadRows
  n_BadRows := PySem.W.mg_of X GN N_BadRows
  q_BadRows := Q_BadRows
  k_BadRows := V_BadRows
  r_BadRows := fun _ e => by subst e; exact raises_own S_BadRows Y_BadRows
  c_PrintError := c_PrintError
  n_PrintError := PySem.W.mg_of X GN N_PrintError
  s_PrintError := subOk_skip (by decide) (subOk_cons (PySem.W.mg_of X GN N_BadKind) E_BadKind_PrintError (subOk_skip (by decide) (subOk_cons (PySem.W.mg_of X GN N_BadKinds) E_BadKinds_PrintError (subOk_skip (by decide) (subOk_cons (PySem.W.mg_of X GN N_BadRows) E_BadRows_PrintError (subOk_nil))))))
  z_all := PySem.W.mg_none_of X GN Z_all
  z_any := PySem.W.mg_none_of X GN Z_any
  z_bool := PySem.W.mg_none_of X GN Z_bool
  z_enumerate := PySem.W.mg_none_of X GN Z_enumerate
  z_int := PySem.W.mg_none_of X GN Z_int
  z_isinstance := PySem.W.mg_none_of X GN Z_isinstance
  z_len := PySem.W.mg_none_of X GN Z_len
  z_list := PySem.W.mg_none_of X GN Z_list
  z_range := PySem.W.mg_none_of X GN Z_range
  z_repr := PySem.W.mg_none_of X GN Z_repr
  z_set := PySem.W.mg_none_of X GN Z_set
  z_str := PySem.W.mg_none_of X GN Z_str
  z_tuple := PySem.W.mg_none_of X GN Z_tuple
end K21

set_option maxHeartbeats 4000000
namespace DL
open PySem PySem.Spec L2
open PyProof.Rows hiding St
theorem low_sg : sg "abcdefghijklmnopqrstuvwxyz" = (List.range 26).map (· + 97) := by decide +kernel
theorem upp_sg : sg "ABCDEFGHIJKLMNOPQRSTUVWXYZ" = (List.range 26).map (· + 65) := by decide +kernel
theorem dig_sg : sg "0123456789" = (List.range 10).map (· + 48) := by decide +kernel
theorem mem_low {c : Nat} : decide (c ∈ sg "abcdefghijklmnopqrstuvwxyz") = loC c := by
  rw [low_sg, Bool.eq_iff_iff]
  simp only [decide_eq_true_eq, List.mem_map, List.mem_range, loC, Bool.and_eq_true]
  exact ⟨fun ⟨a, h, e⟩ => by omega, fun h => ⟨c - 97, by omega, by omega⟩⟩
theorem mem_upp {c : Nat} : decide (c ∈ sg "ABCDEFGHIJKLMNOPQRSTUVWXYZ") = upC c := by
  rw [upp_sg, Bool.eq_iff_iff]
  simp only [decide_eq_true_eq, List.mem_map, List.mem_range, upC, Bool.and_eq_true]
  exact ⟨fun ⟨a, h, e⟩ => by omega, fun h => ⟨c - 65, by omega, by omega⟩⟩
theorem mem_dig {c : Nat} : decide (c ∈ sg "0123456789") = dgC c := by
  rw [dig_sg, Bool.eq_iff_iff]
  simp only [decide_eq_true_eq, List.mem_map, List.mem_range, dgC, Bool.and_eq_true]
  exact ⟨fun ⟨a, h, e⟩ => by omega, fun h => ⟨c - 48, by omega, by omega⟩⟩
theorem sg_len (x : Str) : (sg x).length = x.length := by simp [sg, Str.length]
theorem Val.strLen {b n z : Nat} {x : Str} (h : Val b n z (.str x)) : 10 * x.length + 2 ≤ z := h.sz
theorem sz16 : sizeLine = 16777216 := sizeLine_eq
theorem Val.okI {b n z : Nat} {d : Dv} (h : Val b n z d) : okI d = true := okI_of h.ok
theorem at0 {x : Str} (h : 1 ≤ x.length) : atI (sg x) 0 = some ((sg x).headD 0) := by
  rw [← sg_len] at h
  cases e : sg x with
  | nil => rw [e] at h; simp at h
  | cons a l => exact atI_0
/-- all of a text's signs, by a list of answers -/
theorem all_signs (f : Nat → Bool) (x : Str) : ((List.range x.length).map fun i => f ((sg x).getD i 0)).all id = (sg x).all f := by
  rw [Bool.eq_iff_iff, List.all_eq_true, List.all_eq_true, ← sg_len]
  constructor
  · intro h c m
    obtain ⟨i, hi, e⟩ := List.getElem_of_mem m
    have := h _ (List.mem_map.mpr ⟨i, List.mem_range.mpr hi, rfl⟩)
    rwa [List.getD_eq_getElem?_getD, List.getElem?_eq_getElem hi, Option.getD_some, e] at this
  · rintro h b m
    obtain ⟨i, hi, rfl⟩ := List.mem_map.mp m
    have hi := List.mem_range.mp hi
    rw [List.getD_eq_getElem?_getD, List.getElem?_eq_getElem hi, Option.getD_some]
    exact h _ (List.getElem_mem hi)
theorem all_of (f : Dv → Bool) (ds : List Dv) : ((List.range ds.length).map fun i => f (nth ds i)).all id = ds.all f := by
  rw [Bool.eq_iff_iff, List.all_eq_true, List.all_eq_true]
  constructor
  · intro h c m
    obtain ⟨i, hi, e⟩ := List.getElem_of_mem m
    have := h _ (List.mem_map.mpr ⟨i, List.mem_range.mpr hi, rfl⟩)
    rwa [nth, List.getD_eq_getElem?_getD, List.getElem?_eq_getElem hi, Option.getD_some, e] at this
  · rintro h b m
    obtain ⟨i, hi, rfl⟩ := List.mem_map.mp m
    have hi := List.mem_range.mp hi
    show f (nth ds i) = true
    rw [nth, List.getD_eq_getElem?_getD, List.getElem?_eq_getElem hi, Option.getD_some]
    exact h _ (List.getElem_mem hi)
theorem range_snoc {α : Type} (n : Nat) (f : Nat → α) : (List.range (n + 1)).map f = (List.range n).map f ++ [f n] := by rw [List.range_succ, List.map_append]; rfl
end DL
namespace K21
open PySem PySem.Spec L2 DL
open PyProof.Rows hiding St
theorem rd_is_row : ∀ ds H Q, sq_is_row ds H Q → td_is_row (outD Q) (startD 3 ds) H := by
  rintro ds H Q ⟨d, lo, hi, rfl, h, q⟩
  have fin := rd_bl q
  refine ⟨_, rfl, okK_ofI h, ?_⟩
  cases d with
  | tup xs =>
    refine ⟨fun _ => ⟨_, rfl, _, rfl, fun e => ⟨_, rfl, fin _ ?_⟩, fun e => fin _ ?_⟩, fun e => (nomatch e)⟩
    · simp [rowB, of_decide_eq_true e]
    · simp [rowB, of_decide_eq_false e]
  | _ => exact ⟨fun e => (nomatch e), fun _ => fin _ rfl⟩
theorem rd_in_run : ∀ ds H Q, sp_in_run ds H Q → td_in_run (outD Q) (startD 1 ds) H := by
  rintro ds H Q ⟨c, rfl, q⟩
  have fin := rd_bl q
  refine ⟨_, rfl, c, rfl, ?_⟩
  rw [mem_low]
  refine ⟨fun e => fin _ (by show loC c = runC c; unfold runC; rw [show loC c = true from e]; rfl), fun e1 => ⟨_, rfl, c, rfl, ?_⟩⟩
  rw [mem_upp]
  refine ⟨fun e => fin _ (by show upC c = runC c; unfold runC; rw [show upC c = true from e, Bool.or_true]; rfl), fun e2 => ⟨_, rfl, c, rfl, ?_⟩⟩
  rw [mem_dig]
  exact fin _ (by show dgC c = runC c; unfold runC; rw [show loC c = false from e1, show upC c = false from e2]; rfl)
theorem rd_is_desk_name : ∀ ds H Q, sp_is_desk_name ds H Q → td_is_desk_name (outD Q) (startD 2 ds) H := by
  rintro ds H Q ⟨d, rfl, h, q⟩
  have fin := rd_bl q
  refine ⟨_, rfl, okK_ofI h.okI, ?_⟩
  cases d with
  | str x =>
    have hx := h.strLen
    have hz := sz16
    refine ⟨fun e => (nomatch e), fun _ => ⟨_, rfl, (by omega), fun e => ?_, fun e => ⟨fun _ => fin _ ?_, fun e => (nomatch e)⟩⟩⟩
    · have h1 : (1 : Int) ≤ (x.length : Nat) := of_decide_eq_true e
      refine ⟨fun e2 => fin _ ?_, fun e2 => ?_⟩
      · have h2 : ¬ ((x.length : Nat) : Int) ≤ 10 := by simpa using e2
        show false = dkS x
        unfold dkS
        rw [decide_eq_false (show ¬ x.length ≤ 10 by omega)]
        simp
      · have h2 : ((x.length : Nat) : Int) ≤ 10 := by simpa using e2
        have e0 : dkS x = (!dgC ((sg x).headD 0) && (sg x).all runC) := by
          unfold dkS
          rw [decide_eq_true (show 1 ≤ x.length by omega), decide_eq_true (show x.length ≤ 10 by omega)]
          rfl
        refine ⟨_, rfl, _, by omega, at0 (by omega), _, rfl, ?_⟩
        rw [mem_dig]
        refine ⟨fun e3 => ?_, fun e3 => fin _ (by show (!dgC _) = dkS x; rw [e0, show (!dgC ((sg x).headD 0)) = false from e3]; rfl)⟩
        refine ⟨_, rfl, fun i acc H' => H' = H ∧ acc = (List.range i).map fun j => Dv.bl (runC ((sg x).getD j 0)), ⟨rfl, rfl⟩, fun _ _ _ _ _ => trivial, ?_, ?_⟩
        · rintro i acc H' hi ⟨rfl, rfl⟩
          have hi' : i < x.length := hi
          refine ⟨fun _ => ⟨_, rfl, _, rfl, by rw [List.length_map, List.length_range]; omega, rfl, ?_⟩, fun e => (nomatch e)⟩
          rw [range_snoc]
        · rintro acc H' ⟨rfl, rfl⟩
          refine ⟨(List.range x.length).map fun j => runC ((sg x).getD j 0), by rw [List.map_map]; rfl, fin _ ?_⟩
          rw [all_signs]
          show (sg x).all runC = dkS x
          rw [e0, show (!dgC ((sg x).headD 0)) = true from e3]
          rfl
    · have h1 : ¬ (1 : Int) ≤ (x.length : Nat) := of_decide_eq_false e
      show false = dkS x
      unfold dkS
      rw [decide_eq_false (show ¬ 1 ≤ x.length by omega)]
      rfl
  | _ => exact ⟨fun _ => ⟨fun _ => fin _ rfl, fun e => (nomatch e)⟩, fun e => (nomatch e)⟩
theorem dk_hi {x : Str} : (dkS x && upC ((sg x).headD 0)) = hiS x := by
  unfold dkS hiS
  have : upC ((sg x).headD 0) = true → dgC ((sg x).headD 0) = false := by
    unfold upC dgC
    simp only [Bool.and_eq_true, decide_eq_true_eq, Bool.and_eq_false_iff, decide_eq_false_iff_not]
    omega
  cases e : upC ((sg x).headD 0) with
  | true => rw [this e]; simp
  | false => simp
theorem rd_is_high : ∀ ds H Q, sp_is_high ds H Q → td_is_high (outD Q) (startD 1 ds) H := by
  rintro ds H Q ⟨d, rfl, h, q⟩
  have fin := rd_bl q
  refine ⟨_, rfl, _, rfl, h, ?_⟩
  cases d with
  | str x =>
    have hx := h.strLen
    have hz := sz16
    refine ⟨fun e => ?_, fun e => fin _ ?_⟩
    · have e : dkS x = true := e
      have h1 : 1 ≤ x.length := by
        unfold dkS at e
        simp only [Bool.and_eq_true, decide_eq_true_eq] at e
        exact e.1.1.1
      refine ⟨_, rfl, _, by omega, at0 h1, _, rfl, ?_⟩
      rw [mem_upp]
      refine fin _ ?_
      show upC _ = hiS x
      rw [← dk_hi, e]; rfl
    · have e : dkS x = false := e
      show dkS x = hiS x
      rw [← dk_hi, e]; rfl
  | _ => exact ⟨fun e => (nomatch e), fun _ => fin _ rfl⟩
theorem strKeys (xs : List Str) : keysOf (xs.map .str) = some (xs.map .inr) := by
  induction xs with
  | nil => rfl
  | cons x xs ih => rw [List.map_cons, keysOf, ih]; rfl
theorem rd_all_different : ∀ ds H Q, sp_all_different ds H Q → td_all_different (outD Q) (startD 1 ds) H := by
  rintro ds H Q ⟨xs, rfl, hl, q⟩
  have fin := rd_bl q
  have hz := sz16
  refine ⟨_, rfl, _, strKeys xs, by rw [List.length_map]; exact hl, _, rfl, ?_⟩
  refine ⟨rfl, fin _ ?_⟩
  have := distN_nodup (xs.map (Sum.inr : Str → Key))
  have e : eqv (.int (distN (xs.map (Sum.inr : Str → Key)) : Nat)) (.int ((xs.map Dv.str).length : Nat)) = decide (distN (xs.map (Sum.inr : Str → Key)) = (xs.map (Sum.inr : Str → Key)).length) := by
    rw [List.length_map, List.length_map, Bool.eq_iff_iff, decide_eq_true_eq]
    show ((_ : Int) == _) = true ↔ _
    rw [beq_iff_eq]
    omega
  show eqv _ _ = _
  rw [e, Bool.eq_iff_iff, decide_eq_true_eq, decide_eq_true_eq, this]
  unfold List.Nodup
  rw [List.pairwise_map]
  exact ⟨fun h => h.imp fun n e => n (by rw [e]), fun h => h.imp fun n e => n (Sum.inr.inj e)⟩
theorem rd_kind_index : ∀ ds H Q, sp_kind_index ds H Q → td_kind_index (outD Q) (startD 5 ds) H := by
  rintro ds H Q ⟨ks, d, rfl, h, q⟩
  have hl : (ks.map kdD).length = ks.length := List.length_map _
  have hn : ∀ {i}, (hi : i < ks.length) → nth (ks.map kdD) i = .tup [.str ks[i].1, .tup (ks[i].2.map mkD)] := fun {i} hi => by
    unfold nth
    rw [List.getD_eq_getElem?_getD, List.getElem?_map, List.getElem?_eq_getElem hi]; rfl
  have hm : ∀ {i}, (hi : i < ks.length) → (nmsK ks)[i]? = some ks[i].1 := fun {i} hi => by
    rw [List.getElem?_map, List.getElem?_eq_getElem hi]; rfl
  refine ⟨_, rfl, fun i σ H' => H' = H ∧ (∃ a b c, σ = [some (ksD ks), some d, a, b, c]) ∧ ∀ j (hj : j < ks.length), j < i → d ≠ .str ks[j].1, ⟨rfl, ⟨none, none, none, rfl⟩, fun j _ z => absurd z (Nat.not_lt_zero _)⟩, fun _ _ _ _ _ => trivial, ?_, ?_⟩
  · rintro i σ H' hi ⟨rfl, ⟨a, b, c, rfl⟩, hp⟩
    have hi' : i < ks.length := by have : i < (ks.map kdD).length := hi; omega
    have next : d ≠ .str ks[i].1 → ∀ j (hj : j < ks.length), j < i + 1 → d ≠ .str ks[j].1 := fun z j hj l => by
      by_cases e : j = i
      · subst e; exact z
      · exact hp j hj (by omega)
    show dgTup 2 _ (Dv.tup [.int (i : Nat), nth (ks.map kdD) i]) _ _ _
    rw [hn hi']
    refine ⟨rfl, rfl, rfl, rfl, _, rfl, okK_ofI h, ?_⟩
    cases d with
    | str x =>
      refine ⟨fun _ => ⟨_, rfl, _, rfl, rfl, ?_⟩, fun e => (nomatch e)⟩
      have ee : eqv (.str ks[i].1) (.str x) = decide (ks[i].1 = x) := by
        show (ks[i].1 == x) = _
        rw [Bool.eq_iff_iff, beq_iff_eq, decide_eq_true_eq]
      show _ ∧ _
      rw [show (fun k : Bool => k) (eqv (.str ks[i].1) (.str x)) = decide (ks[i].1 = x) from ee]
      refine ⟨fun e => ⟨_, rfl, ?_⟩, fun e => ⟨rfl, ⟨_, _, _, rfl⟩, next fun z => of_decide_eq_false e (Dv.str.inj z).symm⟩⟩
      have e : ks[i].1 = x := of_decide_eq_true e
      have : kIx ks (.str x) = some i := by
        unfold kIx
        rw [List.findIdx?_eq_some_iff_getElem]
        refine ⟨by rw [List.length_map]; exact hi', by simpa using e, fun j hj => ?_⟩
        have := hp j (by omega) hj
        simp only [List.getElem_map, decide_eq_true_eq]
        exact fun z => this (by rw [z])
      rw [this] at q
      exact rd_out q
    | _ => exact ⟨fun e => (nomatch e), fun _ => ⟨fun e => (nomatch e), fun _ => ⟨rfl, ⟨_, _, _, rfl⟩, next fun z => (nomatch z)⟩⟩⟩
  · rintro σ H' ⟨rfl, _, hp⟩
    have hp : ∀ j (hj : j < ks.length), d ≠ .str ks[j].1 := fun j hj => hp j hj (by show j < (ks.map kdD).length; omega)
    have : kIx ks d = none := by
      unfold kIx
      split
      · rw [List.findIdx?_eq_none_iff]
        intro x hx
        obtain ⟨k, hk, rfl⟩ := List.mem_map.mp hx
        obtain ⟨j, hj, rfl⟩ := List.getElem_of_mem hk
        rw [decide_eq_false_iff_not]
        exact fun z => hp j hj (by rw [z])
      · rfl
    rw [this] at q
    exact rd_out q
end K21

set_option maxHeartbeats 4000000
namespace DL
open PySem PySem.Spec L2
open PyProof.Rows hiding St
theorem rowB_tup {d : Dv} {lo hi : Int} (h : rowB d lo hi = true) : ∃ xs, d = .tup xs ∧ lo ≤ (xs.length : Nat) ∧ ((xs.length : Nat) : Int) ≤ hi := by
  cases d with
  | tup xs => 
    simp only [rowB, Bool.and_eq_true, decide_eq_true_eq] at h
    exact ⟨xs, rfl, h.1, h.2⟩
  | _ => cases h
theorem rowB_two {d : Dv} (h : rowB d 2 2 = true) : ∃ a b, d = .tup [a, b] := by
  obtain ⟨xs, rfl, h1, h2⟩ := rowB_tup h
  have h3 : xs.length = 2 := by omega
  match xs, h3 with
  | [a, b], _ => exact ⟨a, b, rfl⟩
theorem rowB_no {xs : List Dv} {lo hi : Int} (h : rowB (.tup xs) lo hi = false) : ¬ (lo ≤ (xs.length : Nat) ∧ ((xs.length : Nat) : Int) ≤ hi) := by
  intro z
  simp only [rowB] at h
  rw [decide_eq_true z.1, decide_eq_true z.2] at h
  cases h
theorem VD.two {a b : Dv} (h : VD (.tup [a, b])) : VD a ∧ VD b := by
  obtain ⟨m, e, h1, h2⟩ := Val.tups h
  exact ⟨(h1.mem (List.mem_cons_self)).mono, (h1.mem (List.mem_cons_of_mem _ List.mem_cons_self)).mono⟩
theorem VD.mem {xs : List Dv} {d : Dv} (h : VD (.tup xs)) (m : d ∈ xs) : VD d := by
  obtain ⟨n, e, h1, h2⟩ := Val.tups h
  exact (h1.mem m).mono
theorem VD.len {xs : List Dv} (h : VD (.tup xs)) : xs.length ≤ 8000000 := by
  obtain ⟨n, e, h1, h2⟩ := Val.tups h
  have := h1.len
  omega
theorem nth_mem {xs : List Dv} {i : Nat} (h : i < xs.length) : nth xs i ∈ xs := List.mem_of_getElem? (nth_at h)
theorem VD.nth {xs : List Dv} (h : VD (.tup xs)) {i : Nat} (hi : i < xs.length) : VD (nth xs i) := h.mem (nth_mem hi)
theorem fmK_row {d : Dv} (h : rowB d 2 2 = false) : fmK d = false := by
  unfold fmK
  split
  · exact Bool.noConfusion (show true = false from h)
  · rfl
theorem fmK_ms {a b : Dv} (h : rowB b 1 8 = false) : fmK (.tup [a, b]) = false := by
  unfold fmK
  split
  · rename_i a' ms e
    cases e
    have := rowB_no h
    cases e1 : decide (1 ≤ ms.length) with
    | false => simp
    | true =>
      rw [decide_eq_false (show ¬ ms.length ≤ 8 by have := of_decide_eq_true e1; omega)]; simp
  · rfl
theorem fmM_row {d : Dv} (h : rowB d 2 2 = false) : fmM d = false := by
  unfold fmM
  split
  · exact Bool.noConfusion (show true = false from h)
  · rfl
theorem fmM_fs {a b : Dv} (h : rowB b 0 4 = false) : fmM (.tup [a, b]) = false := by
  unfold fmM
  split
  · rename_i a' fs e
    cases e
    have := rowB_no h
    rw [decide_eq_false (show ¬ fs.length ≤ 4 by omega)]; simp
  · rfl
theorem len2 {n lo hi : Nat} : (decide (lo ≤ n) && decide (n ≤ hi)) = decide (lo ≤ n ∧ n ≤ hi) := by rw [Bool.decide_and]
theorem formB_row {d : Dv} (h : rowB d 1 60 = false) : formB d = false := by
  unfold formB
  split
  · rename_i ks
    have := rowB_no h
    rw [len2, decide_eq_false (by omega)]; rfl
  · rfl
theorem formB_of {ks : List Dv} (h1 : 1 ≤ ks.length) (h2 : ks.length ≤ 60) : formB (.tup ks) = ks.all fmK := by
  unfold formB
  dsimp only
  rw [decide_eq_true h1, decide_eq_true h2]; rfl
theorem fmK_of {a : Dv} {ms : List Dv} (h0 : hiD a = true) (h1 : 1 ≤ ms.length) (h2 : ms.length ≤ 8) : fmK (.tup [a, .tup ms]) = ms.all fmM := by
  unfold fmK
  dsimp only
  rw [h0, decide_eq_true h1, decide_eq_true h2]; rfl
theorem fmK_hi {a b : Dv} (h0 : hiD a = false) : fmK (.tup [a, b]) = false := by
  unfold fmK
  split
  · rename_i a' ms e
    cases e
    rw [h0]; rfl
  · rfl
theorem fmM_of {a : Dv} {fs : List Dv} (h0 : hiD a = true) (h2 : fs.length ≤ 4) : fmM (.tup [a, .tup fs]) = fs.all hiD := by
  unfold fmM
  dsimp only
  rw [h0, decide_eq_true h2]; rfl
theorem fmM_hi {a b : Dv} (h0 : hiD a = false) : fmM (.tup [a, b]) = false := by
  unfold fmM
  split
  · rename_i a' ms e
    cases e
    rw [h0]; rfl
  · rfl
theorem nt {b : Bool} (h : (!b) = true) : b = false := by cases b <;> first | rfl | cases h
theorem nf {b : Bool} (h : (!b) = false) : b = true := by cases b <;> first | rfl | cases h
theorem all_nth {f : Dv → Bool} {ds : List Dv} (h : ∀ j, j < ds.length → f (nth ds j) = true) : ds.all f = true := by
  rw [List.all_eq_true]
  intro d m
  obtain ⟨i, hi, rfl⟩ := List.getElem_of_mem m
  have := h i hi
  rwa [nth, List.getD_eq_getElem?_getD, List.getElem?_eq_getElem hi] at this
theorem all_no {f : Dv → Bool} {ds : List Dv} {j : Nat} (hj : j < ds.length) (h : f (nth ds j) = false) : ds.all f = false := by
  rw [← Bool.not_eq_true, List.all_eq_true]
  intro z
  rw [z _ (nth_mem hj)] at h
  cases h
end DL
namespace K21
open PySem PySem.Spec L2 DL
open PyProof.Rows hiding St
theorem rd_has_form : ∀ ds H Q, sp_has_form ds H Q → td_has_form (outD Q) (startD 4 ds) H := by
  rintro ds H Q ⟨d, rfl, h, q⟩
  have fin := rd_bl q
  have hz := sz16
  refine ⟨_, rfl, _, _, _, rfl, h.okI, fun e => fin _ (formB_row (nt e)).symm, fun e => ?_⟩
  obtain ⟨ks, rfl, h1, h2⟩ := rowB_tup (nf e)
  have eF := formB_of (ks := ks) (by omega) (by omega)
  refine ⟨_, rfl, fun i σ H' => H' = H ∧ (∃ a b c, σ = [some (.tup ks), a, b, c]) ∧ ∀ j, j < i → fmK (nth ks j) = true, ⟨rfl, ⟨none, none, none, rfl⟩, fun j z => absurd z (Nat.not_lt_zero _)⟩, fun _ _ _ _ _ => trivial, ?_, ?_⟩
  · rintro i σ H' hi ⟨rfl, ⟨a, b, c, rfl⟩, hp⟩
    have hi : i < ks.length := hi
    have hk := h.nth hi
    have no : fmK (nth ks i) = false → (outD Q).rt (.bl false) H' := fun z => fin _ (by show false = formB _; rw [eF, all_no hi z])
    have yes : fmK (nth ks i) = true → ∀ j, j < i + 1 → fmK (nth ks j) = true := fun z j hj => by
      by_cases e : j = i
      · rw [e]; exact z
      · exact hp j (by omega)
    show (dSeq _ _) _ [some (.tup ks), some (nth ks i), b, c] _
    revert hk no yes
    generalize nth ks i = kd
    intro hk no yes
    refine ⟨_, rfl, _, _, _, rfl, hk.okI, fun e => ⟨fun _ => no (fmK_row (nt e)), fun e => (nomatch e)⟩, fun e => ?_⟩
    obtain ⟨a1, b1, rfl⟩ := rowB_two (nf e)
    have hab := hk.two
    refine ⟨_, rfl, a1, atI_0, _, rfl, hab.1, fun e => ⟨fun _ => no (fmK_hi (nt e)), fun e => (nomatch e)⟩, fun e => ?_⟩
    have e1 : hiD a1 = true := nf e
    refine ⟨_, rfl, b1, atI_1, _, _, _, rfl, hab.2.okI, fun e => no (fmK_ms (nt e)), fun e => ?_⟩
    obtain ⟨ms, rfl, h3, h4⟩ := rowB_tup (nf e)
    have eK := fmK_of e1 (ms := ms) (by omega) (by omega)
    rw [eK] at no yes
    refine ⟨_, rfl, _, atI_1, fun i' σ H2 => H2 = H' ∧ (∃ b c, σ = [some (.tup ks), some (.tup [a1, .tup ms]), b, c]) ∧ ∀ j, j < i' → fmM (nth ms j) = true, ⟨rfl, ⟨_, _, rfl⟩, fun j z => absurd z (Nat.not_lt_zero _)⟩, fun _ _ _ _ _ => trivial, ?_, ?_⟩
    · rintro i' σ H2 hi' ⟨rfl, ⟨b2, c2, rfl⟩, hp'⟩
      have hi' : i' < ms.length := hi'
      have hm := VD.nth hab.2 hi'
      have no' : fmM (nth ms i') = false → (outD Q).rt (.bl false) H2 := fun z => no (all_no hi' z)
      have yes' : fmM (nth ms i') = true → ∀ j, j < i' + 1 → fmM (nth ms j) = true := fun z j hj => by
        by_cases e : j = i'
        · rw [e]; exact z
        · exact hp' j (by omega)
      show (dSeq _ _) _ [some (.tup ks), some (.tup [a1, .tup ms]), some (nth ms i'), c2] _
      revert hm no' yes'
      generalize nth ms i' = md
      intro hm no' yes'
      refine ⟨_, rfl, _, _, _, rfl, hm.okI, fun e => ⟨fun _ => no' (fmM_row (nt e)), fun e => (nomatch e)⟩, fun e => ?_⟩
      obtain ⟨a3, b3, rfl⟩ := rowB_two (nf e)
      have hab3 := hm.two
      refine ⟨_, rfl, a3, atI_0, _, rfl, hab3.1, fun e => ⟨fun _ => no' (fmM_hi (nt e)), fun e => (nomatch e)⟩, fun e => ?_⟩
      have e3 : hiD a3 = true := nf e
      refine ⟨_, rfl, b3, atI_1, _, _, _, rfl, hab3.2.okI, fun e => no' (fmM_fs (nt e)), fun e => ?_⟩
      obtain ⟨fs, rfl, h5, h6⟩ := rowB_tup (nf e)
      have eM := fmM_of e3 (fs := fs) (by omega)
      rw [eM] at no' yes'
      refine ⟨_, rfl, _, atI_1, fun i acc H' => H' = H2 ∧ acc = (List.range i).map fun j => Dv.bl (hiD (nth fs j)), ⟨rfl, rfl⟩, fun _ _ _ _ _ => trivial, ?_, ?_⟩
      · rintro i5 acc H5 hi5 ⟨rfl, rfl⟩
        have hi5 : i5 < fs.length := hi5
        refine ⟨fun _ => ⟨_, rfl, _, rfl, VD.nth hab3.2 hi5, by rw [List.length_map, List.length_range]; omega, rfl, ?_⟩, fun e => (nomatch e)⟩
        rw [range_snoc]
      · rintro acc H5 ⟨rfl, rfl⟩
        refine ⟨(List.range fs.length).map fun j => hiD (nth fs j), by rw [List.map_map]; rfl, ?_⟩
        rw [all_of]
        exact ⟨fun e => no' (nt e), fun e => ⟨rfl, ⟨_, _, rfl⟩, yes' (nf e)⟩⟩
    · rintro σ H2 ⟨rfl, ⟨b2, c2, rfl⟩, hp'⟩
      exact ⟨rfl, ⟨_, _, _, rfl⟩, yes (all_nth hp')⟩
  · rintro σ H' ⟨rfl, _, hp⟩
    exact fin _ (by show true = formB _; rw [eF, all_nth hp])
end K21

set_option maxHeartbeats 4000000
namespace DL
open PySem PySem.Spec L2
open PyProof.Rows hiding St
theorem hasK_str {xs : List Str} {a : Str} : hasK (xs.map .inr) (.inr a) = decide (a ∈ xs) := by
  rw [Bool.eq_iff_iff, hasK_iff, decide_eq_true_eq, List.mem_map]
  exact ⟨fun ⟨b, m, e⟩ => by cases e; exact m, fun m => ⟨a, m, rfl⟩⟩
theorem nth_map {α : Type} {w : α → Dv} {xs : List α} {i : Nat} (h : i < xs.length) : nth (xs.map w) i = w xs[i] := by
  unfold nth
  rw [List.getD_eq_getElem?_getD, List.getElem?_map, List.getElem?_eq_getElem h]; rfl
/-- answers found by walking -/
theorem walk_all {α : Type} (f : α → Bool) (xs : List α) (w : α → Dv) (r : Dv → α) (hr : ∀ a, r (w a) = a) : ((List.range (xs.map w).length).map fun j => f (r (nth (xs.map w) j))).all id = xs.all f := by
  rw [all_of (fun d => f (r d)), List.all_map]
  congr 1
  funext a
  show f (r (w a)) = f a
  rw [hr]
theorem any_of (f : Dv → Bool) (ds : List Dv) : ((List.range ds.length).map fun i => f (nth ds i)).any id = ds.any f := by
  rw [Bool.eq_iff_iff, List.any_eq_true, List.any_eq_true]
  constructor
  · rintro ⟨b, m, e⟩
    obtain ⟨i, hi, rfl⟩ := List.mem_map.mp m
    exact ⟨nth ds i, nth_mem (List.mem_range.mp hi), e⟩
  · rintro ⟨d, m, e⟩
    obtain ⟨i, hi, rfl⟩ := List.getElem_of_mem m
    refine ⟨true, List.mem_map.mpr ⟨i, List.mem_range.mpr hi, ?_⟩, rfl⟩
    rw [nth, List.getD_eq_getElem?_getD, List.getElem?_eq_getElem hi]; exact e
theorem walk_any {α : Type} (f : α → Bool) (xs : List α) (w : α → Dv) (r : Dv → α) (hr : ∀ a, r (w a) = a) : ((List.range (xs.map w).length).map fun j => f (r (nth (xs.map w) j))).any id = xs.any f := by
  rw [any_of (fun d => f (r d)), List.any_map]
  congr 1
  funext a
  show f (r (w a)) = f a
  rw [hr]
/-- the dict whose keys are these texts, each with True -/
def setH (H : DH) (p : Addr) (xs : List Str) : DH := upD H p (.dic (xs.map .inr) (xs.map fun _ => .bl true))
theorem setH_at {H : DH} {p : Addr} {xs : List Str} : setH H p xs p = some (.dic (xs.map .inr) (xs.map fun _ => .bl true)) := upD_same
theorem setH_put {H : DH} {p : Addr} {xs : List Str} {a : Str} (h : a ∉ xs) : upD (setH H p xs) p (.dic (putKs (xs.map .inr) (.inr a)) (putDs (xs.map .inr) (xs.map fun _ => .bl true) (.inr a) (.bl true))) = setH H p (xs ++ [a]) := by
  unfold setH putKs putDs
  rw [hasK_str, decide_eq_false h]
  rw [upD_upD, List.map_append, List.map_append]
  rfl
structure OkT (ks : Knds) (xs : List Str) : Prop where
  nd : xs.Nodup
  ok : ∀ a ∈ xs, a ∈ nmsK ks ∧ ∃ n, prodK ks n a = true
theorem OkT.len {ks : Knds} {xs : List Str} (h : OkT ks xs) : xs.length ≤ ks.length := by
  have := nodup_len h.nd fun a m => (h.ok a m).1
  rwa [List.length_map] at this
/-- the most n of finitely many -/
theorem common {ks : Knds} : ∀ {fs : List Str}, (∀ f ∈ fs, ∃ n, prodK ks n f = true) → ∃ n, ∀ f ∈ fs, prodK ks n f = true
  | [], _ => ⟨0, fun _ m => nomatch m⟩
  | f :: fs, h => by
    obtain ⟨n, hn⟩ := h f List.mem_cons_self
    obtain ⟨m, hm⟩ := common fun g mg => h g (List.mem_cons_of_mem _ mg)
    exact ⟨max n m, fun g mg => (List.mem_cons.mp mg).elim (fun e => e ▸ prodK_le hn (Nat.le_max_left _ _)) fun mg => prodK_le (hm g mg) (Nat.le_max_right _ _)⟩
theorem OkT.add {ks : Knds} {xs : List Str} (h : OkT ks xs) {k : Knd} (hk : k ∈ ks) (n : k.1 ∉ xs) (c : (k.2.any fun m => m.2.all fun f => decide (f ∈ xs)) = true) : OkT ks (xs ++ [k.1]) := by
  refine ⟨List.nodup_append.mpr ⟨h.nd, List.pairwise_singleton _ _, fun a ma b mb => by rw [List.mem_singleton.mp mb]; exact fun e => n (e ▸ ma)⟩, fun a m => ?_⟩
  rcases List.mem_append.mp m with m | m
  · exact h.ok a m
  · rw [List.mem_singleton.mp m]
    obtain ⟨mk, hm, hf⟩ := List.any_eq_true.mp c
    obtain ⟨n, hn⟩ := common fun f mf => (h.ok f (of_decide_eq_true (List.all_eq_true.mp hf f mf))).2
    exact ⟨List.mem_map.mpr ⟨k, hk, rfl⟩, n + 1, prodK_succ.mpr ⟨k, hk, rfl, mk, hm, hn⟩⟩
def muT (ks : Knds) (p : Addr) (σ : DS) (H : DH) : Nat := match (σ[2]? : Option (Option Dv)), H p with
  | some (some (Dv.int m)), some (Ob.dic xs _) => 2 * (ks.length - xs.length) + if m < (xs.length : Nat) then 1 else 0
  | _, _ => 0
end DL
namespace K21
open PySem PySem.Spec L2 DL
open PyProof.Rows hiding St
theorem rd_with_trees : ∀ ds H Q, sp_with_trees ds H Q → td_with_trees (outD Q) (startD 8 ds) H := by
  rintro ds H Q ⟨ks, rfl, hF, q⟩
  have F := formB_ksD.mp hF
  intro p hp
  refine ⟨fun σ H' => ∃ (xs : List Str) (m : Int) (a b c d e : Option Dv), σ = [some (ksD ks), some (.ref p), some (.int m), a, b, c, d, e] ∧ H' = setH H p xs ∧ OkT ks xs ∧ m ≤ (xs.length : Nat) ∧ (m = (xs.length : Nat) → ∀ k ∈ ks, k.1 ∉ xs → ∀ m ∈ k.2, ∃ f ∈ m.2, f ∉ xs),
    muT ks p, ⟨[], -1, none, none, none, none, none, rfl, rfl, ⟨List.nodup_nil, fun _ m => nomatch m⟩, by decide, fun e => absurd e (by decide)⟩, ?_⟩
  rintro σ H' ⟨xs, m, a0, b0, c0, d0, e0, rfl, rfl, ok, hm, cl⟩
  refine ⟨_, rfl, _, rfl, _, _, setH_at, fun e1 => ?_, fun e1 => ?_⟩
  · have lt : m < (xs.length : Nat) := by have := of_decide_eq_true e1; rwa [List.length_map] at this
    refine ⟨_, rfl, _, _, setH_at, _, rfl, fun i σ H' => ∃ (ys : List Str) (a b c d e : Option Dv), σ = [some (ksD ks), some (.ref p), some (.int (xs.map (Sum.inr : Str → Key)).length), a, b, c, d, e] ∧ H' = setH H p ys ∧ OkT ks ys ∧ xs.length ≤ ys.length ∧
      (ys.length = xs.length → ∀ j (hj : j < ks.length), j < i → ks[j].1 ∉ ys → ∀ m ∈ ks[j].2, ∃ f ∈ m.2, f ∉ ys), ⟨xs, _, _, _, _, _, rfl, rfl, ok, Nat.le_refl _, fun _ j _ z => absurd z (Nat.not_lt_zero _)⟩, fun _ _ _ _ _ => trivial, ?_, ?_⟩
    · rintro i σ H' hi ⟨ys, a, b, c, d, e, rfl, rfl, ok', hl, hc⟩
      have hi : i < ks.length := by have : i < (ks.map kdD).length := hi; rwa [List.length_map] at this
      show dgTup 2 _ (nth (ks.map kdD) i) _ _ _
      rw [nth_map hi]
      refine ⟨rfl, rfl, _, rfl, _, rfl, _, _, setH_at, _, rfl, ?_⟩
      rw [hasK_str]
      have keep : (ks[i].1 ∉ ys → ∀ m ∈ ks[i].2, ∃ f ∈ m.2, f ∉ ys) → (ys.length = xs.length → ∀ j (hj : j < ks.length), j < i + 1 → ks[j].1 ∉ ys → ∀ m ∈ ks[j].2, ∃ f ∈ m.2, f ∉ ys) := fun z w j hj l => by
        by_cases e : j = i
        · subst e; exact z
        · exact hc w j hj (by omega)
      refine ⟨fun e2 => ?_, fun e2 => ⟨fun e => (nomatch e), fun _ => ⟨ys, _, _, _, _, _, rfl, rfl, ok', hl, keep fun z => absurd (of_decide_eq_true (nf e2)) z⟩⟩⟩
      have ny : ks[i].1 ∉ ys := of_decide_eq_false (nt e2)
      refine ⟨_, rfl, fun j acc H' => H' = setH H p ys ∧ acc = (List.range j).map fun j => Dv.bl ((rdM (nth (ks[i].2.map mkD) j)).2.all fun f => decide (f ∈ ys)), ⟨rfl, rfl⟩, fun _ _ _ _ _ => trivial, ?_, ?_⟩
      · rintro j acc H' hj ⟨rfl, rfl⟩
        have hj : j < ks[i].2.length := by have : j < (ks[i].2.map mkD).length := hj; rwa [List.length_map] at this
        show dgTup 2 _ (nth (ks[i].2.map mkD) j) _ _ _
        rw [nth_map hj]
        refine ⟨rfl, rfl, fun _ => ⟨_, rfl, fun l acc H' => H' = setH H p ys ∧ acc = (List.range l).map fun l => Dv.bl (decide (DL.strOf (nth (ks[i].2[j].2.map .str) l) ∈ ys)), ⟨rfl, rfl⟩, fun _ _ _ _ _ => trivial, ?_, ?_⟩, fun e => (nomatch e)⟩
        · rintro l acc H' hl ⟨rfl, rfl⟩
          have hl : l < ks[i].2[j].2.length := by have : l < (ks[i].2[j].2.map Dv.str).length := hl; rwa [List.length_map] at this
          show dgName 7 (nth (ks[i].2[j].2.map .str) l) _ _ _
          rw [nth_map hl]
          refine ⟨fun _ => ⟨_, rfl, _, rfl, _, _, setH_at, _, rfl, ?_⟩, fun e => (nomatch e)⟩
          rw [hasK_str]
          refine ⟨by rw [List.length_map, List.length_range]; have := F.f4 ks[i] (List.getElem_mem hi) ks[i].2[j] (List.getElem_mem hj); rw [sz16]; omega, rfl, by rw [range_snoc, nth_map hl]; rfl⟩
        · rintro acc H' ⟨rfl, rfl⟩
          refine ⟨(List.range (ks[i].2[j].2.map Dv.str).length).map fun l => decide (DL.strOf (nth (ks[i].2[j].2.map .str) l) ∈ ys), by rw [List.map_map]; rfl, ?_⟩
          rw [walk_all (fun f => decide (f ∈ ys)) _ _ strOf (fun _ => rfl)]
          exact ⟨by rw [List.length_map, List.length_range]; have := F.m2 ks[i] (List.getElem_mem hi); rw [sz16]; omega, rfl, by rw [range_snoc, nth_map hj, rdM_mkD]⟩
      · rintro acc H' ⟨rfl, rfl⟩
        refine ⟨(List.range (ks[i].2.map mkD).length).map fun j => (rdM (nth (ks[i].2.map mkD) j)).2.all fun f => decide (f ∈ ys), by rw [List.map_map]; rfl, ?_⟩
        rw [walk_any (fun m : Mk => m.2.all fun f => decide (f ∈ ys)) _ _ rdM rdM_mkD]
        refine ⟨fun e3 => ?_, fun e3 => ⟨ys, _, _, _, _, _, rfl, rfl, ok', hl, keep fun _ m hm => ?_⟩⟩
        · have e3 : (ks[i].2.any fun m : Mk => m.2.all fun f => decide (f ∈ ys)) = true := e3
          have ok2 := ok'.add (List.getElem_mem hi) ny e3
          have l2 := ok2.len
          have l3 := F.l2
          rw [List.length_append, List.length_singleton] at l2
          refine ⟨_, rfl, _, rfl, _, _, _, setH_at, rfl, by rw [List.length_map, sz16]; omega, ?_⟩
          rw [setH_put ny]
          exact ⟨ys ++ [ks[i].1], _, _, _, _, _, rfl, rfl, ok2, by rw [List.length_append]; omega, fun z => by rw [List.length_append, List.length_singleton] at z; omega⟩
        · have := List.any_eq_false.mp e3 m hm
          rw [Bool.not_eq_true, List.all_eq_false] at this
          obtain ⟨f, mf, h⟩ := this
          exact ⟨f, mf, by simpa using h⟩
    · rintro σ H' ⟨ys, a, b, c, d, e, rfl, rfl, ok', hl, hc⟩
      have l1 := ok'.len
      refine ⟨⟨ys, _, _, _, _, _, _, rfl, rfl, ok', by rw [List.length_map]; omega, fun z k hk => ?_⟩, ?_⟩
      · rw [List.length_map] at z
        obtain ⟨j, hj, rfl⟩ := List.getElem_of_mem hk
        exact hc (by omega) j hj (by show j < (ks.map kdD).length; rw [List.length_map]; exact hj)
      · have e1 : muT ks p [some (ksD ks), some (.ref p), some (.int (xs.map (Sum.inr : Str → Key)).length), a, b, c, d, e] (setH H p ys) = 2 * (ks.length - ys.length) + if ((xs.map (Sum.inr : Str → Key)).length : Int) < (ys.length : Nat) then 1 else 0 := by
          unfold muT; rw [setH_at]; simp
        have e2 : muT ks p [some (ksD ks), some (.ref p), some (.int m), a0, b0, c0, d0, e0] (setH H p xs) = 2 * (ks.length - xs.length) + 1 := by
          unfold muT; rw [setH_at]; simp [lt]
        rw [e1, e2, List.length_map]
        have l0 := ok.len
        split <;> omega
  · have ge : m = (xs.length : Nat) := by
      have := of_decide_eq_false e1
      rw [List.length_map] at this
      omega
    refine ⟨_, rfl, .inr ⟨_, _, setH_at, ?_⟩⟩
    have := q xs ok.nd fun a => ⟨ok.ok a, fun ⟨_, n, h⟩ => prodK_closed (cl ge) h⟩
    unfold setH
    rw [del_upd hp]
    exact rd_out this
theorem rd_need_kinds : ∀ ds H Q E, sp_need_kinds ds H Q E → td_need_kinds (outX Q E) (startD 1 ds) H := by
  rintro ds H Q E ⟨d, rfl, h, q1, q2⟩
  refine ⟨_, rfl, _, rfl, h, fun e => ?_, fun e => ?_⟩
  · exact ⟨H, .refl H, q2 (nt e)⟩
  · exact ⟨H, .refl H, q1 (nf e)⟩
theorem rd_need_kind : ∀ ds H Q E, sp_need_kind ds H Q E → td_need_kind (outX Q E) (startD 3 ds) H := by
  rintro ds H Q E ⟨ks, d, rfl, h, q1, q2⟩
  refine ⟨_, rfl, _, rfl, _, _, rfl, h, ?_⟩
  cases e : kIx ks d with
  | some i => exact ⟨_, rfl, fun e => (nomatch e), fun _ => ⟨_, rfl, H, .refl H, q1 i e⟩⟩
  | none => exact ⟨_, rfl, fun _ => ⟨H, .refl H, q2 e⟩, fun e => (nomatch e)⟩
end K21

namespace DL
open PySem PySem.Spec L2
open PyProof.Rows hiding St
theorem FormK.mks_len {ks : Knds} (F : FormK ks) : (mksK ks).length ≤ 480 := by
  have : ∀ l : Knds, (∀ k ∈ l, k.2.length ≤ 8) → (l.flatMap fun k => k.2.map (·.1)).length ≤ 8 * l.length := by
    intro l
    induction l with
    | nil => intro _; exact Nat.le_refl _
    | cons k l ih =>
      intro h
      rw [List.flatMap_cons, List.length_append, List.length_map, List.length_cons]
      have := ih fun k m => h k (List.mem_cons_of_mem _ m)
      have := h k List.mem_cons_self
      omega
  have : (mksK ks).length ≤ 8 * ks.length := this ks F.m2
  have := F.l2
  omega
theorem FormK.fds_len {ks : Knds} (F : FormK ks) : (fdsK ks).length ≤ 1920 := by
  have a : ∀ l : List Mk, (∀ m ∈ l, m.2.length ≤ 4) → (l.flatMap (·.2)).length ≤ 4 * l.length := by
    intro l
    induction l with
    | nil => intro _; exact Nat.le_refl _
    | cons k l ih =>
      intro h
      rw [List.flatMap_cons, List.length_append, List.length_cons]
      have := ih fun k m => h k (List.mem_cons_of_mem _ m)
      have := h k List.mem_cons_self
      omega
  have : ∀ l : Knds, (∀ k ∈ l, k.2.length ≤ 8 ∧ ∀ m ∈ k.2, m.2.length ≤ 4) → (l.flatMap fun k => k.2.flatMap (·.2)).length ≤ 32 * l.length := by
    intro l
    induction l with
    | nil => intro _; exact Nat.le_refl _
    | cons k l ih =>
      intro h
      rw [List.flatMap_cons, List.length_append, List.length_cons]
      have := ih fun k m => h k (List.mem_cons_of_mem _ m)
      have h1 := h k List.mem_cons_self
      have := a k.2 h1.2
      omega
  have : (fdsK ks).length ≤ 32 * ks.length := this ks fun k m => ⟨F.m2 k m, F.f4 k m⟩
  have := F.l2
  omega
theorem flat_map1 {α β : Type} (f : α → β) (xs : List α) : xs.flatMap (fun x => [f x]) = xs.map f := by
  induction xs with
  | nil => rfl
  | cons x xs ih => rw [List.flatMap_cons, ih]; rfl
/-- a tuple's items, walked -/
abbrev tI (ds : List Dv) : DIt := ⟨ds.length, nth ds, fun _ => True⟩
theorem kindsB_no {d : Dv} (h : formB d = false) : kindsB d = false := by unfold kindsB; rw [h]; rfl
theorem kindsB_eq (ks : Knds) (F : FormK ks) (b : Bool) (h : b = true ↔ (nmsK ks).Nodup ∧ (mksK ks).Nodup ∧ (∀ f ∈ fdsK ks, f ∈ nmsK ks) ∧ ∀ a ∈ nmsK ks, prodK ks ks.length a = true) : b = kindsB (ksD ks) := by
  rw [kindsB_ksD, Bool.eq_iff_iff, h, goodK_iff]
  exact ⟨fun ⟨a, b, c, d⟩ => ⟨F, a, b, c, d⟩, fun g => ⟨g.nd, g.md, g.fin, g.prod⟩⟩
end DL

set_option maxHeartbeats 4000000
namespace K21
open PySem PySem.Spec L2 DL
open PyProof.Rows hiding St
theorem rd_is_kinds : ∀ ds H Q, sp_is_kinds ds H Q → td_is_kinds (outD Q) (startD 8 ds) H := by
  rintro ds H Q ⟨d, rfl, h, q⟩
  have fin := rd_bl q
  refine ⟨_, rfl, _, rfl, h, fun e => fin _ (kindsB_no (nt e)).symm, fun e => ?_⟩
  obtain ⟨e1, F⟩ := formB_form (nf e)
  revert e1 F
  generalize rdKs d = ks
  intro e1 F
  subst e1
  have hl : (ks.map kdD).length = ks.length := List.length_map _
  have l2 := F.l2
  have s := sz16
  refine ⟨_, rfl, fun i ks' ds' H' => H' = H ∧ ∃ xs : List Str, xs.Nodup ∧ (∀ a, a ∈ xs ↔ a ∈ (nmsK ks).take i) ∧ ks' = xs.map .inr ∧ ds' = xs.map fun _ => .bl true, ⟨rfl, [], List.nodup_nil, fun a => by simp, rfl, rfl⟩, fun _ _ _ _ _ _ => trivial, ?_, ?_⟩
  · rintro i ks' ds' H' hi ⟨rfl, xs, nd, mem, rfl, rfl⟩
    have hi : i < ks.length := by have : i < (ks.map kdD).length := hi; omega
    show dgTup 2 _ (nth (ks.map kdD) i) _ _ _
    rw [nth_map hi]
    have tk : (nmsK ks).take (i + 1) = (nmsK ks).take i ++ [ks[i].1] := by
      rw [List.take_succ, List.getElem?_map, List.getElem?_eq_getElem hi]; rfl
    have le : xs.length ≤ 60 := by
      have := nodup_len nd fun a m => List.mem_of_mem_take ((mem a).mp m)
      rw [List.length_map] at this
      omega
    refine ⟨rfl, rfl, fun _ => ⟨_, rfl, _, rfl, by rw [List.length_map]; omega, rfl, ?_⟩, fun e => (nomatch e)⟩
    by_cases m : ks[i].1 ∈ xs
    · refine ⟨xs, nd, fun a => ?_, ?_, ?_⟩
      · rw [tk, List.mem_append, ← mem, List.mem_singleton]
        exact ⟨.inl, fun z => z.elim id fun z => z ▸ m⟩
      · unfold putKs; rw [hasK_str, decide_eq_true m]; rfl
      · unfold putDs
        rw [hasK_str, decide_eq_true m, if_pos rfl]
        have : ∀ l : List Str, replK (l.map Sum.inr) (l.map fun _ => Dv.bl true) (Sum.inr ks[i].1) (.bl true) = l.map fun _ => Dv.bl true := by
          intro l
          induction l with
          | nil => rfl
          | cons y l ih => rw [List.map_cons, List.map_cons, replK, ih]; simp
        exact this xs
    · refine ⟨xs ++ [ks[i].1], List.nodup_append.mpr ⟨nd, List.pairwise_singleton _ _, fun a ma b mb => by rw [List.mem_singleton.mp mb]; exact fun e => m (e ▸ ma)⟩, fun a => ?_, ?_, ?_⟩
      · rw [tk, List.mem_append, List.mem_append, ← mem]
      · unfold putKs; rw [hasK_str, decide_eq_false m, List.map_append]; rfl
      · unfold putDs; rw [hasK_str, decide_eq_false m, List.map_append]; rfl
  rintro ks' ds' H' ⟨rfl, xs, nd, mem, rfl, rfl⟩
  have mem : ∀ a, a ∈ xs ↔ a ∈ nmsK ks := fun a => by
    rw [mem a, List.take_of_length_le]
    rw [List.length_map]
    show ks.length ≤ (ks.map kdD).length
    omega
  refine ⟨_, rfl, ?_⟩
  have hw : ∀ (R : DIt → DH → Prop), walkD (ksD ks) H' R = R (tI (ks.map kdD)) H' := fun _ => rfl
  show walkD (ksD ks) H' _
  rw [hw]
  have fl : ∀ {α : Type} (f : Knd → List α), (List.range (tI (ks.map kdD)).n).flatMap (fun i => f (rdK (nth (ks.map kdD) i))) = ks.flatMap f := fun f => by
    show (List.range (ks.map kdD).length).flatMap _ = _
    rw [flat_nth (fun d => f (rdK d)) (ks.map kdD) _ (fun i hi => by unfold nth; rw [List.getD_eq_getElem?_getD, List.getElem?_eq_getElem hi]; rfl), List.flatMap_map]
    congr 1
    funext k
    show f (rdK (kdD k)) = f k
    rw [rdK_kdD]
  have fm : ∀ {α : Type} (ms : List Mk) (f : Mk → List α), (List.range (tI (ms.map mkD)).n).flatMap (fun i => f (rdM (nth (ms.map mkD) i))) = ms.flatMap f := fun ms f => by
    show (List.range (ms.map mkD).length).flatMap _ = _
    rw [flat_nth (fun d => f (rdM d)) (ms.map mkD) _ (fun i hi => by unfold nth; rw [List.getD_eq_getElem?_getD, List.getElem?_eq_getElem hi]; rfl), List.flatMap_map]
    congr 1
    funext k
    show f (rdM (mkD k)) = f k
    rw [rdM_mkD]
  have mk : (ks.flatMap fun k => k.2.flatMap fun m => [Dv.str m.1]) = (mksK ks).map .str := by
    rw [List.map_flatMap]
    congr 1
    funext k
    rw [List.map_map]
    exact flat_map1 _ _
  refine lp_all (F := fun i => (rdK (nth (ks.map kdD) i)).2.flatMap fun m => [Dv.str m.1]) ?_ (fun _ => trivial) ?_ ?_
  · rw [fl (fun k => k.2.flatMap fun m => [Dv.str m.1]), mk, List.length_map]
    have := F.mks_len
    show 0 + _ ≤ _
    omega
  · rintro i acc N hi hz hN
    have hi : i < ks.length := by have : i < (ks.map kdD).length := hi; omega
    show dgTup 2 _ (nth (ks.map kdD) i) _ _ _
    rw [nth_map hi] at hz hN ⊢
    rw [rdK_kdD] at hz hN
    refine ⟨rfl, rfl, fun _ => fun D hD => ⟨_, rfl, rfl, ?_⟩, fun e => (nomatch e)⟩
    show dLp _ _ _ _ _ _ _ (tI (ks[i].2.map mkD)) _ _
    refine lp_all (F := fun j => [Dv.str (rdM (nth (ks[i].2.map mkD) j)).1]) ?_ (fun _ => trivial) ?_ ?_
    · rw [fm _ (fun m => [Dv.str m.1])]; exact hz
    · rintro j acc N hj hz hN
      have hj : j < ks[i].2.length := by have : j < (ks[i].2.map mkD).length := hj; rwa [List.length_map] at this
      show dgTup 2 _ (nth (ks[i].2.map mkD) j) _ _ _
      rw [nth_map hj] at hz hN ⊢
      exact ⟨rfl, rfl, fun _ => ⟨_, rfl, by simp at hz; omega, hN⟩, fun e => (nomatch e)⟩
    · rw [fm _ (fun m => [Dv.str m.1])]; exact hN
  · rw [fl (fun k => k.2.flatMap fun m => [Dv.str m.1]), mk, List.nil_append]
    have ml := F.mks_len
    have lenK : ((xs.map (Sum.inr : Str → Key)).length : Int) < ((ks.map kdD).length : Nat) ↔ ¬ (nmsK ks).Nodup := by
      rw [← nodup_lt nd mem, List.length_map, List.length_map, List.length_map]
      omega
    refine ⟨_, rfl, _, rfl, fun e => ⟨fun _ => fin _ (kindsB_eq ks F _ ⟨fun e => (nomatch e), fun z => absurd z.1 (lenK.mp (of_decide_eq_true e))⟩), fun e => (nomatch e)⟩, fun e1 => ?_⟩
    have nN : (nmsK ks).Nodup := by
      have := of_decide_eq_false e1
      exact Classical.byContradiction fun z => this (lenK.mpr z)
    refine ⟨_, rfl, _, rfl, by omega, fun e => fin _ (kindsB_eq ks F _ ⟨fun e => (nomatch e), fun z => absurd z.2.1 (of_decide_eq_false (nt e))⟩), fun e2 => ?_⟩
    have nM : (mksK ks).Nodup := of_decide_eq_true (nf e2)
    refine ⟨_, rfl, ?_⟩
    show walkD (ksD ks) H' _
    rw [hw]
    show dLp _ _ _ _ _ _ _ (tI (ks.map kdD)) _ _
    have bl : (ks.flatMap fun k => k.2.flatMap fun m => m.2.flatMap fun f => [Dv.bl (decide (f ∈ xs))]) = ((fdsK ks).map fun f => decide (f ∈ xs)).map .bl := by
      rw [List.map_map, fdsK, List.map_flatMap]
      congr 1
      funext k
      rw [List.map_flatMap]
      congr 1
      funext m
      exact flat_map1 _ _
    have fd := F.fds_len
    refine lp_all (F := fun i => (rdK (nth (ks.map kdD) i)).2.flatMap fun m => m.2.flatMap fun f => [Dv.bl (decide (f ∈ xs))]) ?_ (fun _ => trivial) ?_ ?_
    · rw [fl (fun k => k.2.flatMap fun m => m.2.flatMap fun f => [Dv.bl (decide (f ∈ xs))]), bl, List.length_map, List.length_map]
      show 0 + _ ≤ _
      omega
    · rintro i acc N hi hz hN
      have hi : i < ks.length := by have : i < (ks.map kdD).length := hi; omega
      show dgTup 2 _ (nth (ks.map kdD) i) _ _ _
      rw [nth_map hi] at hz hN ⊢
      rw [rdK_kdD] at hz hN
      refine ⟨rfl, rfl, fun _ => fun D hD => ?_, fun e => (nomatch e)⟩
      simp only [wipeD, startD, List.set_cons_zero, List.set_cons_succ, List.map_cons, List.map_nil, List.length_cons, List.length_nil, List.replicate, List.cons_append, List.nil_append, Nat.reduceSub, Nat.reduceAdd, Nat.zero_add]
      refine ⟨_, rfl, rfl, ?_⟩
      show dLp _ _ _ _ _ _ _ (tI (ks[i].2.map mkD)) _ _
      refine lp_all (F := fun j => (rdM (nth (ks[i].2.map mkD) j)).2.flatMap fun f => [Dv.bl (decide (f ∈ xs))]) ?_ (fun _ => trivial) ?_ ?_
      · rw [fm _ (fun m => m.2.flatMap fun f => [Dv.bl (decide (f ∈ xs))])]; exact hz
      · rintro j acc N hj hz hN
        have hj : j < ks[i].2.length := by have : j < (ks[i].2.map mkD).length := hj; rwa [List.length_map] at this
        show dgTup 2 _ (nth (ks[i].2.map mkD) j) _ _ _
        rw [nth_map hj] at hz hN ⊢
        rw [rdM_mkD] at hz hN
        refine ⟨rfl, rfl, fun _ => fun D hD => ?_, fun e => (nomatch e)⟩
        simp only [wipeD, startD, List.set_cons_zero, List.set_cons_succ, List.map_cons, List.map_nil, List.length_cons, List.length_nil, List.replicate, List.cons_append, List.nil_append, Nat.reduceSub, Nat.reduceAdd, Nat.zero_add]
        refine ⟨_, rfl, rfl, ?_⟩
        show dLp _ _ _ _ _ _ _ (tI (ks[i].2[j].2.map .str)) _ _
        have fs : (List.range (tI (ks[i].2[j].2.map .str)).n).flatMap (fun l => [Dv.bl (decide (DL.strOf (nth (ks[i].2[j].2.map .str) l) ∈ xs))]) = ks[i].2[j].2.flatMap fun f => [Dv.bl (decide (f ∈ xs))] := by
          show (List.range (ks[i].2[j].2.map Dv.str).length).flatMap _ = _
          rw [flat_nth (fun d => [Dv.bl (decide (DL.strOf d ∈ xs))]) (ks[i].2[j].2.map .str) _ (fun i hi => by unfold nth; rw [List.getD_eq_getElem?_getD, List.getElem?_eq_getElem hi]; rfl), List.flatMap_map]
          rfl
        refine lp_all (F := fun l => [Dv.bl (decide (DL.strOf (nth (ks[i].2[j].2.map .str) l) ∈ xs))]) ?_ (fun _ => trivial) ?_ ?_
        · rw [fs]; exact hz
        · rintro l acc N hl hz hN
          have hl : l < ks[i].2[j].2.length := by have : l < (ks[i].2[j].2.map Dv.str).length := hl; rwa [List.length_map] at this
          show dgName 7 (nth (ks[i].2[j].2.map .str) l) _ _ _
          rw [nth_map hl] at hz hN ⊢
          refine ⟨fun _ => ⟨_, rfl, _, rfl, _, rfl, by simp at hz; omega, ?_⟩, fun e => (nomatch e)⟩
          rw [hasK_str]; exact hN
        · rw [fs]; exact hN
      · rw [fm _ (fun m => m.2.flatMap fun f => [Dv.bl (decide (f ∈ xs))])]; exact hN
    · rw [fl (fun k => k.2.flatMap fun m => m.2.flatMap fun f => [Dv.bl (decide (f ∈ xs))]), bl, List.nil_append]
      have al : (((fdsK ks).map fun f => decide (f ∈ xs)).all id = true) ↔ ∀ f ∈ fdsK ks, f ∈ nmsK ks := by
        rw [List.all_eq_true]
        constructor
        · intro h f m
          exact (mem f).mp (of_decide_eq_true (h _ (List.mem_map.mpr ⟨f, m, rfl⟩)))
        · rintro h b m
          obtain ⟨f, mf, rfl⟩ := List.mem_map.mp m
          exact decide_eq_true ((mem f).mpr (h f mf))
      refine ⟨_, rfl, fun e => fin _ (kindsB_eq ks F _ ⟨fun e => (nomatch e), fun z => absurd (al.mpr z.2.2.1) (by rw [nt e]; exact Bool.false_ne_true)⟩), fun e3 => ?_⟩
      have fI := al.mp (nf e3)
      refine ⟨_, rfl, ks, rfl, form_formB F, fun ys ny my => ⟨_, rfl, rfl, fin _ (kindsB_eq ks F _ ?_)⟩⟩
      have ey : eqv (.int ((ys.map (Sum.inr : Str → Key)).length : Nat)) (.int ((ks.map kdD).length : Nat)) = true ↔ ∀ a ∈ nmsK ks, prodK ks ks.length a = true := by
        show ((_ : Int) == _) = true ↔ _
        rw [beq_iff_eq, List.length_map, List.length_map]
        have := nodup_eq (xs := ys) (ys := nmsK ks) ny nN fun a m => ((my a).mp m).1
        rw [List.length_map] at this
        rw [show (((ys.length : Nat) : Int) = (ks.length : Nat)) ↔ ys.length = ks.length by omega, this]
        constructor
        · intro z a m
          obtain ⟨n, hn⟩ := ((my a).mp (z a m)).2
          exact prodK_stop hn
        · exact fun z a m => (my a).mpr ⟨m, _, z a m⟩
      exact ey.trans ⟨fun z => ⟨nN, nM, fI, z⟩, fun z => z.2.2.2⟩
end K21

set_option maxHeartbeats 4000000
namespace K21
open PySem PySem.Spec L2 DL
open PyProof.Rows hiding St
/-- good kinds are kinds: read as such -/
theorem kinds_ks {d : Dv} (h : kindsB d = true) : ∃ ks, d = ksD ks := by
  unfold kindsB at h
  rw [Bool.and_eq_true] at h
  exact ⟨_, (formB_form h.1).1⟩
theorem rd_is_tree : ∀ ds H Q E, sq_is_tree ds H Q E → td_is_tree (outX Q E) (startD 4 ds) H := by
  rintro ds H Q E ⟨d, rfl, h, q1, q2⟩
  refine ⟨_, rfl, d, rfl, h, fun e => ?_, fun e => ⟨H, .refl H, q2 e⟩⟩
  obtain ⟨ks, rfl⟩ := kinds_ks e
  exact ⟨_, rfl, _, rfl, ks, _, rfl, rfl, fun i z => (nomatch z), fun _ => ⟨H, .refl H, q1 e⟩⟩
theorem rd_rows_of : ∀ ds H Q E, sq_rows_of ds H Q E → td_rows_of (outX Q E) (startD 5 ds) H := by
  rintro ds H Q E ⟨d, rfl, h, q1, q2⟩
  refine ⟨_, rfl, d, rfl, h, fun e => ?_, fun e => ⟨H, .refl H, q2 e⟩⟩
  obtain ⟨ks, rfl⟩ := kinds_ks e
  exact ⟨_, rfl, _, rfl, ks, _, rfl, rfl, fun i z => (nomatch z), fun _ => ⟨H, .refl H, q1 e⟩⟩
theorem rd_fit_rows : ∀ ds H Q, sq_fit_rows ds H Q → td_fit_rows (outD Q) (startD 4 ds) H := by
  rintro ds H Q ⟨d, rfl, q⟩
  exact ⟨_, rfl, _, _, _, rfl, rfl, fun _ => rd_out q, fun e => (nomatch e)⟩
theorem rd_need_rows : ∀ ds H Q E, sq_need_rows ds H Q E → td_need_rows (outX Q E) (startD 2 ds) H := by
  rintro ds H Q E ⟨d, rfl, q⟩
  exact ⟨_, rfl, _, rfl, d, rfl, fun _ => ⟨H, .refl H, q⟩, fun e => (nomatch e)⟩
theorem rd_is_rows : ∀ ds H Q E, sq_is_rows ds H Q E → td_is_rows (outX Q E) (startD 2 ds) H := by
  rintro ds H Q E ⟨d, rfl, h, q1, q2⟩
  exact ⟨_, rfl, d, rfl, h, fun e => ⟨_, rfl, _, rfl, d, rfl, H, .refl H, q1 e⟩, fun e => ⟨H, .refl H, q2 e⟩⟩
theorem rd_tree_size : ∀ ds H Q E, sq_tree_size ds H Q E → td_tree_size (outX Q E) (startD 2 ds) H := by
  rintro ds H Q E ⟨d, rfl, h, q1, q2⟩
  exact ⟨_, rfl, d, rfl, h, fun e => ⟨_, rfl, _, rfl, d, rfl, H, .refl H, q1 e⟩, fun e => ⟨H, .refl H, q2 e⟩⟩
theorem rd_listing_of : ∀ ds H Q E, sq_listing_of ds H Q E → td_listing_of (outX Q E) (startD 2 ds) H := by
  rintro ds H Q E ⟨d, rfl, h, q1, q2⟩
  exact ⟨_, rfl, d, rfl, h, fun e => ⟨_, rfl, _, rfl, d, rfl, H, .refl H, q1 e⟩, fun e => ⟨H, .refl H, q2 e⟩⟩
theorem rd_compare_trees : ∀ ds H Q E, sq_compare_trees ds H Q E → td_compare_trees (outX Q E) (startD 11 ds) H := by
  rintro ds H Q E ⟨d, rfl, h, q1, q2⟩
  exact ⟨_, rfl, d, rfl, h, fun e => ⟨_, rfl, _, rfl, d, rfl, H, .refl H, q1 e⟩, fun e => ⟨H, .refl H, q2 e⟩⟩
end K21

set_option maxHeartbeats 4000000
namespace DL
open PySem PySem.Spec L2
open PyProof.Rows hiding St
/-! ## the well -/
theorem WellAt.le {c l : Addr} {m n : Nat} {H : DH} (h : WellAt c l n H) (le : m ≤ n) : WellAt c l m H := by
  obtain ⟨b, k, ns, h1, h2, h3, h4, h5, h6, h7⟩ := h
  exact ⟨b, k, ns, h1, h2, h3, h4, h5, h6, by omega⟩
theorem WellTo.le {c l : Addr} {m n : Nat} {H H' : DH} (h : WellTo c l n H H') (le : m ≤ n) : WellTo c l m H H' := ⟨h.1.le le, h.2⟩
theorem WellTo.trans {c l : Addr} {m n : Nat} {H H1 H2 : DH} (h : WellTo c l n H H1) (h' : WellTo c l m H1 H2) : WellTo c l m H H2 := ⟨h'.1, fun a h1 h2 => (h'.2 a h1 h2).trans (h.2 a h1 h2)⟩
theorem WellAt.self {c l : Addr} {n : Nat} {H : DH} (h : WellAt c l n H) : WellTo c l n H H := ⟨h, fun _ _ _ => rfl⟩
theorem WellAt.c_some {c l : Addr} {n : Nat} {H : DH} (h : WellAt c l n H) : H c ≠ none := by
  obtain ⟨b, k, ns, h1, h2, _⟩ := h
  rw [h1]; exact fun z => nomatch z
theorem WellAt.l_some {c l : Addr} {n : Nat} {H : DH} (h : WellAt c l n H) : H l ≠ none := by
  obtain ⟨b, k, ns, h1, h2, _⟩ := h
  rw [h2]; exact fun z => nomatch z
/-- elsewhere nothing matters -/
theorem WellAt.up {c l p : Addr} {n : Nat} {H : DH} {o : Ob} (h : WellAt c l n H) (hc : p ≠ c) (hl : p ≠ l) : WellAt c l n (upD H p o) := by
  obtain ⟨b, k, ns, h1, h2, h3⟩ := h
  exact ⟨b, k, ns, by rw [upD_ne (Ne.symm hc)]; exact h1, by rw [upD_ne (Ne.symm hl)]; exact h2, h3⟩
theorem WellAt.free {c l p : Addr} {n : Nat} {H : DH} (h : WellAt c l n H) (hp : H p = none) : p ≠ c ∧ p ≠ l := ⟨fun e => h.c_some (e ▸ hp), fun e => h.l_some (e ▸ hp)⟩
theorem WellAt.new {c l p : Addr} {n : Nat} {H : DH} {o : Ob} (h : WellAt c l n H) (hp : H p = none) : WellAt c l n (upD H p o) := h.up (h.free hp).1 (h.free hp).2
end DL
namespace K21
open PySem PySem.Spec L2 DL
open PyProof.Rows hiding St
theorem rd__law_well : ∀ ds H Q, sp__law_well ds H Q → td__law_well (outD Q) (startD 3 ds) H := by
  rintro ds H Q ⟨ns, rfl, hz, q⟩
  have nl : (ns.map Dv.int).length = ns.length := List.length_map _
  refine ⟨_, rfl, fun i σ H' => H' = H ∧ ∃ (b : Int) (c : Option Dv), σ = [some (.lsv (ns.map .int)), some (.int b), c] ∧ 0 ≤ b ∧ b < 2 ^ 40, ⟨rfl, 7, none, rfl, by decide, by decide⟩, fun _ _ _ _ _ => trivial, ?_, ?_⟩
  · rintro i σ H' hi ⟨rfl, b, c, rfl, hb, hb'⟩
    have hi' : i < ns.length := by have : i < (ns.map Dv.int).length := hi; omega
    obtain ⟨n, e⟩ := nth_ints hi'
    show dgName 2 (nth (ns.map .int) i) _ _ _
    rw [e]
    refine ⟨_, rfl, cmulW_of 40 16 (by omega) (by decide) (by decide), _, rfl, (by show (0 : Int) < 2147483629; decide), (by show (0 : Int) < 2147483647; decide), rfl, _, _, rfl, ?_, ?_⟩
    · exact Int.emod_nonneg _ (by decide)
    · have := Int.emod_lt_of_pos (b * 48271 + n % 2147483629 + 11) (show (0 : Int) < 2147483647 by decide)
      omega
  · rintro σ H' ⟨rfl, b, c, rfl, hb, hb'⟩
    refine ⟨_, rfl, fun i acc H1 => H1 = H' ∧ ∃ ms : List Int, acc = ms.map .int ∧ ms.length ≤ i, ⟨rfl, [], rfl, Nat.le_refl _⟩, fun _ _ _ _ _ => trivial, ?_, ?_⟩
    · rintro i acc H1 hi ⟨rfl, ms, rfl, hm⟩
      have hi' : i < ns.length := by have : i < (ns.map Dv.int).length := hi; omega
      obtain ⟨n, e⟩ := nth_ints hi'
      show dgName 2 (nth (ns.map .int) i) _ _ _
      rw [e]
      refine ⟨_, rfl, cpow_of rfl, fun _ => ⟨_, rfl, cpow_of rfl, by rw [List.length_map]; omega, rfl, ms ++ [n - 10 ^ 18], by rw [List.map_append]; rfl, by rw [List.length_append]; simp; omega⟩, fun _ => ⟨rfl, ms, rfl, by omega⟩⟩
    · rintro acc H1 ⟨rfl, ms, rfl, hm⟩ l hl
      refine ⟨_, rfl, le_sz 3 (by decide), fun c hc => ?_⟩
      have ne : l ≠ c := fun e => by subst e; rw [upD_same] at hc; cases hc
      have hcH : H1 c = none := by rw [upD_ne (Ne.symm ne)] at hc; exact hc
      refine rd_out (q c l _ hcH hl ⟨b, 0, ms, upD_same, by rw [upD_ne ne, upD_same], Ne.symm ne, hb, hb', by decide, by decide⟩ fun a h => ?_)
      rw [upD_ne (fun e => h (by rw [e]; exact hcH)), upD_ne (fun e => h (by rw [e]; exact hl))]
theorem rd__law_draw : ∀ ds H Q, sp__law_draw ds H Q → td__law_draw (outD Q) (startD 3 ds) H := by
  rintro ds H Q ⟨c, l, m, n, rfl, hm, hl, ⟨b, k, ns, hc, hL, ne, hb, hb', hk, hk'⟩, q⟩
  refine ⟨_, rfl, _, _, hc, rfl, Nat.zero_le _, _, hL, fun e => by rw [List.eq_nil_of_length_eq_zero e]; rfl, fun e => ?_, fun _ => ?_⟩
  · cases ns with
    | nil => exact Bool.noConfusion (show false = true from e)
    | cons n0 ns =>
      have a0 : atI ((n0 :: ns).map Dv.int) 0 = some (.int n0) := atI_0
      refine ⟨_, rfl, _, _, hc, rfl, _, .int n0, hL, a0, _, rfl, _, rfl, fun e2 => ?_, fun e2 => ?_⟩
      · refine ⟨_, rfl, _, _, hc, rfl, ⟨_, hL⟩, _, 0, .int n0, hL, by decide, by decide, by simp [seqIndex?], rfl, ?_⟩
        refine ⟨_, rfl, _, rfl, hm, rd_out (q _ _ (Int.emod_nonneg _ (by omega)) (Int.emod_lt_of_pos _ hm) ⟨⟨b, k, ns, by rw [upD_ne ne]; exact hc, by rw [upD_same]; rfl, ne, hb, hb', hk, by omega⟩, fun a h1 h2 => upD_ne h2⟩)⟩
      · refine ⟨_, rfl, _, rfl, cdivW_of 60 hm (by omega) (by decide), _, rfl, _, _, hc, rfl, _, 0, hL, by simp [ixN], ?_⟩
        refine ⟨_, rfl, _, rfl, hm, rd_out (q _ _ (Int.emod_nonneg _ (by omega)) (Int.emod_lt_of_pos _ hm) ⟨⟨b, k, n0 / m :: ns, by rw [upD_ne ne]; exact hc, by rw [upD_same]; rfl, ne, hb, hb', hk, by omega⟩, fun a h1 h2 => upD_ne h2⟩)⟩
  · have hkk : (k + 1) * (k + 1) ≤ 2 ^ 60 * 2 ^ 60 := Int.mul_le_mul (by omega) (by omega) (by omega) (by omega)
    have hk0 : 0 ≤ (k + 1) * (k + 1) := Int.mul_nonneg (by omega) (by omega)
    have hl1 : upD H c (.lst [.ref l, .int b, .int (k + 1)]) l = some (.lst (ns.map .int)) := by rw [upD_ne (Ne.symm ne)]; exact hL
    refine ⟨_, rfl, _, _, hc, rfl, _, rfl, _, 2, hc, rfl, ?_⟩
    refine ⟨_, rfl, _, _, upD_same, rfl, cmulW_of 40 16 (by omega) (by decide) (by decide), _, rfl, _, _, upD_same, rfl, cmulW_of 17 60 (by decide) (by omega) (by decide), _, rfl, _, _, upD_same, rfl, cmulW_of 77 60 (by omega) (by omega) (by decide), (by show (0 : Int) < 2147483647; decide), _, rfl, _, 1, upD_same, rfl, ?_⟩
    have v0 := Int.emod_nonneg (b * 48271 + 69621 * (k + 1) * (k + 1) + 40692) (show (2147483647 : Int) ≠ 0 by decide)
    have v1 := Int.emod_lt_of_pos (b * 48271 + 69621 * (k + 1) * (k + 1) + 40692) (show (0 : Int) < 2147483647 by decide)
    refine ⟨_, rfl, _, _, upD_same, rfl, _, rfl, _, _, upD_same, rfl, cmulW_of 40 40 (by omega) (by omega) (by decide), (by show (0 : Int) < 2147483629; decide), cdivW_of 6 (by decide) (by decide) (by decide), _, rfl, hm, ?_⟩
    refine rd_out (q _ _ (Int.emod_nonneg _ (by omega)) (Int.emod_lt_of_pos _ hm) ⟨⟨_, k + 1, ns, upD_same, ?_, ne, v0, by omega, by omega, by omega⟩, fun a h1 h2 => ?_⟩)
    · rw [upD_ne (Ne.symm ne)]; exact hl1
    · rw [upD_ne h1, upD_ne h1]
theorem rd__law_is : ∀ ds H Q, sp__law_is ds H Q → td__law_is (outD Q) (startD 2 ds) H := by
  rintro ds H Q ⟨a, b, rfl, q⟩
  exact ⟨_, rfl, trivial, fun _ => ⟨_, rfl, _, rfl, rfl, rd_out q⟩, fun e => (nomatch e)⟩
end K21

set_option maxHeartbeats 4000000
namespace DL
open PySem PySem.Spec L2
open PyProof.Rows hiding St
/-! ## texts, sign by sign -/
theorem sg_app (x y : Str) : sg (x ++ y) = sg x ++ sg y := TL.tl_append x y
theorem sg_ext {x y : Str} (h : sg x = sg y) : x = y := TL.ext_tl h
theorem sg_sgn (c : Nat) : sg (sgn c) = [c] := rfl
theorem sg_cut (z : Str) (lo hi : Option Int) : sg (cutS z lo hi) = ((sg z).drop (HT.sIx z.length 0 lo)).take (HT.sIx z.length z.length hi - HT.sIx z.length 0 lo) := rfl
theorem cut_mem {z : Str} {lo hi : Option Int} {c : Nat} (h : c ∈ sg (cutS z lo hi)) : c ∈ sg z := by
  rw [sg_cut] at h
  exact List.mem_of_mem_drop (List.mem_of_mem_take h)
theorem cut_len9 (z : Str) : (cutS z (some 1) (some 10)).length ≤ 9 := by
  rw [← sg_len, sg_cut, List.length_take, List.length_drop, sg_len]
  have h1 : HT.sIx z.length 0 (some 1) = min 1 z.length := HT.sIx_nat _ _ 1
  have h2 : HT.sIx z.length z.length (some 10) = min 10 z.length := HT.sIx_nat _ _ 10
  rw [h1, h2]
  omega
theorem cut_le (z : Str) (lo hi : Option Int) : (cutS z lo hi).length ≤ z.length := by
  rw [← sg_len, sg_cut, List.length_take, List.length_drop, sg_len]
  omega
theorem sg_join : ∀ ys : List Str, sg (Txt.join "" ys) = ys.flatMap sg := by
  intro ys
  rw [TL.join_eq]
  induction ys with
  | nil => rfl
  | cons y ys ih =>
    cases ys with
    | nil => show sg y = _; simp
    | cons z r =>
      have e : Str.join "" (y :: z :: r) = y ++ "" ++ Str.join "" (z :: r) := rfl
      have e2 : sg ("" : String) = [] := rfl
      rw [e, sg_app, sg_app, ih, e2, List.append_nil, List.flatMap_cons (x := y)]
theorem app_len (x y : Str) : (x ++ y).length = x.length + y.length := by rw [← sg_len, ← sg_len, ← sg_len, sg_app, List.length_append]
theorem sg_lower {x : Str} (h : (sg x).all (· < 128) = true) : sg (Txt.lower x) = (sg x).map PyProof.Rows.lo1 := congrArg sg (SX.lower_S (a := sg x) h)
theorem sg_upper {x : Str} (h : (sg x).all (· < 128) = true) : sg (Txt.upper x) = (sg x).map PyProof.Rows.up1 := congrArg sg (SX.upper_S (a := sg x) h)
theorem runC_lt {c : Nat} (h : runC c = true) : c < 128 := by
  simp only [runC, loC, upC, dgC, Bool.or_eq_true, Bool.and_eq_true, decide_eq_true_eq] at h
  omega
theorem up_lo {c : Nat} (h : loC c = true) : upC (PyProof.Rows.up1 c) = true := by
  simp only [loC, Bool.and_eq_true, decide_eq_true_eq] at h
  unfold PyProof.Rows.up1
  rw [if_pos h]
  simp only [upC, Bool.and_eq_true, decide_eq_true_eq]
  omega
theorem lo_any {c : Nat} (h : loC c = true ∨ upC c = true) : loC (PyProof.Rows.lo1 c) = true := by
  simp only [loC, upC, Bool.and_eq_true, decide_eq_true_eq] at h
  unfold PyProof.Rows.lo1
  split
  · simp only [loC, Bool.and_eq_true, decide_eq_true_eq]; omega
  · simp only [loC, Bool.and_eq_true, decide_eq_true_eq]; omega
end DL
namespace DL
open PySem PySem.Spec L2
open PyProof.Rows hiding St
theorem atI_getN {xs : List Nat} {i : Int} (h0 : 0 ≤ i) (h1 : i < xs.length) : ∃ c, atI xs i = some c ∧ c ∈ xs := by
  have e : i = (i.toNat : Int) := by omega
  rw [e, atI_at, List.getElem?_eq_getElem (by omega)]
  exact ⟨_, rfl, List.getElem_mem _⟩
def SGN : Str := ("abcdefghijklmnopqrstuvwxyz" : Str) ++ Txt.upper "abcdefghijklmnopqrstuvwxyz" ++ ("0123456789" : Str)
theorem SGN_len : (sg SGN).length = 62 := by decide +kernel
theorem SGN_run : ∀ c ∈ sg SGN, runC c = true := by decide +kernel
theorem low_lo : ∀ c ∈ sg "abcdefghijklmnopqrstuvwxyz", loC c = true := by decide +kernel
def WRD : List Str := ["kind", "letters", "none", "start", "state", "words"]
theorem WRD_lo : ∀ x ∈ WRD, loS x = true ∧ (sg x).all loC = true := by decide +kernel
theorem nm_parts {hi : Bool} {x : Str} (h : nmS hi x = true) : 1 ≤ x.length ∧ x.length ≤ 10 ∧ (loC ((sg x).headD 0) = true ∨ upC ((sg x).headD 0) = true) ∧ (∀ c ∈ sg x, runC c = true) := by
  unfold nmS hiS loS at h
  split at h <;> simp only [Bool.and_eq_true, decide_eq_true_eq, List.all_eq_true] at h
  · exact ⟨h.1.1.1, h.1.1.2, .inr h.1.2, h.2⟩
  · exact ⟨h.1.1.1, h.1.1.2, .inl h.1.2, h.2⟩
/-- one sign, then some more -/
theorem nm_make {hi : Bool} {a : Nat} {y : Str} (ha : (if hi = true then upC a else loC a) = true) (hy : y.length ≤ 9) (hr : ∀ c ∈ sg y, runC c = true) : nmS hi (sgn a ++ y) = true := by
  have l : (sgn a ++ y).length = 1 + y.length := by rw [app_len]; rfl
  have e : sg (sgn a ++ y) = a :: sg y := by rw [sg_app]; rfl
  have ra : runC a = true := by
    unfold runC
    cases hi <;> simp at ha <;> rw [ha] <;> simp
  have all : (a :: sg y).all runC = true := by rw [List.all_cons, ra, List.all_eq_true.mpr hr]; rfl
  unfold nmS hiS loS
  rw [l, e, decide_eq_true (show 1 ≤ 1 + y.length by omega), decide_eq_true (show 1 + y.length ≤ 10 by omega), all]
  cases hi <;> simp at ha ⊢ <;> exact ha
/-- the text of a small number -/
theorem num_txt (k : Nat) (h : k < 1000) : (Str.ofString (toString ((k : Nat) : Int))).length ≤ 3 ∧ ∀ c ∈ sg (Str.ofString (toString ((k : Nat) : Int))), runC c = true := by
  have e : sg (Str.ofString (toString ((k : Nat) : Int))) = TL.numL k := TL.tl_num k
  rw [← sg_len, e]
  refine ⟨TL.numL_len (by decide) (by omega), fun c m => ?_⟩
  have := TL.numL_digits k c m
  have : 48 ≤ c ∧ c ≤ 57 := by omega
  unfold runC dgC
  rw [decide_eq_true this.1, decide_eq_true this.2]; simp
theorem num_inj {x : Str} {j k : Nat} (h : x ++ Str.ofString (toString ((j : Nat) : Int)) = x ++ Str.ofString (toString ((k : Nat) : Int))) : j = k := by
  have := congrArg sg h
  rw [sg_app, sg_app] at this
  have := List.append_cancel_left this
  have e : ∀ k : Nat, sg (Str.ofString (toString ((k : Nat) : Int))) = TL.numL k := fun k => TL.tl_num k
  rw [e, e] at this
  exact TL.numL_inj this
theorem eqOk_str {x y : Str} {n : Nat} : eqOk n (.str x) (.str y) = true := by cases n <;> rfl
theorem eqv_str {x y : Str} : eqv (.str x) (.str y) = decide (x = y) := by
  show (x == y) = _
  rw [Bool.eq_iff_iff, beq_iff_eq, decide_eq_true_eq]
theorem in_strs {ts : List Str} {x : Str} : ((ts.map Dv.str).all fun d => eqOk 59 d (.str x)) = true ∧ ((ts.map Dv.str).any fun d => eqv d (.str x)) = decide (x ∈ ts) := by
  constructor
  · rw [List.all_map, List.all_eq_true]; intro a _; exact eqOk_str
  · rw [List.any_map, Bool.eq_iff_iff, List.any_eq_true, decide_eq_true_eq]
    constructor
    · rintro ⟨a, m, e⟩
      have e : eqv (.str a) (.str x) = true := e
      rw [eqv_str] at e
      exact of_decide_eq_true e ▸ m
    · intro m
      exact ⟨x, m, by show eqv (.str x) (.str x) = true; rw [eqv_str]; simp⟩
/-- in, for the names that are taken -/
theorem tk_in {g : Bool → Bool} {d : Dv} {ts : List Str} {c l : Addr} {H : DH} {x : Str} {Q : DVK} (h : TkL d ts c l H) (q : Q (.bl (g (decide (x ∈ ts)))) H) : fIn g (.str x) d H Q := by
  have z := in_strs (ts := ts) (x := x)
  rcases h with rfl | ⟨a, rfl, _, _, h⟩
  · refine ⟨z.1, ?_⟩
    rw [z.2]; exact q
  · refine ⟨_, h, z.1, ?_⟩
    rw [z.2]; exact q
theorem TkL.to {d : Dv} {ts : List Str} {c l : Addr} {n : Nat} {H H' : DH} (h : TkL d ts c l H) (t : WellTo c l n H H') : TkL d ts c l H' := by
  rcases h with h | ⟨a, e, h1, h2, h3⟩
  · exact .inl h
  · exact .inr ⟨a, e, h1, h2, by rw [t.2 a h1 h2]; exact h3⟩
/-- a name beyond those that are taken: one of enough others -/
theorem beyond {f : Nat → Str} (inj : ∀ i j, f i = f j → i = j) {ts : List Str} {n : Nat} (h : ts.length < n) : ∃ k, k < n ∧ f k ∉ ts := by
  apply Classical.byContradiction
  intro z
  have all : ∀ x ∈ (List.range n).map f, x ∈ ts := by
    intro x m
    obtain ⟨k, hk, rfl⟩ := List.mem_map.mp m
    exact Classical.byContradiction fun q => z ⟨k, List.mem_range.mp hk, q⟩
  have nd : ((List.range n).map f).Nodup := by
    unfold List.Nodup
    rw [List.pairwise_map]
    exact List.nodup_range.imp fun ne e => ne (inj _ _ e)
  have := nodup_len nd all
  rw [List.length_map, List.length_range] at this
  omega
theorem tk_add {d : Dv} {ts : List Str} {ws : List Dv} {c l : Addr} {H : DH} {Q : DVK} (h : TkL d ts c l H) (hz : ts.length + ws.length ≤ sizeLine) (q : Q (.lsv (ts.map .str ++ ws)) H) : fAddF d (.lsv ws) H Q := by
  rcases h with rfl | ⟨a, rfl, _, _, h⟩
  · exact ⟨by rw [List.length_map]; exact hz, q⟩
  · exact ⟨_, h, by rw [List.length_map]; exact hz, q⟩
theorem tk_len {d : Dv} {ts : List Str} {c l : Addr} {H : DH} {Q : DVK} (h : TkL d ts c l H) (q : Q (.int (ts.length : Nat)) H) : fLen [d] H Q := by
  rcases h with rfl | ⟨a, rfl, _, _, h⟩
  · show Q (.int ((ts.map Dv.str).length : Nat)) H
    rw [List.length_map]; exact q
  · refine ⟨_, h, ?_⟩
    rw [List.length_map]; exact q
theorem lo_of_any {o : Nat} (h : loC o = true ∨ upC o = true) : Txt.lower (sgn o) = sgn (PyProof.Rows.lo1 o) := by
  apply sg_ext
  rw [sg_lower]
  · rfl
  · show decide (o < 128) && true = true
    rw [decide_eq_true]; rfl
    simp only [loC, upC, Bool.and_eq_true, decide_eq_true_eq] at h
    omega
theorem up_of_lo {o : Nat} (h : loC o = true) : Txt.upper (sgn o) = sgn (PyProof.Rows.up1 o) := by
  apply sg_ext
  rw [sg_upper]
  · rfl
  · show decide (o < 128) && true = true
    rw [decide_eq_true]; rfl
    simp only [loC, Bool.and_eq_true, decide_eq_true_eq] at h
    omega
theorem tk_lenE {i : Nat} {σ : DS} {d : Dv} {ts : List Str} {c l : Addr} {H : DH} {Q : DVK} (h : TkL d ts c l H) (e : σ[i]? = some (some d)) (q : Q (.int (ts.length : Nat)) H) : dFn fLen (dCons (dVar i) dNil) σ H Q := ⟨d, e, tk_len h q⟩
theorem tk_inE {g : Bool → Bool} {i j : Nat} {σ : DS} {d : Dv} {ts : List Str} {c l : Addr} {H : DH} {x : Str} {Q : DVK} (h : TkL d ts c l H) (e1 : σ[i]? = some (some (.str x))) (e2 : σ[j]? = some (some d)) (q : Q (.bl (g (decide (x ∈ ts)))) H) : dOp (fIn g) (dVar i) (dVar j) σ H Q :=
  ⟨_, e1, _, e2, tk_in h q⟩
theorem at0_cons (a : Nat) (y : Str) : atI (sg (sgn a ++ y)) 0 = some a := by
  rw [sg_app]
  exact atI_0
end DL

set_option maxHeartbeats 4000000
namespace K21
open PySem PySem.Spec L2 DL
open PyProof.Rows hiding St
theorem rd__law_name : ∀ ds H Q, sp__law_name ds H Q → td__law_name (outD Q) (startD 12 ds) H := by
  rintro ds H Q ⟨c, l, n, d, ts, hi, rfl, htl, hts, hT, hW, q⟩
  have s16 := sz16
  have ll : (sg "abcdefghijklmnopqrstuvwxyz").length = 26 := by decide +kernel
  refine ⟨_, rfl, _, rfl, by decide +kernel, by decide +kernel, by decide +kernel, le_sz 6 (by decide), le_sz 2 (by decide), rfl, rfl, ?_⟩
  refine ⟨_, rfl, _, rfl, c, l, _, n + 19, rfl, by decide, by decide, hW, fun r1 H1 a1 b1 t1 => ?_⟩
  obtain ⟨hc, e1, m1⟩ := atI_getN (xs := sg "abcdefghijklmnopqrstuvwxyz") a1 (by rw [ll]; exact b1)
  have lo1 := low_lo hc m1
  refine ⟨hc, by decide +kernel, e1, ⟨_, rfl⟩, _, rfl, le_sz 3 (by decide), _, rfl, c, l, _, n + 18, rfl, by decide, by decide, t1.1, fun r2 H2 a2 b2 t2 => ix_any a2 b2 fun v hv => ?_⟩
  obtain ⟨v, rfl, v0, v1⟩ : ∃ k : Int, v = .int k ∧ 0 < k ∧ k ≤ 10 := by
    simp only [List.mem_cons, List.not_mem_nil, or_false] at hv
    rcases hv with rfl | rfl | rfl <;> exact ⟨_, rfl, by decide, by decide⟩
  refine ⟨c, l, _, n + 17, rfl, v0, by omega, t2.1, fun r3 H3 a3 b3 t3 => ⟨⟨by omega, by omega⟩, ?_⟩⟩
  have t13 := (t1.trans t2).trans t3
  refine ⟨fun i acc H' => WellTo c l (n + 17 - i) H H' ∧ ∃ ys : List Str, acc = ys.map .str ∧ ys.length = i ∧ ∀ y ∈ ys, y.length = 1 ∧ ∀ s ∈ sg y, runC s = true, ⟨t13, [], rfl, rfl, fun _ m => nomatch m⟩, fun _ _ _ _ _ => trivial, ?_, ?_⟩
  · rintro i acc H' hi' ⟨t, ys, rfl, hy, hr⟩
    have hi' : i < r3.toNat := hi'
    refine ⟨fun _ => ⟨_, rfl, _, rfl, c, l, _, n + 17 - (i + 1), rfl, by decide, by decide, t.1.le (by omega), fun r H4 a b t4 => ?_⟩, fun e => (nomatch e)⟩
    obtain ⟨s, e, m⟩ := atI_getN (xs := sg SGN) a (by rw [SGN_len]; exact b)
    refine ⟨s, by decide +kernel, e, by rw [List.length_map]; omega, t.trans t4, ys ++ [sgn s], by rw [List.map_append]; rfl, by rw [List.length_append]; simp; omega, fun y my => ?_⟩
    rcases List.mem_append.mp my with my | my
    · exact hr y my
    · rw [List.mem_singleton.mp my]
      exact ⟨rfl, fun s' ms => by rw [List.mem_singleton.mp ms]; exact SGN_run s m⟩
  rintro acc H4 ⟨t4, ys, rfl, hy, hr⟩
  have hy : ys.length = r3.toNat := hy
  have sum1 : ∀ zs : List Str, (∀ y ∈ zs, y.length = 1) → (zs.map (·.length)).sum = zs.length := by
    intro zs
    induction zs with
    | nil => intro _; rfl
    | cons z zs ih => intro h; rw [List.map_cons, List.sum_cons, ih fun y m => h y (List.mem_cons_of_mem _ m), h z List.mem_cons_self, List.length_cons]; omega
  have sm := sum1 ys fun y m => (hr y m).1
  refine ⟨_, ys, rfl, .inl rfl, by rw [sm]; show ys.length + ys.length * 0 ≤ _; omega, ?_⟩
  have jr : ∀ s ∈ sg (Txt.join "" ys), runC s = true := by
    rw [sg_join]
    intro s m
    obtain ⟨y, my, ms⟩ := List.mem_flatMap.mp m
    exact (hr y my).2 s ms
  have jl : (Txt.join "" ys).length ≤ 9 := by
    rw [← sg_len, sg_join, List.length_flatMap]
    have : (ys.map fun y => (sg y).length) = ys.map (·.length) := List.map_congr_left fun y _ => sg_len y
    rw [this, sm]; omega
  generalize Txt.join "" ys = body at jr jl
  have t4 := t4.le (show n + 8 ≤ n + 17 - r3.toNat by omega)
  refine ⟨fun σ H' => ∃ (hd : Nat) (body : Str) (a b : Option Dv), σ = [some (.ref c), some d, some (.bl hi), some (.str "abcdefghijklmnopqrstuvwxyz"), some (.str SGN), some (.lsv (WRD.map .str)), some (.str (sgn hd)), some (.str body), a, b, none, none] ∧ loC hd = true ∧ body.length ≤ 9 ∧ (∀ s ∈ sg body, runC s = true) ∧ WellTo c l n H H', ?_, ?_⟩
  · refine ⟨_, rfl, c, l, _, n + 7, rfl, by decide, by decide, t4.1, fun r5 H5 a5 b5 t5 => ⟨rfl, fun e => ?_, fun e => ⟨hc, body, none, none, rfl, lo1, jl, jr, (t4.trans t5).le (by omega)⟩⟩⟩
    have T5 := hT.to (t4.trans t5)
    refine ⟨_, rfl, _, rfl, tk_add (ws := WRD.map .str) T5 (by show ts.length + 6 ≤ _; omega) ⟨_, rfl, ?_⟩⟩
    refine tk_lenE (i := 1) T5 rfl ?_
    refine ⟨c, l, _, n + 6, rfl, by omega, by omega, t5.1, fun r6 H6 a6 b6 t6 => ix_any a6 (by rw [List.length_append, List.length_map]; show r6 < ((ts.length + 6 : Nat) : Int); omega) fun v hv => ?_⟩
    obtain ⟨old, rfl, o1, o2, o3, o4⟩ : ∃ old : Str, v = .str old ∧ 1 ≤ old.length ∧ old.length ≤ 10 ∧ (loC ((sg old).headD 0) = true ∨ upC ((sg old).headD 0) = true) ∧ ∀ s ∈ sg old, runC s = true := by
      rcases List.mem_append.mp hv with hv | hv
      · obtain ⟨x, mx, rfl⟩ := List.mem_map.mp hv
        exact ⟨x, rfl, nm_parts (hts x mx)⟩
      · obtain ⟨x, mx, rfl⟩ := List.mem_map.mp hv
        exact ⟨x, rfl, nm_parts (hi := false) (WRD_lo x mx).1⟩
    refine ⟨_, rfl, _, rfl, by omega, c, l, _, n + 5, rfl, by omega, by omega, t6.1, fun r7 H7 a7 b7 t7 => ?_⟩
    refine ⟨_, rfl, _, by omega, at0 o1, by show 1 ≤ 5000000; decide, ?_⟩
    rw [lo_of_any o3]
    refine ⟨_, rfl, _, rfl, by omega, _, rfl, _, rfl, c, l, _, n + 4, rfl, by decide, by decide, t7.1, fun r8 H8 a8 b8 t8 => ?_⟩
    obtain ⟨s8, e8, m8⟩ := atI_getN (xs := sg SGN) a8 (by rw [SGN_len]; exact b8)
    refine ⟨s8, by decide +kernel, e8, le_sz 2 (by decide), _, rfl, c, l, _, n + 3, rfl, by decide, by decide, t8.1, fun r9 H9 a9 b9 t9 => ix_any a9 b9 fun w hw => ?_⟩
    obtain ⟨w, rfl, w1, w2⟩ : ∃ x : Str, w = .str x ∧ x.length ≤ 1 ∧ ∀ s ∈ sg x, runC s = true := by
      simp only [List.mem_cons, List.not_mem_nil, or_false] at hw
      rcases hw with rfl | rfl
      · exact ⟨_, rfl, by decide, fun s m => by cases m⟩
      · exact ⟨_, rfl, Nat.le_refl _, fun s m => by rw [List.mem_singleton.mp m]; exact SGN_run s8 m8⟩
    have c1 := cut_le old none (some (1 + r7))
    refine ⟨by omega, _, rfl, _, rfl, _, rfl, c, l, _, n + 2, rfl, by decide, by decide, t9.1, fun r10 H10 a10 b10 t10 => ?_⟩
    have c2 := cut_le old (some (1 + r7 + r10)) none
    refine ⟨by omega, by rw [app_len]; omega, by rw [app_len, app_len]; omega, ?_⟩
    refine ⟨_, _, some (.str old), some (.int (1 + r7)), rfl, lo_any o3, cut_len9 _, fun s m => ?_, ((((((t4.trans t5).trans t6).trans t7).trans t8).trans t9).trans t10).le (by omega)⟩
    have m := cut_mem m
    rw [sg_app, sg_app] at m
    rcases List.mem_append.mp m with m | m
    · rcases List.mem_append.mp m with m | m
      · exact o4 s (cut_mem m)
      · exact w2 s m
    · exact o4 s (cut_mem m)
  · rintro σ H' ⟨hd, body, a8, b8, rfl, h1, h2, h3, t⟩
    have T := hT.to t
    obtain ⟨a, ha, ea⟩ : ∃ a, (if hi = true then upC a else loC a) = true ∧ atI [Dv.str (sgn hd), .str (Txt.upper (sgn hd))] (if hi = true then 1 else 0) = some (.str (sgn a)) := by
      cases hi with
      | true => exact ⟨PyProof.Rows.up1 hd, up_lo h1, by rw [up_of_lo h1]; exact atI_1⟩
      | false => exact ⟨hd, h1, atI_0⟩
    have xl : (sgn a ++ body).length ≤ 10 := by rw [app_len]; show 1 + body.length ≤ 10; omega
    refine ⟨_, rfl, _, rfl, by show 1 ≤ 5000000; decide, le_sz 2 (by decide), _, rfl, _, ea, _, rfl, by show 1 + body.length ≤ _; omega, ?_⟩
    have nx := nm_make (hi := hi) ha h2 h3
    refine ⟨fun σ H' => ∃ (x : Str) (b8 b9 b11 : Option Dv), σ = [some (.ref c), some d, some (.bl hi), some (.str "abcdefghijklmnopqrstuvwxyz"), some (.str SGN), some (.lsv (WRD.map .str)), some (.str (sgn hd)), some (.str body), b8, b9, some (.str x), b11] ∧ nmS hi x = true ∧ x ∉ ts ∧ WellTo c l n H H', ?_, ?_⟩
    · have last : ∀ (N : Dv → DH → Prop), (∀ x : Str, nmS hi x = true → x ∉ ts → N (.str x) H') →
          dOp fIx (dLcF (dRng1 (dC (.int 400))) [11] (dgName 11) (dTest (dOp fNotInA (dOp fAddF (dOp fIx (dVar 10) (dC (.int 0))) (dFn fStr (dCons (dVar 11) (dNil)))) (dVar 1))) (dOp fAddF (dOp fIx (dVar 10) (dC (.int 0))) (dFn fStr (dCons (dVar 11) (dNil))))) (dC (.int 0))
            [some (.ref c), some d, some (.bl hi), some (.str "abcdefghijklmnopqrstuvwxyz"), some (.str SGN), some (.lsv (WRD.map .str)), some (.str (sgn hd)), some (.str body), a8, b8, some (.str (sgn a ++ body)), none] H' N := by
        intro N hN
        refine ⟨⟨by decide, by decide⟩, lc_all (F := fun i => if (sgn a ++ Str.ofString (toString ((i : Nat) : Int))) ∈ ts then [] else [Dv.str (sgn a ++ Str.ofString (toString ((i : Nat) : Int)))]) ?_ trivial ?_ ?_⟩
        · have : ∀ m, ((List.range m).flatMap fun (i : Nat) => if (sgn a ++ Str.ofString (toString ((i : Nat) : Int))) ∈ ts then [] else [Dv.str (sgn a ++ Str.ofString (toString ((i : Nat) : Int)))]).length ≤ m := by
            intro m
            induction m with
            | zero => exact Nat.le_refl _
            | succ m ih => rw [flat_snoc, List.length_append]; split <;> first | (rw [List.length_nil]; omega) | (rw [List.length_singleton]; omega)
          have := this 400
          show _ ≤ _
          rw [s16]
          exact Nat.le_trans this (by decide)
        · rintro i acc N2 hi2 hz hN2
          have hi2 : i < 400 := hi2
          show dgName 11 (Dv.int (0 + ((i : Nat) : Int) * 1)) _ _ _
          rw [show (0 + ((i : Nat) : Int) * 1) = (i : Nat) by omega]
          have nl := (num_txt i (by omega)).1
          have lg : ((i : Nat) : Int).natAbs.log2 < 1920 := Nat.lt_of_lt_of_le (log2_nat (a := 10) (by omega) (by decide)) (by decide)
          have sl : (sgn a).length + (Str.ofString (toString ((i : Nat) : Int))).length ≤ sizeLine := by show 1 + _ ≤ _; omega
          have T2 := T
          refine ⟨_, rfl, a, by omega, at0_cons a body, _, rfl, lg, sl, _, rfl, tk_in T ⟨fun e => ?_, fun e => ?_⟩⟩
          · have e : (sgn a ++ Str.ofString (toString ((i : Nat) : Int))) ∉ ts := of_decide_eq_false (nt e)
            rw [if_neg e] at hz hN2
            exact ⟨_, rfl, a, by omega, at0_cons a body, _, rfl, lg, sl, by simp at hz; omega, hN2⟩
          · have e : (sgn a ++ Str.ofString (toString ((i : Nat) : Int))) ∈ ts := of_decide_eq_true (nf e)
            rw [if_pos e, List.append_nil] at hN2
            exact hN2
        · obtain ⟨k, hk, nk⟩ := beyond (f := fun k : Nat => sgn a ++ Str.ofString (toString ((k : Nat) : Int))) (fun _ _ => num_inj) (ts := ts) (n := 400) (by omega)
          have mem : ∀ d ∈ ((List.range 400).flatMap fun (i : Nat) => if (sgn a ++ Str.ofString (toString ((i : Nat) : Int))) ∈ ts then [] else [Dv.str (sgn a ++ Str.ofString (toString ((i : Nat) : Int)))]), ∃ x : Str, d = .str x ∧ nmS hi x = true ∧ x ∉ ts := by
            intro d m
            obtain ⟨j, mj, m⟩ := List.mem_flatMap.mp m
            have mj := List.mem_range.mp mj
            split at m
            · cases m
            · rename_i z
              have nt := num_txt j (by omega)
              exact ⟨_, List.mem_singleton.mp m, nm_make ha (by omega) nt.2, z⟩
          have ne : 0 < ((List.range 400).flatMap fun (i : Nat) => if (sgn a ++ Str.ofString (toString ((i : Nat) : Int))) ∈ ts then [] else [Dv.str (sgn a ++ Str.ofString (toString ((i : Nat) : Int)))]).length :=
            List.length_pos_of_mem (a := Dv.str (sgn a ++ Str.ofString (toString ((k : Nat) : Int)))) (List.mem_flatMap.mpr ⟨k, List.mem_range.mpr hk, by rw [if_neg nk]; exact List.mem_singleton.mpr rfl⟩)
          show fIx (.lsv _) (.int 0) H' N
          refine ix_any (by decide) (by exact Int.ofNat_lt.mpr ne) fun d m => ?_
          obtain ⟨x, rfl, x1, x2⟩ := mem d m
          exact hN x x1 x2
      have W1 := in_strs (ts := WRD) (x := sgn a ++ body)
      refine ⟨_, rfl, _, rfl, tk_in T ⟨fun e => ⟨fun _ => ?_, fun e => (nomatch e)⟩, fun e => ⟨_, rfl, _, rfl, W1.1, ?_⟩⟩⟩
      · exact last _ fun x x1 x2 => ⟨x, _, _, _, rfl, x1, x2, t⟩
      · refine ⟨fun _ => last _ fun x x1 x2 => ⟨x, _, _, _, rfl, x1, x2, t⟩, fun _ => ⟨_, _, _, _, rfl, nx, of_decide_eq_false e, t⟩⟩
    · rintro σ H'' ⟨x, b8, b9, b11, rfl, g1, g2, g3⟩
      exact ⟨_, rfl, rd_out (q x _ g1 g2 g3)⟩
end K21

set_option maxHeartbeats 4000000
namespace DL
open PySem PySem.Spec L2
open PyProof.Rows hiding St
/-! ## kinds drawn: the things that change -/
structure KPl (c l p1 p2 p3 p4 : Addr) : Prop where
  c1 : p1 ≠ c
  c2 : p2 ≠ c
  c3 : p3 ≠ c
  c4 : p4 ≠ c
  l1 : p1 ≠ l
  l2 : p2 ≠ l
  l3 : p3 ≠ l
  l4 : p4 ≠ l
  n12 : p1 ≠ p2
  n13 : p1 ≠ p3
  n14 : p1 ≠ p4
  n23 : p2 ≠ p3
  n24 : p2 ≠ p4
  n34 : p3 ≠ p4
structure KHp (H : DH) (c l p1 p2 p3 p4 : Addr) (n : Nat) (ts mm : List Str) (bs : Knds) (H' : DH) : Prop where
  well : WellAt c l n H'
  ti : H' p1 = some (.lst (ts.map .str))
  mq : H' p2 = some (.lst (mm.map .str))
  fo : H' p3 = some (.dic (bs.map fun k => .inr k.1) (bs.map fun k => .tup (k.2.map mkD)))
  dn : H' p4 = some (.lst ((nmsK bs).map .str))
  old : ∀ a, H a ≠ none → a ≠ c → a ≠ l → H' a = H a
section
variable {H H' H'' : DH} {c l p1 p2 p3 p4 p : Addr} {n m : Nat} {ts mm : List Str} {bs : Knds}
theorem KHp.le (h : KHp H c l p1 p2 p3 p4 n ts mm bs H') (le : m ≤ n) : KHp H c l p1 p2 p3 p4 m ts mm bs H' := { h with well := h.well.le le }
theorem KHp.draw (A : KPl c l p1 p2 p3 p4) (h : KHp H c l p1 p2 p3 p4 n ts mm bs H') (t : WellTo c l m H' H'') : KHp H c l p1 p2 p3 p4 m ts mm bs H'' :=
  ⟨t.1, by rw [t.2 _ A.c1 A.l1]; exact h.ti, by rw [t.2 _ A.c2 A.l2]; exact h.mq, by rw [t.2 _ A.c3 A.l3]; exact h.fo, by rw [t.2 _ A.c4 A.l4]; exact h.dn, fun a x y z => by rw [t.2 a y z]; exact h.old a x y z⟩
/-- another place -/
theorem KHp.up {o : Ob} (h : KHp H c l p1 p2 p3 p4 n ts mm bs H') (e0 : H p = none) (ec : p ≠ c) (el : p ≠ l) (e1 : p ≠ p1) (e2 : p ≠ p2) (e3 : p ≠ p3) (e4 : p ≠ p4) : KHp H c l p1 p2 p3 p4 n ts mm bs (upD H' p o) :=
  ⟨h.well.up ec el, by rw [upD_ne (Ne.symm e1)]; exact h.ti, by rw [upD_ne (Ne.symm e2)]; exact h.mq, by rw [upD_ne (Ne.symm e3)]; exact h.fo, by rw [upD_ne (Ne.symm e4)]; exact h.dn, fun a x y z => by rw [upD_ne (fun e => x (by rw [e]; exact e0))]; exact h.old a x y z⟩
theorem KHp.setTi (A : KPl c l p1 p2 p3 p4) (h : KHp H c l p1 p2 p3 p4 n ts mm bs H') (e0 : H p1 = none) (ts' : List Str) : KHp H c l p1 p2 p3 p4 n ts' mm bs (upD H' p1 (.lst (ts'.map .str))) :=
  ⟨h.well.up A.c1 A.l1, upD_same, by rw [upD_ne (Ne.symm A.n12)]; exact h.mq, by rw [upD_ne (Ne.symm A.n13)]; exact h.fo, by rw [upD_ne (Ne.symm A.n14)]; exact h.dn, fun a x y z => by rw [upD_ne (fun e => x (by rw [e]; exact e0))]; exact h.old a x y z⟩
theorem KHp.setMk (A : KPl c l p1 p2 p3 p4) (h : KHp H c l p1 p2 p3 p4 n ts mm bs H') (e0 : H p2 = none) (mm' : List Str) : KHp H c l p1 p2 p3 p4 n ts mm' bs (upD H' p2 (.lst (mm'.map .str))) :=
  ⟨h.well.up A.c2 A.l2, by rw [upD_ne A.n12]; exact h.ti, upD_same, by rw [upD_ne (Ne.symm A.n23)]; exact h.fo, by rw [upD_ne (Ne.symm A.n24)]; exact h.dn, fun a x y z => by rw [upD_ne (fun e => x (by rw [e]; exact e0))]; exact h.old a x y z⟩
/-- a kind is done -/
theorem KHp.setBs (A : KPl c l p1 p2 p3 p4) (h : KHp H c l p1 p2 p3 p4 n ts mm bs H') (e3 : H p3 = none) (e4 : H p4 = none) (bs' : Knds) :
    KHp H c l p1 p2 p3 p4 n ts mm bs' (upD (upD H' p3 (.dic (bs'.map fun k => .inr k.1) (bs'.map fun k => .tup (k.2.map mkD)))) p4 (.lst ((nmsK bs').map .str))) :=
  ⟨(h.well.up A.c3 A.l3).up A.c4 A.l4, by rw [upD_ne A.n14, upD_ne A.n13]; exact h.ti, by rw [upD_ne A.n24, upD_ne A.n23]; exact h.mq, by rw [upD_ne A.n34]; exact upD_same, upD_same,
    fun a x y z => by rw [upD_ne (fun e => x (by rw [e]; exact e4)), upD_ne (fun e => x (by rw [e]; exact e3))]; exact h.old a x y z⟩
end
/-- of the makers of a kind that is being made -/
structure MkOk (ts ds mm : List Str) (ms : List Mk) : Prop where
  nd : (mm ++ ms.map (·.1)).Nodup
  hi : ∀ m ∈ ms, hiS m.1 = true
  f4 : ∀ m ∈ ms, m.2.length ≤ 4
  fi : ∀ m ∈ ms, ∀ f ∈ m.2, f ∈ ts
  first : ms ≠ [] → ∃ m ∈ ms, ∀ f ∈ m.2, f ∈ ds
/-- of the kinds that are done -/
structure BsOk (ts ls mm : List Str) (bs : Knds) : Prop where
  pm : ts.Perm (ls ++ nmsK bs)
  mp : mm.Perm (mksK bs)
  nd : mm.Nodup
  m1 : ∀ k ∈ bs, 1 ≤ k.2.length
  m6 : ∀ k ∈ bs, k.2.length ≤ 6
  mh : ∀ k ∈ bs, ∀ m ∈ k.2, hiS m.1 = true
  f4 : ∀ k ∈ bs, ∀ m ∈ k.2, m.2.length ≤ 4
  fi : ∀ k ∈ bs, ∀ m ∈ k.2, ∀ f ∈ m.2, f ∈ ts
  pr : ∀ k ∈ bs, ∃ n, prodK bs n k.1 = true
theorem prodK_sub {ks ks' : Knds} (s : ∀ k ∈ ks, k ∈ ks') : ∀ {n : Nat} {a : Str}, prodK ks n a = true → prodK ks' n a = true
  | 0, _, e => by cases e
  | n + 1, a, e => by
    obtain ⟨k, hk, e, m, hm, hf⟩ := prodK_succ.mp e
    exact prodK_succ.mpr ⟨k, s k hk, e, m, hm, fun f q => prodK_sub s (hf f q)⟩
theorem BsOk.add {ts ls mm : List Str} {bs : Knds} {t : Str} {ms ms' : List Mk} (h : BsOk ts (t :: ls) mm bs) (o : MkOk ts (nmsK bs) mm ms) (l1 : 1 ≤ ms.length) (l6 : ms.length ≤ 6) (pm : ms'.Perm ms) : BsOk ts ls (mm ++ ms.map (·.1)) (bs ++ [(t, ms')]) := by
  have mem : ∀ m, m ∈ ms' ↔ m ∈ ms := fun m => pm.mem_iff
  refine ⟨?_, ?_, o.nd, ?_, ?_, ?_, ?_, ?_, ?_⟩
  · refine h.pm.trans ?_
    have e : nmsK (bs ++ [(t, ms')]) = nmsK bs ++ [t] := List.map_append
    rw [e]
    rw [← List.append_assoc]
    exact (List.perm_append_singleton t (ls ++ nmsK bs)).symm
  · rw [mksK, List.flatMap_append]
    refine h.mp.append ?_
    rw [List.flatMap_cons, List.flatMap_nil, List.append_nil]
    exact (pm.map _).symm
  · intro k m
    rcases List.mem_append.mp m with m | m
    · exact h.m1 k m
    · rw [List.mem_singleton.mp m]; show 1 ≤ ms'.length; rw [pm.length_eq]; exact l1
  · intro k m
    rcases List.mem_append.mp m with m | m
    · exact h.m6 k m
    · rw [List.mem_singleton.mp m]; show ms'.length ≤ 6; rw [pm.length_eq]; exact l6
  · intro k m x hx
    rcases List.mem_append.mp m with m | m
    · exact h.mh k m x hx
    · rw [List.mem_singleton.mp m] at hx; exact o.hi x ((mem x).mp hx)
  · intro k m x hx
    rcases List.mem_append.mp m with m | m
    · exact h.f4 k m x hx
    · rw [List.mem_singleton.mp m] at hx; exact o.f4 x ((mem x).mp hx)
  · intro k m x hx
    rcases List.mem_append.mp m with m | m
    · exact h.fi k m x hx
    · rw [List.mem_singleton.mp m] at hx; exact o.fi x ((mem x).mp hx)
  · intro k m
    have sub : ∀ k ∈ bs, k ∈ bs ++ [(t, ms')] := fun k m => List.mem_append_left _ m
    rcases List.mem_append.mp m with m | m
    · obtain ⟨n, hn⟩ := h.pr k m
      exact ⟨n, prodK_sub sub hn⟩
    · rw [List.mem_singleton.mp m]
      obtain ⟨x, mx, fx⟩ := o.first (by intro e; rw [e] at l1; exact absurd l1 (by decide))
      obtain ⟨n, hn⟩ := common (ks := bs ++ [(t, ms')]) (fs := x.2) fun f mf => by
        obtain ⟨k, hk, rfl⟩ := List.mem_map.mp (fx f mf)
        obtain ⟨n, hn⟩ := h.pr k hk
        exact ⟨n, prodK_sub sub hn⟩
      exact ⟨n + 1, prodK_succ.mpr ⟨(t, ms'), List.mem_append_right _ (List.mem_singleton.mpr rfl), rfl, x, (mem x).mpr mx, hn⟩⟩
/-- what the kind of this name is -/
def atK (bs : Knds) (t : Str) : List Mk := match bs.find? (fun k => decide (k.1 = t)) with
  | some k => k.2
  | none => []
theorem atK_of : ∀ {bs : Knds}, (nmsK bs).Nodup → ∀ k ∈ bs, atK bs k.1 = k.2
  | [], _, _, m => nomatch m
  | b :: bs, h, k, m => by
    have h' := List.nodup_cons.mp h
    unfold atK
    rcases List.mem_cons.mp m with rfl | m
    · rw [List.find?_cons_of_pos (by simp)]
    · have ne : b.1 ≠ k.1 := fun e => h'.1 (by show b.1 ∈ _; rw [e]; exact List.mem_map.mpr ⟨k, m, rfl⟩)
      rw [List.find?_cons_of_neg (by simpa using ne)]
      exact atK_of h'.2 k m
theorem BsOk.good {ts mm : List Str} {bs : Knds} (h : BsOk ts [] mm bs) (nd : ts.Nodup) (hi : ∀ t ∈ ts, hiS t = true) (l1 : 1 ≤ ts.length) (l2 : ts.length ≤ 60) : goodK (ts.map fun t => (t, atK bs t)) = true := by
  have pm : ts.Perm (nmsK bs) := h.pm
  have nb : (nmsK bs).Nodup := pm.nodup_iff.mp nd
  have e1 : (nmsK bs).map (fun t => (t, atK bs t)) = bs := by
    rw [List.map_map]
    conv => rhs; rw [← List.map_id bs]
    exact List.map_congr_left fun k m => by show (k.1, atK bs k.1) = k; rw [atK_of nb k m]
  have pk : (ts.map fun t => (t, atK bs t)).Perm bs := by
    have := pm.map fun t => (t, atK bs t)
    rwa [e1] at this
  have mem : ∀ k, k ∈ (ts.map fun t => (t, atK bs t)) ↔ k ∈ bs := fun k => pk.mem_iff
  have nm : nmsK (ts.map fun t => (t, atK bs t)) = ts := by
    rw [nmsK, List.map_map]
    exact List.map_id ts
  rw [goodK_iff]
  refine ⟨⟨by rw [List.length_map]; exact l1, by rw [List.length_map]; exact l2, ?_, fun k m => h.m1 k ((mem k).mp m), fun k m => by have := h.m6 k ((mem k).mp m); omega, fun k m => h.mh k ((mem k).mp m), fun k m => h.f4 k ((mem k).mp m), ?_⟩, ?_, ?_, ?_, ?_⟩
  · intro k m
    obtain ⟨t, mt, rfl⟩ := List.mem_map.mp m
    exact hi t mt
  · intro k m x hx f hf
    exact hi f (h.fi k ((mem k).mp m) x hx f hf)
  · rw [nm]; exact nd
  · have : (mksK (ts.map fun t => (t, atK bs t))).Perm (mksK bs) := List.Perm.flatMap_right _ pk
    exact (this.trans h.mp.symm).nodup_iff.mpr h.nd
  · intro f hf
    rw [nm]
    obtain ⟨k, mk, x, mx, fx⟩ := mem_fds.mp hf
    exact h.fi k ((mem k).mp mk) x mx f fx
  · intro a ma
    rw [nm] at ma
    have := pm.mem_iff.mp ma
    obtain ⟨k, mk, rfl⟩ := List.mem_map.mp this
    obtain ⟨n, hn⟩ := h.pr k mk
    exact prodK_stop (prodK_sub (fun k m => (mem k).mpr m) hn)
/-- what was there before, as it is now -/
def oldH (H H' : DH) : DH := fun a => match H a with
  | none => none
  | some _ => H' a
theorem oldH_some {H H' : DH} {a : Addr} (h : H a ≠ none) : oldH H H' a = H' a := by
  unfold oldH
  cases e : H a with
  | none => exact absurd e h
  | some _ => rfl
theorem oldH_none {H H' : DH} {a : Addr} (h : H a = none) : oldH H H' a = none := by
  unfold oldH
  rw [h]
theorem oldH_sub {H H' : DH} : Sub (oldH H H') H' := fun a o e => by
  cases z : H a with
  | none => rw [oldH_none z] at e; cases e
  | some _ => rw [oldH_some (by rw [z]; exact fun q => nomatch q)] at e; exact e
theorem old_well {H H' : DH} {c l : Addr} {m n : Nat} (h : WellAt c l m H) (h' : WellAt c l n H') (o : ∀ a, H a ≠ none → a ≠ c → a ≠ l → H' a = H a) : WellTo c l n H (oldH H H') := by
  refine ⟨?_, fun a x y => ?_⟩
  · obtain ⟨b, k, ns, h1, h2, h3⟩ := h'
    exact ⟨b, k, ns, by rw [oldH_some h.c_some]; exact h1, by rw [oldH_some h.l_some]; exact h2, h3⟩
  · cases z : H a with
    | none => rw [oldH_none z]
    | some _ =>
      have nz : H a ≠ none := by rw [z]; exact fun q => nomatch q
      rw [oldH_some nz, o a nz x y, z]
theorem range_nth {α : Type} (F : Dv → α) (ds : List Dv) : (List.range ds.length).map (fun i => F (nth ds i)) = ds.map F := by
  apply List.ext_getElem?
  intro i
  rw [List.getElem?_map, List.getElem?_map]
  by_cases h : i < ds.length
  · rw [List.getElem?_range h, List.getElem?_eq_getElem h]
    show some (F (nth ds i)) = some (F ds[i])
    rw [nth, List.getD_eq_getElem?_getD, List.getElem?_eq_getElem h]; rfl
  · rw [List.getElem?_eq_none (by rw [List.length_range]; omega), List.getElem?_eq_none (by omega)]; rfl
theorem getK_atK : ∀ {bs : Knds} {t : Str}, t ∈ nmsK bs → getK (bs.map fun k => Sum.inr k.1) (bs.map fun k => .tup (k.2.map mkD)) (Sum.inr t) = some (.tup ((atK bs t).map mkD))
  | [], _, m => nomatch m
  | b :: bs, t, m => by
    rw [List.map_cons, List.map_cons, getK]
    unfold atK
    by_cases e : b.1 = t
    · rw [if_pos (by rw [e]), List.find?_cons_of_pos (by simpa using e)]
    · rw [if_neg (fun z => e (Sum.inr.inj z)), List.find?_cons_of_neg (by simpa using e)]
      exact getK_atK ((List.mem_cons.mp m).elim (fun z => absurd z.symm e) id)
end DL

set_option maxHeartbeats 4000000
namespace DL
open PySem PySem.Spec L2
open PyProof.Rows hiding St
theorem eqvL_nil (xs : List Dv) : eqvL xs [] = xs.isEmpty := by cases xs <;> rfl
theorem ne_nil {H : DH} {p : Addr} {xs : List Dv} {Q : DVK} (h : H p = some (.lst xs)) (q : Q (.bl (!xs.isEmpty)) H) : fNeA (.ref p) (.lsv []) H Q :=
  ⟨xs, h, fun e => by rw [List.eq_nil_of_length_eq_zero e]; rfl, by rw [eqvL_nil]; exact q⟩
theorem sidx {r : Int} {n : Nat} (h0 : 0 ≤ r) (h1 : r < n) : seqIndex? r n = some r.toNat := by
  unfold seqIndex?
  simp
  omega
theorem erase_map {α β : Type} (f : α → β) (xs : List α) : ∀ j, (xs.map f).eraseIdx j = (xs.eraseIdx j).map f := by
  induction xs with
  | nil => intro j; cases j <;> rfl
  | cons x xs ih => intro j; cases j with
    | zero => rfl
    | succ j => rw [List.map_cons, List.eraseIdx_cons_succ, List.eraseIdx_cons_succ, ih, List.map_cons]
theorem map_get {α : Type} {w : α → Dv} {xs : List α} {j : Nat} (h : j < xs.length) : (xs.map w)[j]? = some (w xs[j]) := by
  rw [List.getElem?_map, List.getElem?_eq_getElem h]; rfl
theorem perm_idx {α : Type} : ∀ {xs : List α} {j : Nat} (h : j < xs.length), (xs[j] :: xs.eraseIdx j).Perm xs
  | x :: xs, 0, _ => List.Perm.refl _
  | x :: xs, j + 1, h => by
    have h' : j < xs.length := by simpa using h
    have ih := perm_idx h'
    show (xs[j] :: x :: xs.eraseIdx j).Perm (x :: xs)
    exact (List.Perm.swap _ _ _).trans (ih.cons x)
theorem cut_from {α : Type} (ds : List α) {r : Int} (h0 : 0 ≤ r) (h1 : r ≤ ds.length) : cutD ds (some r) none = ds.drop r.toNat := by
  have e : HT.sIx ds.length 0 (some r) = r.toNat := by
    have := HT.sIx_nat ds.length 0 r.toNat
    rw [show ((r.toNat : Nat) : Int) = r by omega] at this
    rw [this]; omega
  unfold cutD
  rw [e]
  show (ds.drop r.toNat).take (ds.length - r.toNat) = _
  exact List.take_of_length_le (by rw [List.length_drop]; exact Nat.le_refl _)
theorem cut_to {α : Type} (ds : List α) {r : Int} (h0 : 0 ≤ r) (h1 : r ≤ ds.length) : cutD ds none (some r) = ds.take r.toNat := by
  have e : HT.sIx ds.length ds.length (some r) = r.toNat := by
    have := HT.sIx_nat ds.length ds.length r.toNat
    rw [show ((r.toNat : Nat) : Int) = r by omega] at this
    rw [this]; omega
  unfold cutD
  rw [e]
  show (ds.drop 0).take (r.toNat - 0) = _
  rw [List.drop_zero, Nat.sub_zero]
theorem at_map {α : Type} {w : α → Dv} {xs : List α} {r : Int} (h0 : 0 ≤ r) (h : r.toNat < xs.length) : atI (xs.map w) r = some (w xs[r.toNat]) := by
  rw [← map_get h, ← atI_at]
  congr 1
  omega
theorem empt {α β : Type} (f : α → β) (xs : List α) : (xs.map f).isEmpty = xs.isEmpty := by cases xs <;> rfl
end DL
namespace K21
open PySem PySem.Spec L2 DL
open PyProof.Rows hiding St
theorem rd__law_kinds : ∀ ds H Q, sp__law_kinds ds H Q → td__law_kinds (outD Q) (startD 15 ds) H := by
  rintro ds H Q ⟨c, l, n, m, rfl, hm1, hm2, hW, q⟩
  have s16 := sz16
  refine ⟨Nat.zero_le _, fun p1 h1 => ⟨Nat.zero_le _, fun p2 h2 => fun p3 h3 => ⟨Nat.zero_le _, fun p4 h4 => ⟨le_sz 4 (by decide), rfl, rfl, ?_⟩⟩⟩⟩
  have n12 : p1 ≠ p2 := fun e => by subst e; rw [upD_same] at h2; cases h2
  have g2 : H p2 = none := by rw [upD_ne (Ne.symm n12)] at h2; exact h2
  have n23 : p2 ≠ p3 := fun e => by subst e; rw [upD_same] at h3; cases h3
  have n13 : p1 ≠ p3 := fun e => by subst e; rw [upD_ne n12, upD_same] at h3; cases h3
  have g3 : H p3 = none := by rw [upD_ne (Ne.symm n23), upD_ne (Ne.symm n13)] at h3; exact h3
  have n34 : p3 ≠ p4 := fun e => by subst e; rw [upD_same] at h4; cases h4
  have n24 : p2 ≠ p4 := fun e => by subst e; rw [upD_ne n23, upD_same] at h4; cases h4
  have n14 : p1 ≠ p4 := fun e => by subst e; rw [upD_ne n13, upD_ne n12, upD_same] at h4; cases h4
  have g4 : H p4 = none := by rw [upD_ne (Ne.symm n34), upD_ne (Ne.symm n24), upD_ne (Ne.symm n14)] at h4; exact h4
  have A : KPl c l p1 p2 p3 p4 := ⟨(hW.free h1).1, (hW.free g2).1, (hW.free g3).1, (hW.free g4).1, (hW.free h1).2, (hW.free g2).2, (hW.free g3).2, (hW.free g4).2, n12, n13, n14, n23, n24, n34⟩
  have K0 : KHp H c l p1 p2 p3 p4 (n + 20000) [] [] [] (upD (upD (upD (upD H p1 (.lst [])) p2 (.lst [])) p3 (.dic [] [])) p4 (.lst [])) := by
    refine ⟨(((hW.up A.c1 A.l1).up A.c2 A.l2).up A.c3 A.l3).up A.c4 A.l4, ?_, ?_, ?_, upD_same, fun a x _ _ => ?_⟩
    · rw [upD_ne n14, upD_ne n13, upD_ne n12]; exact upD_same
    · rw [upD_ne n24, upD_ne n23]; exact upD_same
    · rw [upD_ne n34]; exact upD_same
    · rw [upD_ne (fun e => x (by rw [e]; exact g4)), upD_ne (fun e => x (by rw [e]; exact g3)), upD_ne (fun e => x (by rw [e]; exact g2)), upD_ne (fun e => x (by rw [e]; exact h1))]
  revert K0
  generalize upD (upD (upD (upD H p1 (.lst [])) p2 (.lst [])) p3 (.dic [] [])) p4 (.lst []) = H0
  intro K0
  refine ⟨_, rfl, _, rfl, c, l, _, n + 19999, rfl, by omega, by omega, K0.well, fun r1 H1 a1 b1 t1 => ⟨⟨by omega, by omega⟩, ?_⟩⟩
  have K1 := K0.draw A t1
  refine ⟨fun i σ H' => ∃ b6, σ = [some (.ref c), some (.int (m : Nat)), some (.ref p1), some (.ref p2), some (.ref p3), some (.ref p4), b6, none, none, none, none, none, none, none, none] ∧ ∃ ts : List Str, ts.length = i ∧ ts.Nodup ∧ (∀ t ∈ ts, hiS t = true) ∧ KHp H c l p1 p2 p3 p4 (n + 19999 - 20 * i) ts [] [] H',
    ⟨none, rfl, [], rfl, List.nodup_nil, fun _ m => (nomatch m), K1⟩, fun _ _ _ _ _ => trivial, ?_, ?_⟩
  · rintro i σ H' hi ⟨b6, rfl, ts, rfl, nd, hh, K⟩
    have hi : ts.length < (1 + r1).toNat := hi
    refine ⟨_, rfl, ⟨_, K.ti⟩, _, rfl, _, rfl, c, l, n + 19999 - 20 * (ts.length + 1), .ref p1, ts, true, rfl, by omega, hh, .inr ⟨p1, rfl, A.c1, A.l1, K.ti⟩, K.well.le (by omega), fun x H2 x1 x2 t2 => ?_⟩
    have K2 := K.draw A t2
    refine ⟨_, K2.ti, by rw [List.length_map]; omega, _, rfl, ts ++ [x], by rw [List.length_append]; rfl, List.nodup_append.mpr ⟨nd, List.pairwise_singleton _ _, fun a ma b mb => by rw [List.mem_singleton.mp mb]; exact fun e => x2 (e ▸ ma)⟩, fun t mt => ?_, ?_⟩
    · rcases List.mem_append.mp mt with mt | mt
      · exact hh t mt
      · rw [List.mem_singleton.mp mt]; exact x1
    · have := K2.setTi A h1 (ts ++ [x])
      rw [List.map_append] at this
      exact this
  rintro σ H2 ⟨b6, rfl, ts, tl, nd, hh, K⟩
  have tl : ts.length = (1 + r1).toNat := tl
  have K := K.le (show n + 200 * ts.length + 100 ≤ n + 19999 - 20 * (rngD 0 (1 + r1).toNat 1).n by show n + 200 * ts.length + 100 ≤ n + 19999 - 20 * (1 + r1).toNat; omega)
  refine ⟨_, rfl, _, K.ti, fun p5 h5 => ?_⟩
  have some_ne : ∀ {a : Addr} {o : Ob}, H2 a = some o → p5 ≠ a := fun {a o} e z => by rw [← z, h5] at e; cases e
  have g5 : H p5 = none := by
    cases e : H p5 with
    | none => rfl
    | some o =>
      exact absurd h5 (by
        by_cases ec : p5 = c
        · rw [ec]; exact K.well.c_some
        · by_cases el : p5 = l
          · rw [el]; exact K.well.l_some
          · rw [K.old p5 (by rw [e]; exact fun z => nomatch z) ec el, e]; exact fun z => nomatch z)
  have f5 := K.well.free h5
  have e51 := some_ne K.ti
  have e52 := some_ne K.mq
  have e53 := some_ne K.fo
  have e54 := some_ne K.dn
  refine ⟨fun σ H' => ∃ (ls mm : List Str) (bs : Knds) (b6 b8 b9 b10 b11 b12 b13 b14 : Option Dv), σ = [some (.ref c), some (.int (m : Nat)), some (.ref p1), some (.ref p2), some (.ref p3), some (.ref p4), b6, some (.ref p5), b8, b9, b10, b11, b12, b13, b14] ∧
    KHp H c l p1 p2 p3 p4 (n + 200 * ls.length + 100) ts mm bs H' ∧ H' p5 = some (.lst (ls.map .str)) ∧ BsOk ts ls mm bs,
    fun σ H' => match H' p5 with | some (.lst xs) => xs.length | _ => 0,
    ⟨ts, [], [], b6, none, none, none, none, none, none, none, rfl, K.up g5 f5.1 f5.2 e51 e52 e53 e54, upD_same, ?_⟩, ?_⟩
  · exact ⟨by rw [show nmsK ([] : Knds) = [] from rfl, List.append_nil], List.Perm.refl _, List.nodup_nil, fun _ m => (nomatch m), fun _ m => (nomatch m), fun _ m => (nomatch m), fun _ m => (nomatch m), fun _ m => (nomatch m), fun _ m => (nomatch m)⟩
  rintro σ H3 ⟨ls, mm, bs, b6, b8, b9, b10, b11, b12, b13, b14, rfl, K3, h35, B⟩
  refine ⟨_, rfl, Nat.zero_le _, ne_nil h35 ⟨fun e => ?_, fun e => ?_⟩⟩
  · have lp : 0 < ls.length := by
      have := nt e
      rw [empt] at this
      cases ls with
      | nil => cases this
      | cons _ _ => simp
    have lmap : (ls.map Dv.str).length = ls.length := List.length_map _
    refine ⟨_, rfl, ⟨_, h35⟩, _, rfl, _, rfl, _, h35, c, l, _, n + 200 * ls.length + 99, rfl, by rw [lmap]; omega, by rw [lmap]; have := (B.pm.length_eq); rw [List.length_append] at this; omega, K3.well, fun r4 H4 a4 b4 t4 => ?_⟩
    rw [lmap] at b4
    have K4 := K3.draw A t4
    have h45 : H4 p5 = some (.lst (ls.map .str)) := by rw [t4.2 p5 f5.1 f5.2]; exact h35
    have hj : r4.toNat < ls.length := by omega
    refine ⟨_, r4.toNat, .str ls[r4.toNat], h45, by omega, by have := (B.pm.length_eq); rw [List.length_append] at this; omega, by rw [lmap]; exact sidx a4 b4, map_get hj, Nat.zero_le _, fun p6 h6 => ⟨rfl, ?_⟩⟩
    have n56 : p5 ≠ p6 := fun e => by subst e; rw [upD_same] at h6; cases h6
    have h46 : H4 p6 = none := by rw [upD_ne (Ne.symm n56)] at h6; exact h6
    have f6 := K4.well.free h46
    have ne6 : ∀ {a : Addr} {o : Ob}, H4 a = some o → p6 ≠ a := fun {a o} e z => by rw [← z, h46] at e; cases e
    have g6 : H p6 = none := by
      cases e : H p6 with
      | none => rfl
      | some o =>
        have := K4.old p6 (by rw [e]; exact fun z => nomatch z) f6.1 f6.2
        rw [e, h46] at this; cases this
    have e61 := ne6 K4.ti
    have e62 := ne6 K4.mq
    have e63 := ne6 K4.fo
    have e64 := ne6 K4.dn
    rw [erase_map]
    have tin : ls[r4.toNat] ∈ ts := B.pm.mem_iff.mpr (List.mem_append_left _ (List.getElem_mem hj))
    have prm := perm_idx hj
    have B' : BsOk ts (ls[r4.toNat] :: ls.eraseIdx r4.toNat) mm bs := { B with pm := B.pm.trans (prm.symm.append_right _) }
    have le' : (ls.eraseIdx r4.toNat).length + 1 = ls.length := by have := prm.length_eq; simpa using this
    have tnb : ls[r4.toNat] ∉ nmsK bs := by
      have := B'.pm.nodup_iff.mp nd
      rw [List.cons_append, List.nodup_cons] at this
      exact fun z => this.1 (List.mem_append_right _ z)
    revert tin B' le' tnb
    generalize ls[r4.toNat] = tt
    generalize ls.eraseIdx r4.toNat = ls'
    intro tin B' le' tnb
    have K5 := (K4.up (p := p5) (o := .lst (ls'.map .str)) g5 f5.1 f5.2 e51 e52 e53 e54).up (p := p6) (o := .lst []) g6 f6.1 f6.2 e61 e62 e63 e64
    have h55 : upD (upD H4 p5 (.lst (ls'.map .str))) p6 (.lst []) p5 = some (.lst (ls'.map .str)) := by rw [upD_ne n56]; exact upD_same
    have h56 : upD (upD H4 p5 (.lst (ls'.map .str))) p6 (.lst []) p6 = some (.lst []) := upD_same
    revert K5 h55 h56
    generalize upD (upD H4 p5 (.lst (ls'.map .str))) p6 (.lst []) = H5
    intro K5 h55 h56
    refine ⟨_, rfl, le_sz 3 (by decide), _, rfl, c, l, _, n + 200 * ls.length + 98, rfl, by decide, by decide, K5.well, fun r5 H6 a5 b5 t5 => ix_any a5 b5 fun v hv => ?_⟩
    obtain ⟨v, rfl, v0, v1⟩ : ∃ k : Int, v = .int k ∧ 0 < k ∧ k ≤ 6 := by
      simp only [List.mem_cons, List.not_mem_nil, or_false] at hv
      rcases hv with rfl | rfl | rfl <;> exact ⟨_, rfl, by decide, by decide⟩
    refine ⟨c, l, v, n + 200 * ls.length + 97, rfl, v0, by omega, t5.1, fun r6 H7 a6 b6 t6 => ⟨⟨by omega, by omega⟩, ?_⟩⟩
    have k5 : ∀ {Ha Hb : DH} {k : Nat} {o : Option Ob}, WellTo c l k Ha Hb → Ha p5 = o → Hb p5 = o := fun t e => by rw [t.2 p5 f5.1 f5.2]; exact e
    have k6 : ∀ {Ha Hb : DH} {k : Nat} {o : Option Ob}, WellTo c l k Ha Hb → Ha p6 = o → Hb p6 = o := fun t e => by rw [t.2 p6 f6.1 f6.2]; exact e
    have K7 := (K5.draw A t5).draw A t6
    have h75 := k5 t6 (k5 t5 h55)
    have h76 := k6 t6 (k6 t5 h56)
    have mml : mm.length ≤ 360 := by
      have e1 := B.mp.length_eq
      have e2 : ∀ l : Knds, (∀ k ∈ l, k.2.length ≤ 6) → (mksK l).length ≤ 6 * l.length := by
        intro l
        induction l with
        | nil => intro _; exact Nat.le_refl _
        | cons k l ih =>
          intro h
          have := ih fun k m => h k (List.mem_cons_of_mem _ m)
          have := h k List.mem_cons_self
          have e : mksK (k :: l) = k.2.map (·.1) ++ mksK l := List.flatMap_cons ..
          rw [e, List.length_append, List.length_map, List.length_cons]
          omega
      have := e2 bs B.m6
      have e3 := B.pm.length_eq
      rw [List.length_append, List.length_map] at e3
      omega
    have mmh : ∀ t ∈ mm, hiS t = true := fun t mt => by
      obtain ⟨k, mk, x, mx, rfl⟩ := mem_mks.mp (B.mp.mem_iff.mp mt)
      exact B.mh k mk x mx
    refine ⟨fun i σ H' => ∃ (b6 b10 b11 b12 b13 b14 : Option Dv), σ = [some (.ref c), some (.int (m : Nat)), some (.ref p1), some (.ref p2), some (.ref p3), some (.ref p4), b6, some (.ref p5), some (.str tt), some (.ref p6), b10, b11, b12, b13, b14] ∧ ∃ ms : List Mk, ms.length = i ∧
      KHp H c l p1 p2 p3 p4 (n + 200 * ls.length + 97 - 26 * i) ts (mm ++ ms.map (·.1)) bs H' ∧ H' p5 = some (.lst (ls'.map .str)) ∧ H' p6 = some (.lst (ms.map mkD)) ∧ MkOk ts (nmsK bs) mm ms,
      ⟨_, _, _, _, _, _, rfl, [], rfl, ?_, h75, h76, ?_⟩, fun _ _ _ _ _ => trivial, ?_, ?_⟩
    · rw [List.map_nil, List.append_nil]; exact K7
    · exact ⟨by rw [List.map_nil, List.append_nil]; exact B.nd, fun _ m => (nomatch m), fun _ m => (nomatch m), fun _ m => (nomatch m), fun e => absurd rfl e⟩
    · rintro i σ H' hi ⟨b6, b10, b11, b12, b13, b14, rfl, ms, rfl, Ki, hi5, hi6, O⟩
      have hi : ms.length < (1 + r6).toNat := hi
      have hi6' : ms.length ≤ 5 := by omega
      have nmh : ∀ t ∈ mm ++ ms.map (·.1), nmS true t = true := fun t mt => by
        rcases List.mem_append.mp mt with mt | mt
        · exact mmh t mt
        · obtain ⟨x, mx, rfl⟩ := List.mem_map.mp mt
          exact O.hi x mx
      have nml : (mm ++ ms.map (·.1)).length ≤ 366 := by rw [List.length_append, List.length_map]; omega
      refine ⟨_, rfl, _, rfl, c, l, n + 200 * ls.length + 97 - 26 * ms.length - 20, .ref p2, mm ++ ms.map (·.1), true, rfl, by omega, nmh, .inr ⟨p2, rfl, A.c2, A.l2, Ki.mq⟩, Ki.well.le (by omega), fun x Ha x1 x2 ta => ?_⟩
      have Ka := Ki.draw A ta
      have ha5 := k5 ta hi5
      have ha6 := k6 ta hi6
      have hk : ((rngD 0 (1 + r6).toNat 1).f ms.length) = .int (ms.length : Nat) := by show Dv.int (0 + ((ms.length : Nat) : Int) * 1) = _; rw [Int.zero_add, Int.mul_one]
      rw [hk]
      refine ⟨fun σ H' => ∃ (y : Str) (b11 b12 b13 b14 : Option Dv), σ = [some (.ref c), some (.int (m : Nat)), some (.ref p1), some (.ref p2), some (.ref p3), some (.ref p4), some (.int (ms.length : Nat)), some (.ref p5), some (.str tt), some (.ref p6), some (.str y), b11, b12, b13, b14] ∧ hiS y = true ∧ y ∉ mm ++ ms.map (·.1) ∧
        KHp H c l p1 p2 p3 p4 (n + 200 * ls.length + 97 - 26 * ms.length - 21) ts (mm ++ ms.map (·.1)) bs H' ∧ H' p5 = some (.lst (ls'.map .str)) ∧ H' p6 = some (.lst (ms.map mkD)), ?_, ?_⟩
      · refine ⟨_, rfl, _, rfl, tk_in (ts := mm ++ ms.map (·.1)) (c := c) (l := l) (.inr ⟨p2, rfl, A.c2, A.l2, Ka.mq⟩) ⟨fun e => ?_, fun e => ⟨fun e => (nomatch e), fun _ => ⟨x, _, _, _, _, rfl, x1, x2, Ka.le (by omega), ha5, ha6⟩⟩⟩⟩
        have tn : tt ∉ mm ++ ms.map (·.1) := of_decide_eq_false (nt e)
        refine ⟨_, rfl, c, l, _, n + 200 * ls.length + 97 - 26 * ms.length - 21, rfl, by decide, by decide, Ka.well.le (by omega), fun r Hb a b tb => ⟨rfl, fun _ => ⟨_, rfl, tt, _, _, _, _, rfl, hh tt tin, tn, Ka.draw A tb, k5 tb ha5, k6 tb ha6⟩, fun _ => ⟨x, _, _, _, _, rfl, x1, x2, Ka.draw A tb, k5 tb ha5, k6 tb ha6⟩⟩⟩
      · rintro σ Hb ⟨y, b11, b12, b13, b14, rfl, y1, y2, Kb, hb5, hb6⟩
        have Kc := Kb.setMk A g2 ((mm ++ ms.map (·.1)) ++ [y])
        have hc5 : upD Hb p2 (.lst (((mm ++ ms.map (·.1)) ++ [y]).map .str)) p5 = some (.lst (ls'.map .str)) := by rw [upD_ne e52]; exact hb5
        have hc6 : upD Hb p2 (.lst (((mm ++ ms.map (·.1)) ++ [y]).map .str)) p6 = some (.lst (ms.map mkD)) := by rw [upD_ne e62]; exact hb6
        refine ⟨_, rfl, ⟨_, Kb.mq⟩, _, rfl, _, Kb.mq, by rw [List.length_map]; omega, ?_⟩
        rw [show (mm ++ ms.map (·.1)).map Dv.str ++ [.str y] = ((mm ++ ms.map (·.1)) ++ [y]).map .str by rw [List.map_append (l₂ := [y])]; rfl]
        revert Kc hc5 hc6
        generalize upD Hb p2 (.lst (((mm ++ ms.map (·.1)) ++ [y]).map .str)) = Hc
        intro Kc hc5 hc6
        obtain ⟨sp, ss, hat, sc, sl, hsp, sts, ssl, sfi⟩ : ∃ (sp : Addr) (ss : List Str), atI [Dv.ref p1, .ref p4] (if eqv (.int (ms.length : Nat)) (.int 0) = true then 1 else 0) = some (.ref sp) ∧ sp ≠ c ∧ sp ≠ l ∧ Hc sp = some (.lst (ss.map .str)) ∧ (∀ f ∈ ss, f ∈ ts) ∧ ss.length ≤ 60 ∧ (ms = [] → ∀ f ∈ ss, f ∈ nmsK bs) := by
          have le0 := B.pm.length_eq
          rw [List.length_append] at le0
          by_cases z : ms = []
          · subst z
            exact ⟨p4, nmsK bs, atI_1, A.c4, A.l4, Kc.dn, fun f mf => B.pm.mem_iff.mpr (List.mem_append_right _ mf), by omega, fun _ f mf => mf⟩
          · have : eqv (.int (ms.length : Nat)) (.int 0) = false := by
              show (((ms.length : Nat) : Int) == 0) = false
              rw [beq_eq_false_iff_ne]
              have := List.length_pos_iff.mpr z
              omega
            rw [this]
            exact ⟨p1, ts, atI_0, A.c1, A.l1, Kc.ti, fun f mf => mf, by omega, fun e => absurd e z⟩
        refine ⟨_, rfl, _, rfl, le_sz 2 (by decide), _, rfl, rfl, _, hat, le_sz 6 (by decide), _, rfl, c, l, _, n + 200 * ls.length + 97 - 26 * ms.length - 22, rfl, by decide, by decide, Kc.well.le (by omega), fun rd Hd ad bd td => ix_any ad bd fun w hw => ?_⟩
        obtain ⟨w, rfl, w0, w1⟩ : ∃ k : Int, w = .int k ∧ 0 ≤ k ∧ k ≤ 4 := by
          simp only [List.mem_cons, List.not_mem_nil, or_false] at hw
          rcases hw with rfl | rfl | rfl | rfl | rfl | rfl <;> exact ⟨_, rfl, by decide, by decide⟩
        have Kd := Kc.draw A td
        have hd5 := k5 td hc5
        have hd6 := k6 td hc6
        have hds : Hd sp = some (.lst (ss.map .str)) := by rw [td.2 sp sc sl]; exact hsp
        -- the maker is put in
        have last : ∀ (fs : List Str) (He : DH), (∀ f ∈ fs, f ∈ ss) → fs.length ≤ 4 → WellTo c l (n + 200 * ls.length + 97 - 26 * ms.length - 26) Hd He → fAppend (.ref p6) [mkD (y, fs)] He fun _ H' => ∃ (e6 e10 e11 e12 e13 e14 : Option Dv), [some (.ref c), some (.int (m : Nat)), some (.ref p1), some (.ref p2), some (.ref p3), some (.ref p4), some (.int (ms.length : Nat)), some (.ref p5), some (.str tt), some (.ref p6), some (.str y), some (.ref sp), some (.int w), b13, b14] = [some (.ref c), some (.int (m : Nat)), some (.ref p1), some (.ref p2), some (.ref p3), some (.ref p4), e6, some (.ref p5), some (.str tt), some (.ref p6), e10, e11, e12, e13, e14] ∧ ∃ ms' : List Mk, ms'.length = ms.length + 1 ∧
            KHp H c l p1 p2 p3 p4 (n + 200 * ls.length + 97 - 26 * (ms.length + 1)) ts (mm ++ ms'.map (·.1)) bs H' ∧ H' p5 = some (.lst (ls'.map .str)) ∧ H' p6 = some (.lst (ms'.map mkD)) ∧ MkOk ts (nmsK bs) mm ms' := by
          intro fs He hf hl te
          have Ke := (Kd.draw A te).up (p := p6) (o := .lst (ms.map mkD ++ [mkD (y, fs)])) g6 f6.1 f6.2 e61 e62 e63 e64
          have em : mm ++ (ms ++ [(y, fs)]).map (·.1) = (mm ++ ms.map (·.1)) ++ [y] := by rw [List.map_append, List.append_assoc]; rfl
          refine ⟨_, k6 te hd6, by rw [List.length_map]; omega, _, _, _, _, _, _, rfl, ms ++ [(y, fs)], by rw [List.length_append]; rfl, ?_, ?_, ?_, ?_⟩
          · rw [em]; exact Ke.le (by omega)
          · rw [upD_ne n56]; exact k5 te hd5
          · rw [upD_same, List.map_append]; rfl
          · refine ⟨?_, ?_, ?_, ?_, ?_⟩
            · rw [em]; exact List.nodup_append.mpr ⟨O.nd, List.pairwise_singleton _ _, fun a ma b mb => by rw [List.mem_singleton.mp mb]; exact fun e => y2 (e ▸ ma)⟩
            · intro k mk
              rcases List.mem_append.mp mk with mk | mk
              · exact O.hi k mk
              · rw [List.mem_singleton.mp mk]; exact y1
            · intro k mk
              rcases List.mem_append.mp mk with mk | mk
              · exact O.f4 k mk
              · rw [List.mem_singleton.mp mk]; exact hl
            · intro k mk f mf
              rcases List.mem_append.mp mk with mk | mk
              · exact O.fi k mk f mf
              · rw [List.mem_singleton.mp mk] at mf; exact sts f (hf f mf)
            · intro _
              by_cases z : ms = []
              · exact ⟨(y, fs), List.mem_append_right _ (List.mem_singleton.mpr rfl), fun f mf => sfi z f (hf f mf)⟩
              · obtain ⟨k, mk, h⟩ := O.first z
                exact ⟨k, List.mem_append_left _ mk, h⟩
        refine ⟨le_sz 2 (by decide), rfl, rfl, ?_⟩
        refine ⟨_, rfl, ⟨_, hd6⟩, _, rfl, _, rfl, Nat.zero_le _, ne_nil hds ⟨fun e => ?_, fun e => ?_⟩⟩
        · have sp0 : 0 < ss.length := by
            have := nt e
            rw [empt] at this
            cases ss with
            | nil => cases this
            | cons _ _ => simp
          have sm : (ss.map Dv.str).length = ss.length := List.length_map _
          refine ⟨_, rfl, ⟨by omega, by omega⟩, fun j acc H' => ∃ fs : List Str, acc = fs.map .str ∧ fs.length = j ∧ (∀ f ∈ fs, f ∈ ss) ∧ WellTo c l (n + 200 * ls.length + 97 - 26 * ms.length - 22 - j) Hd H', ⟨[], rfl, rfl, fun _ m => (nomatch m), Kd.well.self⟩, fun _ _ _ _ _ => trivial, ?_, ?_⟩
          · rintro j acc H' hj ⟨fs, rfl, rfl, hf, tf⟩
            have hj : fs.length < w.toNat := hj
            have hs' : H' sp = some (.lst (ss.map .str)) := by rw [tf.2 sp sc sl]; exact hds
            refine ⟨fun _ => ⟨_, rfl, _, rfl, _, rfl, _, hs', c, l, _, n + 200 * ls.length + 97 - 26 * ms.length - 22 - (fs.length + 1), rfl, by rw [sm]; omega, ?_, tf.1.le (by omega), fun r Hf a b t => ?_⟩, fun e => (nomatch e)⟩
            · rw [sm]; omega
            · rw [sm] at b
              have hr : r.toNat < ss.length := by omega
              refine ⟨_, .str ss[r.toNat], by rw [t.2 sp sc sl]; exact hs', ?_, by rw [List.length_map]; omega, fs ++ [ss[r.toNat]], by rw [List.map_append]; rfl, by rw [List.length_append]; rfl, fun f mf => ?_, tf.trans t⟩
              · exact at_map a hr
              · rcases List.mem_append.mp mf with mf | mf
                · exact hf f mf
                · rw [List.mem_singleton.mp mf]; exact List.getElem_mem hr
          · rintro acc He ⟨fs, rfl, fl, hf, tf⟩
            have fl : fs.length = w.toNat := fl
            exact ⟨le_sz 2 (by decide), last fs He hf (by omega) (tf.le (by show _ ≤ _ - (rngD 0 w.toNat 1).n; show _ ≤ _ - w.toNat; omega))⟩
        · exact ⟨Nat.zero_le _, le_sz 2 (by decide), last [] Hd (fun _ m => (nomatch m)) (Nat.zero_le _) (Kd.well.self.le (by omega))⟩
    · rintro σ He ⟨b6, b10, b11, b12, b13, b14, rfl, ms, ml, Ke, he5, he6, O⟩
      have ml : ms.length = (1 + r6).toNat := ml
      have l1 : 1 ≤ ms.length := by omega
      have l6 : ms.length ≤ 6 := by omega
      have Ke := Ke.le (show n + 200 * ls.length - 61 ≤ n + 200 * ls.length + 97 - 26 * (rngD 0 (1 + r6).toNat 1).n by show _ ≤ n + 200 * ls.length + 97 - 26 * (1 + r6).toNat; omega)
      have lm : (ms.map mkD).length = ms.length := List.length_map _
      refine ⟨_, rfl, _, rfl, _, he6, c, l, _, n + 200 * ls.length - 62, rfl, by rw [lm]; omega, by rw [lm]; omega, Ke.well.le (by omega), fun r7 Hf a7 b7 t7 => ?_⟩
      rw [lm] at b7
      have Kf := Ke.draw A t7
      have hf5 := k5 t7 he5
      have hf6 := k6 t7 he6
      have c1 := cut_from (ms.map mkD) (r := r7) a7 (by rw [lm]; omega)
      have c2 := cut_to (ms.map mkD) (r := r7) a7 (by rw [lm]; omega)
      have c3 : cutD (ms.map mkD) (some r7) none ++ cutD (ms.map mkD) none (some r7) = (ms.drop r7.toNat ++ ms.take r7.toNat).map mkD := by
        rw [c1, c2, List.map_append, List.map_drop, List.map_take]
      have pm : (ms.drop r7.toNat ++ ms.take r7.toNat).Perm ms := by
        have := List.perm_append_comm (l₁ := ms.drop r7.toNat) (l₂ := ms.take r7.toNat)
        rwa [List.take_append_drop] at this
      refine ⟨_, rfl, _, rfl, _, hf6, _, rfl, _, rfl, _, hf6, by rw [c1, c2, List.length_drop, List.length_take, lm]; omega, ?_⟩
      rw [c3]
      revert pm c3
      generalize ms.drop r7.toNat ++ ms.take r7.toNat = ms'
      intro c3 pm
      have hk : hasK (bs.map fun k => Sum.inr k.1) (Sum.inr tt) = false := by
        have : (bs.map fun k => (Sum.inr k.1 : Key)) = (nmsK bs).map Sum.inr := by rw [List.map_map]; rfl
        rw [this, hasK_str]
        exact decide_eq_false tnb
      have e1 : putKs (bs.map fun k => Sum.inr k.1) (Sum.inr tt) = ((bs ++ [(tt, ms')]).map fun k => Sum.inr k.1) := by
        unfold putKs; rw [hk, List.map_append]; rfl
      have e2 : putDs (bs.map fun k => Sum.inr k.1) (bs.map fun k => .tup (k.2.map mkD)) (Sum.inr tt) (.tup (ms'.map mkD)) = ((bs ++ [(tt, ms')]).map fun k => .tup (k.2.map mkD)) := by
        unfold putDs; rw [hk, List.map_append]; rfl
      have e3 : (nmsK bs).map Dv.str ++ [.str tt] = (nmsK (bs ++ [(tt, ms')])).map .str := by
        have : nmsK (bs ++ [(tt, ms')]) = nmsK bs ++ [tt] := List.map_append
        rw [this, List.map_append]; rfl
      have bl : bs.length ≤ 60 := by
        have := B.pm.length_eq
        rw [List.length_append, List.length_map] at this
        omega
      refine ⟨_, rfl, _, rfl, _, _, _, Kf.fo, rfl, by rw [List.length_map]; omega, ?_⟩
      rw [e1, e2]
      refine ⟨_, rfl, ⟨_, by rw [upD_ne (Ne.symm A.n34)]; exact Kf.dn⟩, _, rfl, _, by rw [upD_ne (Ne.symm A.n34)]; exact Kf.dn, by rw [List.length_map, List.length_map]; omega, ?_⟩
      rw [e3]
      have Kg := Kf.setBs A g3 g4 (bs ++ [(tt, ms')])
      refine ⟨⟨ls', mm ++ ms.map (·.1), bs ++ [(tt, ms')], _, _, _, _, _, _, _, _, rfl, Kg.le (by omega), by rw [upD_ne e54, upD_ne e53]; exact hf5, B'.add O l1 l6 pm⟩, ?_⟩
      show (match (upD (upD Hf p3 _) p4 _) p5 with | some (.lst xs) => xs.length | _ => 0) < (match H3 p5 with | some (.lst xs) => xs.length | _ => 0)
      rw [upD_ne e54, upD_ne e53, hf5, h35]
      show (ls'.map Dv.str).length < (ls.map Dv.str).length
      rw [List.length_map, List.length_map]
      omega
  · have e : ls = [] := by
      have := nf e
      rw [empt] at this
      exact List.isEmpty_iff.mp this
    subst e
    have l1 : 1 ≤ ts.length := by omega
    have l2 : ts.length ≤ m := by omega
    have good := B.good nd hh l1 (by omega)
    have nb : (nmsK bs).Nodup := (show ts.Perm (nmsK bs) from B.pm).nodup_iff.mp nd
    refine ⟨_, rfl, ?_⟩
    refine ⟨_, K3.ti, lc_map (f := fun i => kdD (DL.strOf (nth (ts.map .str) i), atK bs (DL.strOf (nth (ts.map .str) i)))) ?_ K3.ti ?_ ?_⟩
    · show (ts.map Dv.str).length ≤ _
      rw [List.length_map]; omega
    · intro i N hi hN
      have hi : i < ts.length := by have : i < (ts.map Dv.str).length := hi; rwa [List.length_map] at this
      show dgName 8 (nth (ts.map .str) i) _ _ _
      rw [nth_map hi] at hN ⊢
      have mt : ts[i] ∈ nmsK bs := (show ts.Perm (nmsK bs) from B.pm).mem_iff.mp (List.getElem_mem hi)
      exact ⟨_, rfl, _, rfl, _, rfl, _, _, K3.fo, _, _, rfl, getK_atK mt, le_sz 2 (by decide), hN⟩
    · have e : (List.range (ts.map Dv.str).length).map (fun i => kdD (DL.strOf (nth (ts.map .str) i), atK bs (DL.strOf (nth (ts.map .str) i)))) = (ts.map fun t => (t, atK bs t)).map kdD := by
        rw [range_nth (fun d => kdD (DL.strOf d, atK bs (DL.strOf d))), List.map_map, List.map_map]
        rfl
      show (outD Q).rt (.tup ((List.range (ts.map Dv.str).length).map _)) _
      rw [e]
      exact ⟨oldH H H3, oldH_sub, q (ts.map fun t => (t, atK bs t)) _ good (by rw [List.length_map]; exact l2) (old_well hW (K3.well.le (show n ≤ n + 200 * ([] : List Str).length + 100 by simp)) K3.old)⟩
end K21

set_option maxHeartbeats 4000000
namespace DL
open PySem PySem.Spec L2
open PyProof.Rows hiding St
theorem SGN_mem {c : Nat} : decide (c ∈ sg SGN) = runC c := by
  have e : sg SGN = sg "abcdefghijklmnopqrstuvwxyz" ++ sg "ABCDEFGHIJKLMNOPQRSTUVWXYZ" ++ sg "0123456789" := by decide +kernel
  rw [e, Bool.eq_iff_iff, decide_eq_true_eq, List.mem_append, List.mem_append]
  unfold runC
  rw [Bool.or_eq_true, Bool.or_eq_true, ← mem_low, ← mem_upp, ← mem_dig, decide_eq_true_eq, decide_eq_true_eq, decide_eq_true_eq]
theorem upp_low : Txt.upper "abcdefghijklmnopqrstuvwxyz" = "ABCDEFGHIJKLMNOPQRSTUVWXYZ" := by decide +kernel
theorem nmD_hi (d : Dv) : nmD true d = hiD d := by
  cases d with
  | str x =>
    show (nmS true x && decide (x ∉ WRD)) = hiS x
    have e : nmS true x = hiS x := rfl
    rw [e]
    cases h : hiS x with
    | false => rfl
    | true =>
      have : x ∉ WRD := fun m => by
        have := (WRD_lo x m).1
        simp only [hiS, loS, upC, loC, Bool.and_eq_true, decide_eq_true_eq] at h this
        omega
      rw [decide_eq_true this]; rfl
  | _ => rfl
theorem nmS_eq (hi : Bool) (x : Str) : nmS hi x = (decide (1 ≤ x.length ∧ x.length < 11) && (if hi = true then upC ((sg x).headD 0) else loC ((sg x).headD 0)) && (sg x).all runC) := by
  have e : (decide (1 ≤ x.length) && decide (x.length ≤ 10)) = decide (1 ≤ x.length ∧ x.length < 11) := by
    rw [Bool.eq_iff_iff]; simp; omega
  cases hi with
  | true => show hiS x = _; unfold hiS; rw [e]; rfl
  | false => show loS x = _; unfold loS; rw [e]; rfl
end DL
namespace K21
open PySem PySem.Spec L2 DL
open PyProof.Rows hiding St
theorem rd__law_is_name : ∀ ds H Q, sp__law_is_name ds H Q → td__law_is_name (outD Q) (startD 4 ds) H := by
  rintro ds H Q ⟨d, hi, rfl, h, q⟩
  have fin := rd_bl q
  have s16 := sz16
  refine ⟨_, rfl, okK_ofI h.okI, ?_⟩
  cases d with
  | str x =>
    have hx := h.strLen
    have W := in_strs (ts := WRD) (x := x)
    have eI : (decide ((1 : Int) ≤ (x.length : Nat) ∧ ((x.length : Nat) : Int) < 11)) = decide (1 ≤ x.length ∧ x.length < 11) := by
      rw [Bool.eq_iff_iff]; simp; omega
    have no : nmS hi x = false → false = nmD hi (.str x) := fun e => by
      show false = (nmS hi x && _)
      rw [e]; rfl
    refine ⟨fun e => (nomatch e), fun _ => ⟨_, rfl, by omega, ?_⟩⟩
    refine ⟨fun e => ⟨fun _ => fin _ (no (by rw [nmS_eq, ← eI, nt e]; rfl)), fun e => (nomatch e)⟩, fun e => ⟨_, rfl, le_sz 6 (by decide), W.1, ?_⟩⟩
    have e1 : decide (1 ≤ x.length ∧ x.length < 11) = true := by rw [← eI]; exact nf e
    have l1 := of_decide_eq_true e1
    rw [show (([Dv.str "kind", .str "letters", .str "none", .str "start", .str "state", .str "words"] : List Dv).any fun d => eqv d (.str x)) = decide (x ∈ WRD) from W.2]
    refine ⟨fun e => fin _ (by show false = (_ && decide (x ∉ WRD)); rw [decide_eq_false (fun z => z (of_decide_eq_true e)), Bool.and_false]), fun e2 => ?_⟩
    have nw : decide (x ∉ WRD) = true := decide_eq_true (of_decide_eq_false e2)
    obtain ⟨z, hz, mz⟩ : ∃ z : Str, atI [Dv.str "abcdefghijklmnopqrstuvwxyz", .str (Txt.upper "abcdefghijklmnopqrstuvwxyz")] (if hi = true then 1 else 0) = some (.str z) ∧ decide ((sg x).headD 0 ∈ sg z) = (if hi = true then upC ((sg x).headD 0) else loC ((sg x).headD 0)) := by
      cases hi with
      | true => exact ⟨_, atI_1, by rw [upp_low]; exact mem_upp⟩
      | false => exact ⟨_, atI_0, mem_low⟩
    refine ⟨_, rfl, _, by omega, at0 l1.1, _, rfl, _, rfl, by decide +kernel, le_sz 2 (by decide), _, rfl, _, hz, _, rfl, ?_⟩
    rw [mz]
    refine ⟨fun e => fin _ (no (by rw [nmS_eq, nt e, Bool.and_false]; rfl)), fun e => ?_⟩
    have e3 := nf e
    refine ⟨_, rfl, lc_map (f := fun i => .bl (runC ((sg x).getD i 0))) (by show x.length ≤ _; omega) trivial ?_ ?_⟩
    · intro i N hi hN
      refine ⟨_, rfl, _, rfl, _, rfl, by decide +kernel, by decide +kernel, by decide +kernel, _, rfl, ?_⟩
      have e : decide ((sg x).getD i 0 ∈ sg SGN) = runC ((sg x).getD i 0) := SGN_mem
      rw [← e] at hN
      exact hN
    · refine ⟨(List.range x.length).map fun i => runC ((sg x).getD i 0), by rw [List.map_map]; rfl, ?_⟩
      rw [all_signs]
      exact fin _ (by show _ = (nmS hi x && decide (x ∉ WRD)); rw [nw, nmS_eq, e1, e3]; simp)
  | _ => exact ⟨fun _ => ⟨fun _ => fin _ rfl, fun e => (nomatch e)⟩, fun e => (nomatch e)⟩
end K21

set_option maxHeartbeats 4000000
namespace DL
open PySem PySem.Spec L2
open PyProof.Rows hiding St
/-! ## the law's way of judging kinds -/
def a0 (d : Dv) : Dv := nth (itemsOf d) 0
def i1 (d : Dv) : List Dv := itemsOf (nth (itemsOf d) 1)
def shM (d : Dv) : Bool := match d with
  | .tup [_, .tup fs] => decide (fs.length ≤ 4)
  | _ => false
def shK (d : Dv) : Bool := match d with
  | .tup [_, .tup ms] => decide (1 ≤ ms.length) && decide (ms.length ≤ 8) && ms.all shM
  | _ => false
theorem shM_of {d : Dv} (h : fmM d = true) : shM d = true := by
  unfold fmM at h
  split at h
  · simp only [Bool.and_eq_true] at h
    exact h.1.2
  · cases h
theorem shK_of {d : Dv} (h : fmK d = true) : shK d = true := by
  unfold fmK at h
  split at h
  · simp only [Bool.and_eq_true] at h
    unfold shK
    simp only [Bool.and_eq_true]
    exact ⟨⟨h.1.1.2, h.1.2⟩, List.all_eq_true.mpr fun d m => shM_of (List.all_eq_true.mp h.2 d m)⟩
  · cases h
/-- the form is the shape, and the names -/
theorem fmM_sh {d : Dv} (h : shM d = true) : fmM d = (hiD (a0 d) && (i1 d).all hiD) := by
  unfold shM at h
  split at h
  · rename_i a fs
    show (hiD a && decide (fs.length ≤ 4) && fs.all hiD) = (hiD a && fs.all hiD)
    rw [h, Bool.and_true]
  · cases h
theorem fmK_sh {d : Dv} (h : shK d = true) : fmK d = (hiD (a0 d) && (i1 d).all fmM) := by
  unfold shK at h
  split at h
  · rename_i a ms
    simp only [Bool.and_eq_true] at h
    show (hiD a && decide (1 ≤ ms.length) && decide (ms.length ≤ 8) && ms.all fmM) = (hiD a && ms.all fmM)
    rw [h.1.1, h.1.2, Bool.and_true, Bool.and_true]
  · cases h
abbrev tiX (xs : List Dv) : List Dv := xs.map a0
abbrev mkX (xs : List Dv) : List Dv := xs.flatMap fun k => (i1 k).map a0
abbrev fdX (xs : List Dv) : List Dv := xs.flatMap fun k => (i1 k).flatMap i1
theorem shK_ms {k : Dv} (h : shK k = true) : (i1 k).all shM = true ∧ (i1 k).length ≤ 8 := by
  unfold shK at h
  split at h
  · simp only [Bool.and_eq_true, decide_eq_true_eq] at h
    exact ⟨h.2, h.1.2⟩
  · cases h
theorem shM_fs {k : Dv} (h : shM k = true) : (i1 k).length ≤ 4 := by
  unfold shM at h
  split at h
  · exact of_decide_eq_true h
  · cases h
/-- all names and all fields are right: the form is -/
theorem form_sh {xs : List Dv} (h : xs.all shK = true) : xs.all fmK = ((tiX xs ++ mkX xs).all hiD && (fdX xs).all hiD) := by
  have e : ∀ ms : List Dv, ms.all shM = true → ms.all fmM = ((ms.map a0).all hiD && (ms.flatMap i1).all hiD) := by
    intro ms
    induction ms with
    | nil => intro _; rfl
    | cons m ms ih =>
      intro h
      rw [List.all_cons, Bool.and_eq_true] at h
      rw [List.all_cons, fmM_sh h.1, ih h.2, List.map_cons, List.all_cons, List.flatMap_cons, List.all_append]
      cases hiD (a0 m) <;> cases (i1 m).all hiD <;> cases (ms.map a0).all hiD <;> simp
  induction xs with
  | nil => rfl
  | cons k xs ih =>
    rw [List.all_cons, Bool.and_eq_true] at h
    have ih := ih h.2
    rw [List.all_cons, fmK_sh h.1, ih, e _ (shK_ms h.1).1]
    show _ = ((a0 k :: (tiX xs) ++ ((i1 k).map a0 ++ mkX xs)).all hiD && (((i1 k).flatMap i1) ++ fdX xs).all hiD)
    simp only [List.cons_append, List.all_cons, List.all_append]
    cases hiD (a0 k) <;> cases ((i1 k).map a0).all hiD <;> cases ((i1 k).flatMap i1).all hiD <;> cases (tiX xs).all hiD <;> cases (mkX xs).all hiD <;> simp
theorem tiX_ks (ks : Knds) : tiX (ks.map kdD) = (nmsK ks).map .str := by rw [tiX, List.map_map, List.map_map]; rfl
theorem i1_kd (k : Knd) : i1 (kdD k) = k.2.map mkD := rfl
theorem i1_mk (m : Mk) : i1 (mkD m) = m.2.map .str := rfl
theorem mkX_ks (ks : Knds) : mkX (ks.map kdD) = (mksK ks).map .str := by
  rw [mkX, List.flatMap_map, List.map_flatMap]
  congr 1
  funext k
  rw [i1_kd, List.map_map, List.map_map]; rfl
theorem fdX_ks (ks : Knds) : fdX (ks.map kdD) = (fdsK ks).map .str := by
  rw [fdX, List.flatMap_map, List.map_flatMap]
  congr 1
  funext k
  rw [i1_kd, List.flatMap_map, List.map_flatMap]
  rfl
theorem shK_no1 {d : Dv} (h : (match d with | .tup _ => true | _ => false) = false) : shK d = false := by
  cases d <;> first | rfl | cases h
theorem shK_len {xs : List Dv} (h : xs.length ≠ 2) : shK (.tup xs) = false := by
  unfold shK
  split
  · rename_i e; cases e; exact absurd rfl h
  · rfl
theorem shM_len {xs : List Dv} (h : xs.length ≠ 2) : shM (.tup xs) = false := by
  unfold shM
  split
  · rename_i e; cases e; exact absurd rfl h
  · rfl
theorem shK_ms0 {a b : Dv} (h : isK .tup b = false) : shK (.tup [a, b]) = false := by cases b <;> first | rfl | cases h
theorem shM_fs0 {a b : Dv} (h : isK .tup b = false) : shM (.tup [a, b]) = false := by cases b <;> first | rfl | cases h
theorem shK_mm {a : Dv} {ms : List Dv} (h : ¬ (1 ≤ ms.length ∧ ms.length ≤ 8)) : shK (.tup [a, .tup ms]) = false := by
  show (decide (1 ≤ ms.length) && decide (ms.length ≤ 8) && _) = false
  rw [len2, decide_eq_false h]; rfl
theorem shK_all {a : Dv} {ms : List Dv} (h : 1 ≤ ms.length ∧ ms.length ≤ 8) : shK (.tup [a, .tup ms]) = ms.all shM := by
  show (decide (1 ≤ ms.length) && decide (ms.length ≤ 8) && _) = _
  rw [len2, decide_eq_true h]; rfl
theorem isK_tup {d : Dv} (h : isK .tup d = true) : ∃ xs, d = .tup xs := by cases d <;> first | exact ⟨_, rfl⟩ | cases h
theorem VD.items {d : Dv} (h : VD d) : ∀ x ∈ itemsOf d, VD x := by
  cases d with
  | tup xs => exact fun x m => h.mem m
  | _ => exact fun x m => nomatch m
theorem VD.nthI {xs : List Dv} (h : ∀ x ∈ xs, VD x) (i : Nat) : VD (DL.nth xs i) := by
  by_cases z : i < xs.length
  · exact h _ (nth_mem z)
  · unfold DL.nth
    rw [List.getD_eq_getElem?_getD, List.getElem?_eq_none (by omega)]
    exact (val_non (b := 1900) (n := 90)).mono
theorem VD.a0 {d : Dv} (h : VD d) : VD (a0 d) := VD.nthI h.items 0
theorem VD.i1 {d : Dv} (h : VD d) : ∀ x ∈ i1 d, VD x := (VD.nthI h.items 1).items
theorem VD.ti {xs : List Dv} (h : VD (.tup xs)) : ∀ x ∈ tiX xs ++ mkX xs, VD x := by
  intro x m
  rcases List.mem_append.mp m with m | m
  · obtain ⟨k, mk, rfl⟩ := List.mem_map.mp m
    exact (h.mem mk).a0
  · obtain ⟨k, mk, m⟩ := List.mem_flatMap.mp m
    obtain ⟨y, my, rfl⟩ := List.mem_map.mp m
    exact ((h.mem mk).i1 y my).a0
theorem VD.fd {xs : List Dv} (h : VD (.tup xs)) : ∀ x ∈ fdX xs, VD x := by
  intro x m
  obtain ⟨k, mk, m⟩ := List.mem_flatMap.mp m
  obtain ⟨y, my, m⟩ := List.mem_flatMap.mp m
  exact ((h.mem mk).i1 y my).i1 x m
theorem str_inj {xs ys : List Str} (h : xs.map Dv.str = ys.map Dv.str) : xs = ys := by
  have := congrArg (List.map DL.strOf) h
  rw [List.map_map, List.map_map] at this
  have e : (DL.strOf ∘ Dv.str) = id := rfl
  rwa [e, List.map_id, List.map_id] at this
theorem kindsB_tup {xs : List Dv} (h : kindsB (.tup xs) = true) : ∃ ks, xs = ks.map kdD ∧ GoodK ks := by
  obtain ⟨ks, e⟩ : ∃ ks, Dv.tup xs = ksD ks := by
    unfold kindsB at h
    rw [Bool.and_eq_true] at h
    exact ⟨_, (formB_form h.1).1⟩
  rw [e, kindsB_ksD] at h
  exact ⟨ks, Dv.tup.inj e, goodK_iff.mp h⟩
def inB (tn : List Str) (d : Dv) : Bool := match d with
  | .str x => decide (x ∈ tn)
  | _ => false
theorem dist_lt {tn : List Str} : ((distN (tn.map (Sum.inr : Str → Key)) : Nat) : Int) < ((tn.map Dv.str).length : Nat) ↔ ¬ tn.Nodup := by
  have h1 := distN_nodup (tn.map (Sum.inr : Str → Key))
  have h2 := distN_len (tn.map (Sum.inr : Str → Key))
  rw [List.length_map] at h1 h2
  rw [List.length_map]
  have h3 : (tn.map (Sum.inr : Str → Key)).Nodup ↔ tn.Nodup := by
    unfold List.Nodup
    rw [List.pairwise_map]
    exact ⟨fun h => h.imp fun n e => n (by rw [e]), fun h => h.imp fun n e => n (Sum.inr.inj e)⟩
  rw [← h3, ← h1]
  omega
/-- who is barren still, by place -/
def nmA (ks : Knds) (k : Nat) : Str := (nmsK ks).getD k ""
def brL (ks : Knds) (t : Nat) : List Nat := (List.range ks.length).filter fun k => !prodK ks t (nmA ks k)
theorem nmA_at {ks : Knds} {k : Nat} (h : k < ks.length) : nmA ks k = ks[k].1 := by
  unfold nmA
  rw [List.getD_eq_getElem?_getD, List.getElem?_map, List.getElem?_eq_getElem h]; rfl
theorem brL_mem {ks : Knds} {t k : Nat} : k ∈ brL ks t ↔ k < ks.length ∧ prodK ks t (nmA ks k) = false := by
  unfold brL
  rw [List.mem_filter, List.mem_range, Bool.not_eq_true']
theorem brL_0 (ks : Knds) : brL ks 0 = List.range ks.length := by
  unfold brL
  rw [List.filter_eq_self]
  intro a _
  rfl
/-- what the law keeps in a round -/
def keepB (ks : Knds) (t : Nat) (k : Nat) : Bool := ((ks.getD k ("", [])).2.map fun m => !(m.2.filter fun f => decide (f ∈ (brL ks t).map (nmA ks))).isEmpty).all id
theorem keepB_at {ks : Knds} (nd : (nmsK ks).Nodup) (fin : ∀ f ∈ fdsK ks, f ∈ nmsK ks) {t k : Nat} (h : k < ks.length) : keepB ks t k = !prodK ks (t + 1) (nmA ks k) := by
  have e : ks.getD k ("", []) = ks[k] := by rw [List.getD_eq_getElem?_getD, List.getElem?_eq_getElem h]; rfl
  unfold keepB
  rw [e, nmA_at h, List.all_map, Bool.eq_iff_iff, Bool.not_eq_true', ← Bool.not_eq_true, prodK_succ, List.all_eq_true]
  have mm : ∀ m ∈ ks[k].2, ∀ f ∈ m.2, (f ∈ (brL ks t).map (nmA ks) ↔ ¬ prodK ks t f = true) := fun m hm f hf => by
    have := fin f (mem_fds.mpr ⟨_, List.getElem_mem h, m, hm, hf⟩)
    obtain ⟨j, hj, e⟩ := List.getElem_of_mem this
    have hj' : j < ks.length := by rwa [List.length_map] at hj
    have ej : nmA ks j = f := by rw [nmA_at hj', ← e, List.getElem_map]
    constructor
    · intro z
      obtain ⟨i, mi, ei⟩ := List.mem_map.mp z
      rw [← ei, (brL_mem.mp mi).2]; exact Bool.false_ne_true
    · intro z
      exact List.mem_map.mpr ⟨j, brL_mem.mpr ⟨hj', by rw [ej]; cases q : prodK ks t f with
        | false => rfl
        | true => exact absurd q z⟩, ej⟩
  constructor
  · rintro z ⟨k', hk', e1, m, hm, hf⟩
    have : k' = ks[k] := by
      obtain ⟨j, hj, rfl⟩ := List.getElem_of_mem hk'
      have : j = k := by
        have h1 : (nmsK ks)[j]? = some ks[k].1 := by rw [List.getElem?_map, List.getElem?_eq_getElem hj, ← e1]; rfl
        have h2 : (nmsK ks)[k]? = some ks[k].1 := by rw [List.getElem?_map, List.getElem?_eq_getElem h]; rfl
        have hj2 : j < (nmsK ks).length := by rw [List.length_map]; exact hj
        exact (List.getElem?_inj hj2 nd).mp (h1.trans h2.symm)
      subst this; rfl
    subst this
    have := z m hm
    have ne : (m.2.filter fun f => decide (f ∈ (brL ks t).map (nmA ks))) ≠ [] := by
      intro q
      have : (!(m.2.filter fun f => decide (f ∈ (brL ks t).map (nmA ks))).isEmpty) = true := this
      rw [q] at this; cases this
    obtain ⟨f, mf⟩ := List.exists_mem_of_ne_nil _ ne
    rw [List.mem_filter, decide_eq_true_eq] at mf
    exact (mm m hm f mf.1).mp mf.2 (hf f mf.1)
  · intro z m hm
    show (!(m.2.filter fun f => decide (f ∈ (brL ks t).map (nmA ks))).isEmpty) = true
    cases q : (m.2.filter fun f => decide (f ∈ (brL ks t).map (nmA ks))) with
    | cons _ _ => rfl
    | nil =>
      refine absurd ⟨ks[k], List.getElem_mem h, rfl, m, hm, fun f hf => ?_⟩ z
      apply Classical.byContradiction
      intro y
      have : f ∈ (m.2.filter fun f => decide (f ∈ (brL ks t).map (nmA ks))) := List.mem_filter.mpr ⟨hf, decide_eq_true ((mm m hm f hf).mpr y)⟩
      rw [q] at this; cases this
theorem brL_succ {ks : Knds} (nd : (nmsK ks).Nodup) (fin : ∀ f ∈ fdsK ks, f ∈ nmsK ks) (t : Nat) : (brL ks t).filter (keepB ks t) = brL ks (t + 1) := by
  unfold brL
  rw [List.filter_filter]
  apply List.filter_congr
  intro k hk
  have h := List.mem_range.mp hk
  rw [keepB_at nd fin h]
  cases e : prodK ks (t + 1) (nmA ks k) with
  | true => rfl
  | false =>
    cases e2 : prodK ks t (nmA ks k) with
    | false => rfl
    | true => rw [prodK_mono e2] at e; cases e
theorem brL_nil {ks : Knds} {t : Nat} : (brL ks t).isEmpty = true ↔ ∀ a ∈ nmsK ks, prodK ks t a = true := by
  rw [List.isEmpty_iff]
  constructor
  · intro z a m
    obtain ⟨j, hj, e⟩ := List.getElem_of_mem m
    have hj' : j < ks.length := by rwa [List.length_map] at hj
    have ej : nmA ks j = a := by rw [nmA_at hj', ← e, List.getElem_map]
    cases q : prodK ks t a with
    | true => rfl
    | false =>
      have : j ∈ brL ks t := brL_mem.mpr ⟨hj', by rw [ej]; exact q⟩
      rw [z] at this; cases this
  · intro z
    apply List.eq_nil_iff_forall_not_mem.mpr
    intro k m
    obtain ⟨h1, h2⟩ := brL_mem.mp m
    rw [nmA_at h1, z _ (List.mem_map.mpr ⟨_, List.getElem_mem h1, rfl⟩)] at h2
    cases h2
theorem flat1_len {α : Type} (F : Nat → List α) (h : ∀ i, (F i).length ≤ 1) (n : Nat) : ((List.range n).flatMap F).length ≤ n := by
  induction n with
  | zero => exact Nat.le_refl _
  | succ n ih => rw [flat_snoc, List.length_append]; have := h n; omega
theorem flat_filter {α β : Type} (p : α → Bool) (w : α → β) (xs : List α) : (xs.flatMap fun x => if p x = true then [w x] else []) = (xs.filter p).map w := by
  induction xs with
  | nil => rfl
  | cons x xs ih =>
    rw [List.flatMap_cons, ih]
    cases e : p x with
    | true => rw [if_pos rfl, List.filter_cons_of_pos e]; rfl
    | false => rw [if_neg Bool.false_ne_true, List.filter_cons_of_neg (by rw [e]; exact Bool.false_ne_true)]; rfl
end DL

namespace K21
open PySem PySem.Spec L2 DL
open PyProof.Rows hiding St
theorem rd__law_is_kinds : ∀ ds H Q, sp__law_is_kinds ds H Q → td__law_is_kinds (outD Q) (startD 12 ds) H := by
  rintro ds H Q ⟨d, rfl, h, q⟩
  have s16 := sz16
  have fin := rd_bl q
  refine ⟨_, rfl, okK_ofI h.okI, fun e => ⟨fun _ => ?_, fun e => (nomatch e)⟩, fun e => ?_⟩
  · refine fin _ (kindsB_no (formB_row ?_)).symm
    have e : isK .tup d = false := nt e
    cases d <;> first | rfl | cases e
  obtain ⟨xs, rfl⟩ := isK_tup (nf e)
  refine ⟨_, rfl, fun e => ?_, fun e => ?_⟩
  · have e : (!decide ((1 : Int) ≤ (xs.length : Nat) ∧ ((xs.length : Nat) : Int) < 61)) = true := e
    refine fin _ (kindsB_no (formB_row ?_)).symm
    have := of_decide_eq_false (nt e)
    simp only [rowB, Bool.and_eq_false_iff, decide_eq_false_iff_not]
    omega
  have e : (!decide ((1 : Int) ≤ (xs.length : Nat) ∧ ((xs.length : Nat) : Int) < 61)) = false := e
  have xl := of_decide_eq_true (nf e)
  have eF := formB_of (ks := xs) (by omega) (by omega)
  refine ⟨Nat.zero_le _, fun p1 h1 => ⟨Nat.zero_le _, fun p2 h2 => ⟨Nat.zero_le _, le_sz 3 (by decide), rfl, rfl, ?_⟩⟩⟩
  have n12 : p1 ≠ p2 := fun e => by subst e; rw [upD_same] at h2; cases h2
  have g2 : H p2 = none := by rw [upD_ne (Ne.symm n12)] at h2; exact h2
  -- what is said at any place where the old things stand
  have out : ∀ {H' : DH}, (∀ a, a ≠ p1 → a ≠ p2 → H' a = H a) → ∀ b, b = kindsB (.tup xs) → (outD Q).rt (.bl b) H' := fun {H'} o b e => by
    rw [e]
    exact ⟨H, fun a u z => by rw [o a (fun y => by rw [y, h1] at z; cases z) (fun y => by rw [y, g2] at z; cases z)]; exact z, q⟩
  have noK : ∀ {i}, i < xs.length → shK (nth xs i) = false → false = kindsB (.tup xs) := fun {i} hi z => by
    refine (kindsB_no ?_).symm
    rw [eF]
    refine all_no hi ?_
    cases e : fmK (nth xs i) with
    | false => rfl
    | true => rw [shK_of e] at z; cases z
  refine ⟨_, rfl, fun i σ H' => (∃ b4 b5, σ = [some (.tup xs), some (.ref p1), some (.ref p2), some (.lsv (fdX (xs.take i))), b4, b5, none, none, none, none, none, none]) ∧ H' p1 = some (.lst (tiX (xs.take i))) ∧ H' p2 = some (.lst (mkX (xs.take i))) ∧ (∀ a, a ≠ p1 → a ≠ p2 → H' a = H a) ∧ (xs.take i).all shK = true ∧ (mkX (xs.take i)).length ≤ 8 * i ∧ (fdX (xs.take i)).length ≤ 32 * i,
    ⟨⟨none, none, rfl⟩, by rw [upD_ne n12]; exact upD_same, upD_same, fun a x y => by rw [upD_ne y, upD_ne x], rfl, Nat.zero_le _, Nat.zero_le _⟩, fun _ _ _ _ _ => trivial, ?_, ?_⟩
  · rintro i σ H' hi ⟨⟨b4, b5, rfl⟩, t1, t2, fr, sh, ml, fl⟩
    have hi : i < xs.length := hi
    have hv := h.nth hi
    have no := noK hi
    have tk : xs.take (i + 1) = xs.take i ++ [nth xs i] := by rw [List.take_succ, nth_at hi]; rfl
    have il : (xs.take i).length ≤ 60 := by rw [List.length_take]; omega
    show (dSeq _ _) _ [some (.tup xs), some (.ref p1), some (.ref p2), some (.lsv (fdX (xs.take i))), some (nth xs i), b5, none, none, none, none, none, none] _
    revert hv no tk
    generalize nth xs i = kd
    intro hv no tk
    refine ⟨_, rfl, okK_ofI hv.okI, fun e => ⟨fun _ => out fr _ (no ?_), fun e => (nomatch e)⟩, fun e => ?_⟩
    · have e : isK .tup kd = false := nt e
      cases kd <;> first | rfl | cases e
    obtain ⟨ps, rfl⟩ := isK_tup (nf e)
    refine ⟨_, rfl, rfl, fun e => ⟨fun _ => out fr _ (no (shK_len ?_)), fun e => (nomatch e)⟩, fun e => ?_⟩
    · have e : (!(((ps.length : Nat) : Int) == 2)) = true := e
      have := nt e
      rw [beq_eq_false_iff_ne] at this
      omega
    have e : (!(((ps.length : Nat) : Int) == 2)) = false := e
    have p2l : ps.length = 2 := by have := nf e; rw [beq_iff_eq] at this; omega
    obtain ⟨a, b, rfl⟩ : ∃ a b, ps = [a, b] := by
      match ps, p2l with
      | [a, b], _ => exact ⟨a, b, rfl⟩
    have hab := VD.two hv
    refine ⟨_, rfl, b, atI_1, okK_ofI hab.2.okI, fun e => out fr _ (no (shK_ms0 (nt e))), fun e => ?_⟩
    obtain ⟨ms, rfl⟩ := isK_tup (nf e)
    refine ⟨_, rfl, _, atI_1, fun e => out fr _ (no (shK_mm ?_)), fun e => ?_⟩
    · have e : (!decide ((1 : Int) ≤ (ms.length : Nat) ∧ ((ms.length : Nat) : Int) < 9)) = true := e
      have := of_decide_eq_false (nt e)
      omega
    have e : (!decide ((1 : Int) ≤ (ms.length : Nat) ∧ ((ms.length : Nat) : Int) < 9)) = false := e
    have mml := of_decide_eq_true (nf e)
    have eK := shK_all (a := a) (ms := ms) (by omega)
    rw [eK] at no
    refine ⟨_, rfl, ⟨_, t1⟩, _, rfl, a, atI_0, _, t1, by rw [List.length_map]; omega, ?_⟩
    refine ⟨_, rfl, _, atI_1, fun j σ H' => (∃ b5, σ = [some (.tup xs), some (.ref p1), some (.ref p2), some (.lsv (fdX (xs.take i) ++ (ms.take j).flatMap i1)), some (.tup [a, .tup ms]), b5, none, none, none, none, none, none]) ∧ H' p1 = some (.lst (tiX (xs.take i) ++ [a])) ∧ H' p2 = some (.lst (mkX (xs.take i) ++ (ms.take j).map a0)) ∧ (∀ a, a ≠ p1 → a ≠ p2 → H' a = H a) ∧ (ms.take j).all shM = true ∧ ((ms.take j).flatMap i1).length ≤ 4 * j,
      ⟨⟨b5, by simp⟩, upD_same, by rw [upD_ne (Ne.symm n12)]; simpa using t2, fun a x y => by rw [upD_ne x]; exact fr a x y, rfl, Nat.zero_le _⟩, fun _ _ _ _ _ => trivial, ?_, ?_⟩
    · rintro j σ H2 hj ⟨⟨b5, rfl⟩, u1, u2, ur, sm, fl2⟩
      have hj : j < ms.length := hj
      have hm := VD.nth hab.2 hj
      have no' : shM (nth ms j) = false → (outD Q).rt (.bl false) H2 := fun z => out ur _ (no (all_no hj z))
      have tk2 : ms.take (j + 1) = ms.take j ++ [nth ms j] := by rw [List.take_succ, nth_at hj]; rfl
      have jl : (ms.take j).length ≤ 8 := by rw [List.length_take]; omega
      show (dSeq _ _) _ [some (.tup xs), some (.ref p1), some (.ref p2), some (.lsv (fdX (xs.take i) ++ (ms.take j).flatMap i1)), some (.tup [a, .tup ms]), some (nth ms j), none, none, none, none, none, none] _
      revert hm no' tk2
      generalize nth ms j = md
      intro hm no' tk2
      refine ⟨_, rfl, okK_ofI hm.okI, fun e => ⟨fun _ => no' ?_, fun e => (nomatch e)⟩, fun e => ?_⟩
      · have e : isK .tup md = false := nt e
        cases md <;> first | rfl | cases e
      obtain ⟨qs, rfl⟩ := isK_tup (nf e)
      refine ⟨_, rfl, rfl, fun e => ⟨fun _ => no' (shM_len ?_), fun e => (nomatch e)⟩, fun e => ?_⟩
      · have e : (!(((qs.length : Nat) : Int) == 2)) = true := e
        have := nt e
        rw [beq_eq_false_iff_ne] at this
        omega
      have e : (!(((qs.length : Nat) : Int) == 2)) = false := e
      have q2l : qs.length = 2 := by have := nf e; rw [beq_iff_eq] at this; omega
      obtain ⟨a', b', rfl⟩ : ∃ a b, qs = [a, b] := by
        match qs, q2l with
        | [a, b], _ => exact ⟨a, b, rfl⟩
      have hab' := VD.two hm
      refine ⟨_, rfl, b', atI_1, okK_ofI hab'.2.okI, fun e => ⟨fun _ => no' (shM_fs0 (nt e)), fun e => (nomatch e)⟩, fun e => ?_⟩
      obtain ⟨fs, rfl⟩ := isK_tup (nf e)
      refine ⟨_, rfl, _, atI_1, fun e => no' ?_, fun e => ?_⟩
      · have e : ((fs.length : Nat) : Int) > 4 := of_decide_eq_true e
        exact decide_eq_false (by omega)
      have f4 : ¬ ((fs.length : Nat) : Int) > 4 := of_decide_eq_false e
      refine ⟨_, rfl, ⟨_, u2⟩, _, rfl, a', atI_0, _, u2, by rw [List.length_append, List.length_map]; omega, ?_⟩
      have ef : (ms.take (j + 1)).flatMap i1 = (ms.take j).flatMap i1 ++ fs := by
        rw [tk2, List.flatMap_append]
        show _ ++ (fs ++ []) = _
        rw [List.append_nil]
      have em : (ms.take (j + 1)).map a0 = (ms.take j).map a0 ++ [a'] := by rw [tk2, List.map_append]; rfl
      refine ⟨_, rfl, _, rfl, _, atI_1, by rw [List.length_append]; omega, ⟨some (.tup [a', .tup fs]), ?_⟩, ?_, ?_, ?_, ?_, ?_⟩
      · rw [ef, ← List.append_assoc]; rfl
      · rw [upD_ne n12]; exact u1
      · rw [upD_same, em, List.append_assoc]
      · exact fun a x y => by rw [upD_ne y]; exact ur a x y
      · rw [tk2, List.all_append, sm]
        show (true && (decide (fs.length ≤ 4) && true)) = true
        rw [decide_eq_true (by omega)]; rfl
      · rw [ef, List.length_append]; omega
    · rintro σ H2 ⟨⟨b5, rfl⟩, u1, u2, ur, sm, fl2⟩
      have tkm : ms.take (tI ms).n = ms := List.take_length
      rw [tkm] at u2 sm fl2 ⊢
      have e1 : fdX (xs.take (i + 1)) = fdX (xs.take i) ++ ms.flatMap i1 := by
        rw [tk, fdX, List.flatMap_append]
        show _ ++ (ms.flatMap i1 ++ []) = _
        rw [List.append_nil]
      have e2 : mkX (xs.take (i + 1)) = mkX (xs.take i) ++ ms.map a0 := by
        rw [tk, mkX, List.flatMap_append]
        show _ ++ (ms.map a0 ++ []) = _
        rw [List.append_nil]
      have e3 : tiX (xs.take (i + 1)) = tiX (xs.take i) ++ [a] := by rw [tk, tiX, List.map_append]; rfl
      have fl2 : (ms.flatMap i1).length ≤ 4 * ms.length := fl2
      refine ⟨⟨_, _, by rw [e1]⟩, by rw [e3]; exact u1, by rw [e2]; exact u2, ur, ?_, by rw [e2, List.length_append, List.length_map]; omega, by rw [e1, List.length_append]; omega⟩
      rw [tk, List.all_append, sh]
      show (true && (shK (.tup [a, .tup ms]) && true)) = true
      rw [eK, sm]; rfl
  · rintro σ H2 ⟨⟨b4, b5, rfl⟩, t1, t2, fr, sh, ml, fl⟩
    have tkx : xs.take (tI xs).n = xs := List.take_length
    rw [tkx] at t1 t2 sh ml fl ⊢
    have ml : (mkX xs).length ≤ 8 * xs.length := ml
    have fl : (fdX xs).length ≤ 32 * xs.length := fl
    have eG := form_sh sh
    have lT : (tiX xs).length = xs.length := List.length_map _
    have vT := h.ti
    have vF := h.fd
    have nm : (fun d => nmD true d) = hiD := funext nmD_hi
    have noG : (∀ ks, xs = ks.map kdD → GoodK ks → False) → false = kindsB (.tup xs) := fun z => by
      cases e : kindsB (.tup xs) with
      | false => rfl
      | true =>
        obtain ⟨ks, e1, g⟩ := kindsB_tup e
        exact (z ks e1 g).elim
    refine ⟨_, rfl, _, rfl, _, _, t1, t2, by omega, lc_map (f := fun i => .bl (nmD true (nth (tiX xs ++ mkX xs) i))) ?_ trivial ?_ ?_⟩
    · show (tiX xs ++ mkX xs).length ≤ _
      rw [List.length_append]; omega
    · intro i N hi hN
      exact ⟨_, rfl, _, _, rfl, vT _ (nth_mem hi), hN⟩
    refine ⟨(List.range (tiX xs ++ mkX xs).length).map fun i => nmD true (nth (tiX xs ++ mkX xs) i), by rw [List.map_map]; rfl, ?_⟩
    rw [all_of (fun d => nmD true d), nm]
    refine ⟨fun e => out fr _ (kindsB_no (by rw [eF, eG, nt e]; rfl)).symm, fun e => ?_⟩
    have eN : (tiX xs ++ mkX xs).all hiD = true := nf e
    rw [eN, Bool.true_and] at eG
    rw [List.all_append, Bool.and_eq_true] at eN
    have et := (map_strOf eN.1).symm
    have em := (map_strOf eN.2).symm
    have tnl : ((tiX xs).map DL.strOf).length = xs.length := by rw [List.length_map, lT]
    have mnl : ((mkX xs).map DL.strOf).length ≤ 480 := by rw [List.length_map]; omega
    revert et em tnl mnl
    generalize (tiX xs).map DL.strOf = tn
    generalize (mkX xs).map DL.strOf = mn
    intro et em tnl mnl
    rw [et] at t1
    rw [em] at t2
    have lk : ∀ ks, xs = ks.map kdD → nmsK ks = tn ∧ mksK ks = mn := fun ks e => by
      rw [e, tiX_ks] at et
      rw [e, mkX_ks] at em
      exact ⟨str_inj et, str_inj em⟩
    refine ⟨_, rfl, _, t1, _, strKeys tn, by rw [List.length_map]; omega, _, rfl, _, t1, fun e => ⟨fun _ => out fr _ (noG fun ks e1 g => dist_lt.mp (of_decide_eq_true e) (by rw [← (lk ks e1).1]; exact g.nd)), fun e => (nomatch e)⟩, fun e1 => ?_⟩
    have nN : tn.Nodup := Classical.byContradiction fun z => of_decide_eq_false e1 (dist_lt.mpr z)
    refine ⟨_, rfl, _, t2, _, strKeys mn, by rw [List.length_map]; omega, _, rfl, _, t2, fun e => out fr _ (noG fun ks e1 g => dist_lt.mp (of_decide_eq_true e) (by rw [← (lk ks e1).2]; exact g.md)), fun e2 => ?_⟩
    have nM : mn.Nodup := Classical.byContradiction fun z => of_decide_eq_false e2 (dist_lt.mpr z)
    refine ⟨_, rfl, lc_map (f := fun i => .bl (inB tn (nth (fdX xs) i))) (by show (fdX xs).length ≤ _; omega) trivial ?_ ?_⟩
    · intro i N hi hN
      have hi : i < (fdX xs).length := hi
      have hv := vF _ (nth_mem hi)
      show dgName 10 (nth (fdX xs) i) _ _ _
      revert hv hN
      generalize nth (fdX xs) i = f
      intro hN hv
      refine ⟨_, rfl, okK_ofI hv.okI, ?_⟩
      cases f with
      | str x =>
        have W := in_strs (ts := tn) (x := x)
        refine ⟨fun _ => ⟨_, rfl, _, rfl, _, t1, W.1, ?_⟩, fun e => (nomatch e)⟩
        rw [W.2]; exact hN
      | _ => exact ⟨fun e => (nomatch e), fun _ => hN⟩
    refine ⟨(List.range (fdX xs).length).map fun i => inB tn (nth (fdX xs) i), by rw [List.map_map]; rfl, ?_⟩
    rw [all_of (inB tn)]
    have fdG : ∀ ks, xs = ks.map kdD → ((fdX xs).all (inB tn) = true ↔ ∀ f ∈ fdsK ks, f ∈ nmsK ks) := fun ks e => by
      rw [(lk ks e).1, e, fdX_ks, List.all_map, List.all_eq_true]
      exact ⟨fun z f m => of_decide_eq_true (z f m), fun z f m => decide_eq_true (z f m)⟩
    refine ⟨fun e => out fr _ (noG fun ks e1 g => by rw [(fdG ks e1).mpr g.fin] at e; cases e), fun e => ?_⟩
    have eI : (fdX xs).all (inB tn) = true := nf e
    have hT : ∀ t ∈ tn, hiS t = true := fun t mt => by
      have : Dv.str t ∈ tiX xs := by rw [et]; exact List.mem_map.mpr ⟨t, mt, rfl⟩
      exact List.all_eq_true.mp eN.1 _ this
    have eH : (fdX xs).all hiD = true := List.all_eq_true.mpr fun f mf => by
      have := List.all_eq_true.mp eI f mf
      cases f with
      | str x => exact hT x (of_decide_eq_true this)
      | _ => cases this
    rw [eH] at eG
    have FF := formB_form (eF.trans eG)
    have ek : xs = (rdKs (.tup xs)).map kdD := Dv.tup.inj (show Dv.tup xs = Dv.tup ((rdKs (.tup xs)).map kdD) from FF.1)
    have F := FF.2
    revert ek F
    generalize rdKs (.tup xs) = ks
    intro ek F
    have tn1 := (lk ks ek).1
    have mn1 := (lk ks ek).2
    have fI := (fdG ks ek).mp eI
    have good : ∀ b, (b = true ↔ ∀ a ∈ nmsK ks, prodK ks ks.length a = true) → b = kindsB (.tup xs) := fun b hb => by
      rw [ek]
      exact kindsB_eq ks F b ⟨fun z => ⟨by rw [tn1]; exact nN, by rw [mn1]; exact nM, fI, hb.mp z⟩, fun z => hb.mpr z.2.2.2⟩
    have kl : ks.length = xs.length := by rw [ek, List.length_map]
    have xk : ∀ {k}, (hk : k < ks.length) → nth xs k = kdD ks[k] := fun {k} hk => by rw [ek]; exact nth_map hk
    rw [← tn1] at t1
    have nd : (nmsK ks).Nodup := by rw [tn1]; exact nN
    have tl : ((nmsK ks).map Dv.str).length = ks.length := by rw [List.length_map, List.length_map]
    have Ll : ∀ t, (brL ks t).length ≤ ks.length := fun t => by
      have := List.length_filter_le (fun k => !prodK ks t (nmA ks k)) (List.range ks.length)
      rwa [List.length_range] at this
    refine ⟨_, rfl, ⟨by omega, by omega⟩, lc_map (f := fun i => .int (i : Nat)) (by show (((xs.length : Nat) : Int)).toNat ≤ _; omega) trivial ?_ ?_⟩
    · intro i N hi hN
      refine ⟨_, rfl, ?_⟩
      show N (Dv.int (0 + ((i : Nat) : Int) * 1)) H2
      rw [Int.zero_add, Int.mul_one]; exact hN
    refine ⟨_, rfl, ⟨by omega, by omega⟩, fun t σ H' => H' = H2 ∧ ∃ b4 b5 b7 b8, σ = [some (.tup xs), some (.ref p1), some (.ref p2), some (.lsv (fdX xs)), b4, b5, some (.lsv ((brL ks t).map fun k => .int (k : Nat))), b7, b8, none, none, none], ⟨rfl, b4, b5, none, none, ?_⟩, fun _ _ _ _ _ => trivial, ?_, ?_⟩
    · rw [brL_0, kl]; rfl
    · rintro t σ H' ht ⟨rfl, b4, b5, b7, b8, rfl⟩
      refine ⟨_, rfl, lc_map (f := fun i => .str (nmA ks ((brL ks t).getD i 0))) ?_ trivial ?_ ?_⟩
      · show ((brL ks t).map fun k => Dv.int (k : Nat)).length ≤ _
        rw [List.length_map]; have := Ll t; omega
      · intro i N hi hN
        have hi : i < (brL ks t).length := by have : i < ((brL ks t).map fun k => Dv.int (k : Nat)).length := hi; rwa [List.length_map] at this
        show dgName 11 (nth ((brL ks t).map fun k => Dv.int (k : Nat)) i) _ _ _
        rw [nth_map hi]
        have hk := (brL_mem.mp (List.getElem_mem hi)).1
        refine ⟨_, rfl, _, rfl, _, _, t1, by rw [atI_at]; exact map_get (by rw [List.length_map]; exact hk), ?_⟩
        have e : nmA ks ((brL ks t).getD i 0) = (nmsK ks)[(brL ks t)[i]]'(by rw [List.length_map]; exact hk) := by
          rw [List.getD_eq_getElem?_getD, List.getElem?_eq_getElem hi, Option.getD_some, nmA_at hk, List.getElem_map]
        rw [e] at hN
        exact hN
      have eb : (List.range (tI ((brL ks t).map fun k => Dv.int (k : Nat))).n).map (fun i => Dv.str (nmA ks ((brL ks t).getD i 0))) = ((brL ks t).map (nmA ks)).map .str := by
        apply List.ext_getElem?
        intro i
        rw [List.getElem?_map, List.getElem?_map, List.getElem?_map]
        show ((List.range ((brL ks t).map fun k => Dv.int (k : Nat)).length)[i]?).map _ = _
        rw [List.length_map]
        by_cases hi : i < (brL ks t).length
        · rw [List.getElem?_range hi, List.getElem?_eq_getElem hi, Option.map_some, Option.map_some, Option.map_some, List.getD_eq_getElem?_getD, List.getElem?_eq_getElem hi]; rfl
        · rw [List.getElem?_eq_none (by rw [List.length_range]; omega), List.getElem?_eq_none (by omega)]; rfl
      rw [eb]
      simp only [wipeD, startD, List.set_cons_zero, List.set_cons_succ, List.map_cons, List.map_nil, List.length_cons, List.length_nil, List.replicate, List.cons_append, List.nil_append, Nat.reduceSub, Nat.reduceAdd, Nat.zero_add]
      refine ⟨_, rfl, ?_⟩
      refine lc_all (F := fun i => if keepB ks t ((brL ks t).getD i 0) = true then [Dv.int (((brL ks t).getD i 0 : Nat) : Int)] else []) ?_ trivial ?_ ?_
      · refine Nat.le_trans (flat1_len _ (fun i => by split <;> simp) _) ?_
        show ((brL ks t).map fun k => Dv.int (k : Nat)).length ≤ _
        rw [List.length_map]; have := Ll t; omega
      · intro i acc N hi hz hN
        have hi : i < (brL ks t).length := by have : i < ((brL ks t).map fun k => Dv.int (k : Nat)).length := hi; rwa [List.length_map] at this
        have hk := (brL_mem.mp (List.getElem_mem hi)).1
        have eg : (brL ks t).getD i 0 = (brL ks t)[i] := by rw [List.getD_eq_getElem?_getD, List.getElem?_eq_getElem hi]; rfl
        rw [eg] at hz hN
        show dgName 11 (nth ((brL ks t).map fun k => Dv.int (k : Nat)) i) _ _ _
        rw [nth_map hi]
        revert hk hz hN
        generalize (brL ks t)[i] = k
        intro hN hz hk
        have ks8 := F.m2 _ (List.getElem_mem hk)
        simp only [wipeD, startD, List.set_cons_zero, List.set_cons_succ, List.map_cons, List.map_nil, List.length_cons, List.length_nil, List.replicate, List.cons_append, List.nil_append, Nat.reduceSub, Nat.reduceAdd, Nat.zero_add]
        refine ⟨_, rfl, _, rfl, kdD ks[k], ?_, _, atI_1, lc_map (f := fun j => .bl (!((rdM (nth (ks[k].2.map mkD) j)).2.filter fun f => decide (f ∈ (brL ks t).map (nmA ks))).isEmpty)) (by show (ks[k].2.map mkD).length ≤ _; rw [List.length_map]; omega) trivial ?_ ?_⟩
        · rw [atI_at, nth_at (by omega), xk hk]
        · intro j N2 hj hN2
          have hj : j < ks[k].2.length := by have : j < (ks[k].2.map mkD).length := hj; rwa [List.length_map] at this
          show dgName 5 (nth (ks[k].2.map mkD) j) _ _ _
          rw [nth_map hj, rdM_mkD] at hN2
          rw [nth_map hj]
          have ms4 := F.f4 _ (List.getElem_mem hk) _ (List.getElem_mem hj)
          simp only [wipeD, startD, List.set_cons_zero, List.set_cons_succ, List.map_cons, List.map_nil, List.length_cons, List.length_nil, List.replicate, List.cons_append, List.nil_append, Nat.reduceSub, Nat.reduceAdd, Nat.zero_add]
          refine ⟨_, rfl, _, atI_1, ?_⟩
          have fin2 : ∀ acc : List Dv, acc = (ks[k].2[j].2.filter fun f => decide (f ∈ (brL ks t).map (nmA ks))).map .str → N2 (.bl (!eqvL acc [])) H' := fun acc e => by
            rw [e, eqvL_nil, empt]; exact hN2
          refine lc_all (F := fun l => if decide (DL.strOf (nth (ks[k].2[j].2.map .str) l) ∈ (brL ks t).map (nmA ks)) = true then [nth (ks[k].2[j].2.map .str) l] else []) ?_ trivial ?_ ?_
          · refine Nat.le_trans (flat1_len _ (fun i => by split <;> simp) _) ?_
            show (ks[k].2[j].2.map Dv.str).length ≤ _
            rw [List.length_map]; omega
          · intro l acc N3 hl hz hN3
            have hl : l < ks[k].2[j].2.length := by have : l < (ks[k].2[j].2.map Dv.str).length := hl; rwa [List.length_map] at this
            show dgName 10 (nth (ks[k].2[j].2.map .str) l) _ _ _
            rw [nth_map hl] at hz hN3 ⊢
            have W := in_strs (ts := (brL ks t).map (nmA ks)) (x := ks[k].2[j].2[l])
            refine ⟨_, rfl, _, rfl, W.1, ?_⟩
            rw [W.2]
            have hz : acc.length + (if decide (ks[k].2[j].2[l] ∈ (brL ks t).map (nmA ks)) = true then [Dv.str ks[k].2[j].2[l]] else []).length ≤ sizeLine := hz
            have hN3 : N3 (acc ++ if decide (ks[k].2[j].2[l] ∈ (brL ks t).map (nmA ks)) = true then [Dv.str ks[k].2[j].2[l]] else []) H' := hN3
            revert hz hN3
            generalize decide (ks[k].2[j].2[l] ∈ (brL ks t).map (nmA ks)) = bb
            intro hz hN3
            cases bb with
            | true => exact ⟨fun _ => ⟨_, rfl, by simp at hz; omega, hN3⟩, fun e => (nomatch e)⟩
            | false => exact ⟨fun e => (nomatch e), fun _ => by simpa using hN3⟩
          · refine ⟨Nat.zero_le _, by simp [eqOk], fin2 _ ?_⟩
            show ((List.range (ks[k].2[j].2.map Dv.str).length).flatMap _) = _
            rw [flat_nth (fun d => if decide (DL.strOf d ∈ (brL ks t).map (nmA ks)) = true then [d] else []) (ks[k].2[j].2.map .str) _ (fun i hi => by unfold nth; rw [List.getD_eq_getElem?_getD, List.getElem?_eq_getElem hi]; rfl), List.flatMap_map]
            exact flat_filter (fun f => decide (f ∈ (brL ks t).map (nmA ks))) Dv.str _
        · refine ⟨(List.range (ks[k].2.map mkD).length).map fun j => !((rdM (nth (ks[k].2.map mkD) j)).2.filter fun f => decide (f ∈ (brL ks t).map (nmA ks))).isEmpty, by rw [List.map_map]; rfl, ?_⟩
          rw [walk_all (fun m : Mk => !(m.2.filter fun f => decide (f ∈ (brL ks t).map (nmA ks))).isEmpty) _ mkD rdM rdM_mkD]
          have ek : keepB ks t k = ks[k].2.all fun m : Mk => !(m.2.filter fun f => decide (f ∈ (brL ks t).map (nmA ks))).isEmpty := by
            unfold keepB
            rw [List.getD_eq_getElem?_getD, List.getElem?_eq_getElem hk, Option.getD_some, List.all_map]; rfl
          rw [← ek]
          refine ⟨fun e => ⟨_, rfl, ?_, ?_⟩, fun e => ?_⟩
          · rw [if_pos e] at hz; simp at hz; omega
          · rw [if_pos e] at hN; exact hN
          · rw [if_neg (by rw [e]; exact Bool.false_ne_true), List.append_nil] at hN; exact hN
      · refine ⟨rfl, b4, b5, some (Dv.int (0 + ((t : Nat) : Int) * 1)), some (.lsv (((brL ks t).map (nmA ks)).map .str)), ?_⟩
        have : (List.range (tI ((brL ks t).map fun k => Dv.int (k : Nat))).n).flatMap (fun i => if keepB ks t ((brL ks t).getD i 0) = true then [Dv.int (((brL ks t).getD i 0 : Nat) : Int)] else []) = (brL ks (t + 1)).map fun k => Dv.int (k : Nat) := by
          show (List.range ((brL ks t).map fun k => Dv.int (k : Nat)).length).flatMap _ = _
          rw [List.length_map, flat_nth (fun k : Nat => if keepB ks t k = true then [Dv.int (k : Nat)] else []) (brL ks t) _ (fun i hi => by rw [List.getD_eq_getElem?_getD, List.getElem?_eq_getElem hi]; rfl), flat_filter, brL_succ nd fI]
        rw [this]
        rfl
    · rintro σ H' ⟨rfl, b4, b5, b7, b8, rfl⟩
      have e : (brL ks (((xs.length : Nat) : Int).toNat)) = brL ks ks.length := by rw [kl]; rfl
      refine ⟨_, rfl, Nat.zero_le _, ?_, ?_⟩
      · show eqOk 60 (.lsv _) (.lsv []) = true
        simp [eqOk]
      · refine out fr _ (good _ ?_)
        show eqvL ((brL ks (((xs.length : Nat) : Int).toNat)).map fun k => Dv.int (k : Nat)) [] = true ↔ _
        rw [eqvL_nil, empt, e]
        exact brL_nil
end K21

set_option maxHeartbeats 4000000
namespace K21
open PySem PySem.Spec L2 DL
open PyProof.Rows hiding St
theorem rd__law_door : ∀ ds H Q, sp__law_door ds H Q → td__law_door (outD Q) (startD 3 ds) H := by
  rintro ds H Q ⟨k, d, rfl, hk, hk2, h, q⟩
  have last : ∀ x : Str, (x = "kinds" ↔ kindsB d = false) → (outD Q).rt (.str x) H := fun x z => rd_out (q x z)
  have other : kindsB d = true → (outD Q).rt (.str "other") H := fun e => last _ ⟨fun z => absurd z (by decide), fun z => by rw [e] at z; cases z⟩
  have kinds : kindsB d = false → (outD Q).rt (.str "kinds") H := fun e => last _ ⟨fun _ => e, fun _ => rfl⟩
  have letx : kindsB d = true → (outD Q).rt (.str "let") H := fun e => last _ ⟨fun z => absurd z (by decide), fun z => by rw [e] at z; cases z⟩
  refine ⟨_, rfl, rfl, fun e => ?_, fun e => ⟨_, rfl, rfl, fun e => ?_, fun e => ⟨_, rfl, rfl, fun e => ?_, fun e => ⟨_, rfl, rfl, fun e => ?_, fun e => ⟨_, rfl, rfl, fun e => ?_, fun e => ?_⟩⟩⟩⟩⟩
  · exact ⟨Nat.zero_le _, _, rfl, rfl, d, rfl, h, fun e => ⟨_, rfl, other e⟩, fun e => ⟨_, rfl, kinds e⟩⟩
  · exact ⟨_, rfl, Nat.zero_le _, Nat.zero_le _, d, rfl, h, fun e => ⟨_, rfl, other e⟩, fun e => ⟨_, rfl, kinds e⟩⟩
  · exact ⟨Nat.zero_le _, _, rfl, rfl, d, rfl, h, fun e => ⟨_, rfl, other e⟩, fun e => ⟨_, rfl, kinds e⟩⟩
  · exact ⟨_, rfl, Nat.zero_le _, d, rfl, h, fun e => ⟨_, rfl, letx e⟩, fun e => ⟨_, rfl, kinds e⟩⟩
  · exact ⟨Nat.zero_le _, _, rfl, rfl, d, rfl, h, fun e => ⟨_, rfl, other e⟩, fun e => ⟨_, rfl, kinds e⟩⟩
  · exact ⟨Nat.zero_le _, _, rfl, rfl, d, rfl, h, fun e => ⟨_, rfl, other e⟩, fun e => ⟨_, rfl, kinds e⟩⟩
theorem rd__law_value_right : ∀ ds H Q, sp__law_value_right ds H Q → td__law_value_right (outD Q) (startD 5 ds) H := by
  rintro ds H Q ⟨d, rfl, h, q⟩
  have ok : ReprOk d (shD d) := repr_ok h
  have ok2 : okS (.bl (kindsB d)) = true := rfl
  refine ⟨_, rfl, d, rfl, h, _, rfl, _, ok, le_sz 2 (by decide), rfl, rfl, ?_⟩
  refine ⟨_, rfl, d, rfl, h, _, rfl, d, rfl, h, _, rfl, d, rfl, h, le_sz 3 (by decide), lc_map (f := fun i => .bl true) (by show 3 ≤ _; exact le_sz 3 (by decide)) trivial ?_ ?_⟩
  · intro i N hi hN
    have hi : i < 3 := hi
    have e : nth [Dv.bl (kindsB d), .bl (kindsB d), .bl (kindsB d)] i = .bl (kindsB d) := by
      match i, hi with
      | 0, _ => rfl
      | 1, _ => rfl
      | 2, _ => rfl
    show dgName 4 (nth [Dv.bl (kindsB d), .bl (kindsB d), .bl (kindsB d)] i) _ _ _
    rw [e]
    refine ⟨_, rfl, _, rfl, _, _, rfl, ?_⟩
    rw [beq_self_eq_true]; exact hN
  refine ⟨[true, true, true], rfl, fun e => (nomatch e), fun _ => ?_⟩
  refine ⟨⟨by decide, by decide⟩, fun i σ H' => H' = H ∧ ∃ b3, σ = [some d, some (.bl (kindsB d)), some (.str (shD d)), b3, none], ⟨rfl, none, rfl⟩, fun _ _ _ _ _ => trivial, ?_, ?_⟩
  · rintro i σ H' hi ⟨rfl, b3, rfl⟩
    have hi : i < 6 := hi
    refine ⟨_, rfl, _, rfl, _, d, rfl, by omega, by omega, h, fun x hx => ⟨rfl, _, rfl, rfl, fun e => ?_, fun e => ⟨rfl, _, rfl⟩⟩⟩
    have e : (eqv (.bl (eqv (.str x) (.str "kinds"))) (.bl (kindsB d))) = true := e
    rw [eqv_str] at e
    have e : (decide (x = "kinds") == kindsB d) = true := e
    rw [beq_iff_eq] at e
    cases z : kindsB d with
    | true => rw [z, decide_eq_true_eq, hx] at e; rw [z] at e; cases e
    | false => rw [z, decide_eq_false_iff_not, hx] at e; exact absurd z e
  · rintro σ H' ⟨rfl, b3, rfl⟩
    refine ⟨_, rfl, _, ok, _, rfl, rfl, ?_⟩
    rw [show eqv (.str (shD d)) (.str (shD d)) = true by rw [eqv_str]; simp]
    exact rd_out q
end K21

set_option maxHeartbeats 4000000
namespace DL
open PySem PySem.Spec L2
open PyProof.Rows hiding St
theorem vals_map {α : Type} {b n z : Nat} {w : α → Dv} : ∀ {xs : List α}, (∀ x ∈ xs, Val b n z (w x)) → Vals' b n ((z + 2) * xs.length) (xs.map w)
  | [], _ => ⟨(fun _ m => nomatch m), (fun _ m => nomatch m), Nat.zero_le _⟩
  | x :: xs, h => by
    have := Vals'.cons (h x List.mem_cons_self) (vals_map (xs := xs) fun y m => h y (List.mem_cons_of_mem _ m))
    exact this.mono (hz := by rw [List.length_cons, Nat.mul_succ]; omega)
theorem hiS_val {b n : Nat} {x : Str} (h : hiS x = true) : Val b n 102 (.str x) := by
  unfold hiS at h
  simp only [Bool.and_eq_true, decide_eq_true_eq] at h
  have : (sg x).all (· < 128) = true := List.all_eq_true.mpr fun c m => decide_eq_true (runC_lt (List.all_eq_true.mp h.2 c m))
  exact (val_str (b := b) (n := n) this).mono
theorem form_val {ks : Knds} (F : FormK ks) : Val 110 5 262000 (ksD ks) := by
  have hm : ∀ k ∈ ks, ∀ m ∈ k.2, Val 110 2 528 (mkD m) := fun k mk m mm => by
    have f := (vals_map (w := Dv.str) (b := 110) (n := 0) (z := 102) fun f mf => hiS_val (F.fh k mk m mm f mf)).tup
    have l := F.f4 k mk m mm
    have := (Vals'.cons (hiS_val (b := 110) (n := 1) (F.mh k mk m mm)) (Vals'.one (f.mono (hz := show _ ≤ 419 by omega)))).tup
    exact this.mono
  have hk : ∀ k ∈ ks, Val 110 4 4352 (kdD k) := fun k mk => by
    have f := (vals_map (w := mkD) (hm k mk)).tup
    have l := F.m2 k mk
    have := (Vals'.cons (hiS_val (b := 110) (n := 3) (F.hi k mk)) (Vals'.one (f.mono (hz := show _ ≤ 4243 by omega)))).tup
    exact this.mono
  have := (vals_map (w := kdD) hk).tup
  have l := F.l2
  exact this.mono
theorem Vals'.all {b n z : Nat} {ds : List Dv} (h : Vals' b n z ds) (hb : b ≤ 1900 := by omega) (hn : n ≤ 90 := by omega) (hz : z ≤ 16000000 := by omega) : ∀ d ∈ ds, VD d := fun d m => (h.mem m).mono
end DL
namespace K21
open PySem PySem.Spec L2 DL
open PyProof.Rows hiding St
theorem rd__law_barren : ∀ ds H Q, sp__law_barren ds H Q → td__law_barren (outD Q) (startD 11 ds) H := by
  rintro ds H Q ⟨c, l, n, ks, rfl, hg, hk6, hW, q⟩
  have s16 := sz16
  have G := goodK_iff.mp hg
  have kl : (ks.map kdD).length = ks.length := List.length_map _
  have k1 := G.l1
  have hw : ∀ (H : DH) (R : DIt → DH → Prop), walkD (ksD ks) H R = R (tI (ks.map kdD)) H := fun _ _ => rfl
  refine ⟨_, rfl, ?_⟩
  show walkD (ksD ks) H _
  rw [hw]
  refine lc_map (f := fun i => .str (rdK (nth (ks.map kdD) i)).1) (by show (ks.map kdD).length ≤ _; omega) trivial ?_ ?_
  · intro i N hi hN
    have hi : i < ks.length := by have : i < (ks.map kdD).length := hi; omega
    show dgTup 2 _ (nth (ks.map kdD) i) _ _ _
    rw [nth_map hi, rdK_kdD] at hN
    rw [nth_map hi]
    exact ⟨rfl, rfl, _, rfl, hN⟩
  have et : (List.range (tI (ks.map kdD)).n).map (fun i => Dv.str (rdK (nth (ks.map kdD) i)).1) = (nmsK ks).map .str := by
    show (List.range (ks.map kdD).length).map _ = _
    rw [range_nth (fun d => Dv.str (rdK d).1), List.map_map, List.map_map]
    apply List.map_congr_left
    intro k _
    show Dv.str (rdK (kdD k)).1 = .str k.1
    rw [rdK_kdD]
  rw [et]
  refine ⟨Nat.zero_le _, fun p1 h1 => ⟨le_sz 2 (by decide), rfl, rfl, ?_⟩⟩
  have f1 := hW.free h1
  simp only [wipeD, startD, List.set_cons_zero, List.set_cons_succ, List.map_cons, List.map_nil, List.length_cons, List.length_nil, List.replicate, List.cons_append, List.nil_append, Nat.reduceSub, Nat.reduceAdd, Nat.zero_add]
  refine ⟨_, rfl, ?_⟩
  show walkD (ksD ks) _ _
  rw [hw]
  have tl : ((nmsK ks).map Dv.str).length = ks.length := by rw [List.length_map, List.length_map]
  refine ⟨fun i σ H' => ∃ (b4 b5 b6 b7 b8 b9 b10 : Option Dv), σ = [some (.ref c), some (ksD ks), some (.lsv ((nmsK ks).map .str)), some (.ref p1), b4, b5, b6, b7, b8, b9, b10] ∧ ∃ ks' : Knds, ks'.length = i ∧ WellAt c l (n + 1000 - 30 * i) H' ∧ H' p1 = some (.lst (ks'.map kdD)) ∧ (∀ a, H a ≠ none → a ≠ c → a ≠ l → H' a = H a) ∧
    ∀ k ∈ ks', hiS k.1 = true ∧ 1 ≤ k.2.length ∧ k.2.length ≤ 8 ∧ ∀ m ∈ k.2, hiS m.1 = true ∧ m.2.length ≤ 4 ∧ ∀ f ∈ m.2, hiS f = true,
    ⟨_, _, _, _, _, _, _, rfl, [], rfl, hW.new h1, upD_same, fun a x _ _ => upD_ne (fun e => x (by rw [e]; exact h1)), fun _ m => (nomatch m)⟩, fun _ _ _ _ _ => trivial, ?_, ?_⟩
  · rintro i σ H1 hi ⟨b4, b5, b6, b7, b8, b9, b10, rfl, ks', rfl, W1, hp1, old, fm⟩
    have hi : ks'.length < ks.length := by have : ks'.length < (ks.map kdD).length := hi; omega
    show dgTup 2 _ (nth (ks.map kdD) ks'.length) _ _ _
    rw [nth_map hi]
    have mk := List.getElem_mem hi
    revert mk
    generalize ks[ks'.length] = kk
    intro mk
    have m1 := G.m1 kk mk
    have m8 := G.m2 kk mk
    refine ⟨rfl, rfl, Nat.zero_le _, fun p2 h2 => ⟨_, rfl, ?_⟩⟩
    have f2 := W1.free h2
    have g2 : H p2 = none := by
      cases e : H p2 with
      | none => rfl
      | some o => have := old p2 (by rw [e]; exact fun z => nomatch z) f2.1 f2.2; rw [h2, e] at this; cases this
    have n12 : p1 ≠ p2 := fun e => by rw [← e, hp1] at h2; cases h2
    refine ⟨fun j σ H' => ∃ (b7 b8 b9 b10 : Option Dv), σ = [some (.ref c), some (ksD ks), some (.lsv ((nmsK ks).map .str)), some (.ref p1), some (.str kk.1), some (.tup (kk.2.map mkD)), some (.ref p2), b7, b8, b9, b10] ∧ ∃ ms : List Mk, ms.length = j ∧ WellAt c l (n + 1000 - 30 * ks'.length - 3 * j) H' ∧ H' p1 = some (.lst (ks'.map kdD)) ∧ H' p2 = some (.lst (ms.map mkD)) ∧ (∀ a, H a ≠ none → a ≠ c → a ≠ l → H' a = H a) ∧
      ∀ m ∈ ms, hiS m.1 = true ∧ m.2.length ≤ 4 ∧ ∀ f ∈ m.2, hiS f = true, ⟨_, _, _, _, rfl, [], rfl, W1.new h2, by rw [upD_ne n12]; exact hp1, upD_same, fun a x y z => by rw [upD_ne (fun e => x (by rw [e]; exact g2))]; exact old a x y z, fun _ m => (nomatch m)⟩, fun _ _ _ _ _ => trivial, ?_, ?_⟩
    · rintro j σ H2 hj ⟨b7, b8, b9, b10, rfl, ms, rfl, W2, q1, q2, old2, fm2⟩
      have hj : ms.length < kk.2.length := by have : ms.length < (kk.2.map mkD).length := hj; rwa [List.length_map] at this
      show dgTup 2 _ (nth (kk.2.map mkD) ms.length) _ _ _
      rw [nth_map hj]
      have mm := G.mh kk mk _ (List.getElem_mem hj)
      revert mm
      generalize kk.2[ms.length] = mo
      intro mm
      refine ⟨rfl, rfl, le_sz 4 (by decide), _, rfl, c, l, _, n + 1000 - 30 * ks'.length - 3 * ms.length - 1, rfl, by decide, by decide, W2.le (by omega), fun r H3 a3 b3 t3 => ix_any a3 b3 fun v hv => ?_⟩
      obtain ⟨v, rfl, v0, v1⟩ : ∃ k : Int, v = .int k ∧ 0 ≤ k ∧ k ≤ 2 := by
        simp only [List.mem_cons, List.not_mem_nil, or_false] at hv
        rcases hv with rfl | rfl | rfl | rfl <;> exact ⟨_, rfl, by decide, by decide⟩
      have r1 : H3 p1 = some (.lst (ks'.map kdD)) := by rw [t3.2 p1 f1.1 f1.2]; exact q1
      have r2 : H3 p2 = some (.lst (ms.map mkD)) := by rw [t3.2 p2 f2.1 f2.2]; exact q2
      refine ⟨_, rfl, ⟨_, r2⟩, _, rfl, _, rfl, ⟨by omega, by omega⟩, fun i acc H' => ∃ fs : List Str, acc = fs.map .str ∧ fs.length = i ∧ (∀ f ∈ fs, hiS f = true) ∧ WellTo c l (n + 1000 - 30 * ks'.length - 3 * ms.length - 1 - i) H3 H', ⟨[], rfl, rfl, fun _ m => (nomatch m), t3.1.self⟩, fun _ _ _ _ _ => trivial, ?_, ?_⟩
      · rintro i acc H4 hi4 ⟨fs, rfl, rfl, hf, tf⟩
        have hi4 : fs.length < v.toNat := hi4
        refine ⟨fun _ => ⟨_, rfl, _, rfl, _, rfl, c, l, _, n + 1000 - 30 * ks'.length - 3 * ms.length - 1 - (fs.length + 1), rfl, by rw [tl]; omega, by rw [tl]; omega, tf.1.le (by omega), fun r H5 a5 b5 t5 => ?_⟩, fun e => (nomatch e)⟩
        rw [tl] at b5
        have hr : r.toNat < (nmsK ks).length := by rw [List.length_map]; omega
        refine ⟨_, at_map a5 hr, by rw [List.length_map]; omega, fs ++ [(nmsK ks)[r.toNat]], by rw [List.map_append]; rfl, by rw [List.length_append]; rfl, fun f mf => ?_, tf.trans t5⟩
        rcases List.mem_append.mp mf with mf | mf
        · exact hf f mf
        · rw [List.mem_singleton.mp mf]
          obtain ⟨k, hk, e⟩ := List.mem_map.mp (List.getElem_mem hr)
          rw [← e]; exact G.hi k hk
      · rintro acc H4 ⟨fs, rfl, fl, hf, tf⟩
        have fl : fs.length = v.toNat := fl
        have z2 : H4 p2 = some (.lst (ms.map mkD)) := by rw [tf.2 p2 f2.1 f2.2]; exact r2
        have w4 : WellAt c l (n + 1000 - 30 * ks'.length - 3 * (ms.length + 1)) H4 := tf.1.le (by show _ ≤ _ - v.toNat; omega)
        refine ⟨le_sz 2 (by decide), _, z2, by rw [List.length_map]; omega, _, _, _, _, rfl, ms ++ [(mo.1, fs)], by rw [List.length_append]; rfl, w4.up f2.1 f2.2, ?_, by rw [upD_same, List.map_append]; rfl, ?_, ?_⟩
        · rw [upD_ne n12, tf.2 p1 f1.1 f1.2]; exact r1
        · intro a x y z
          rw [upD_ne (fun e => x (by rw [e]; exact g2)), tf.2 a y z, t3.2 a y z]; exact old2 a x y z
        · intro m mm'
          rcases List.mem_append.mp mm' with mm' | mm'
          · exact fm2 m mm'
          · rw [List.mem_singleton.mp mm']; exact ⟨mm, by show fs.length ≤ 4; omega, hf⟩
    · rintro σ H2 ⟨b7, b8, b9, b10, rfl, ms, ml, W2, q1, q2, old2, fm2⟩
      have ml : ms.length = (kk.2.map mkD).length := ml
      rw [List.length_map] at ml
      refine ⟨_, rfl, ⟨_, q1⟩, _, rfl, _, rfl, _, q2, le_sz 2 (by decide), _, q1, by rw [List.length_map]; omega, _, _, _, _, _, _, _, rfl, ks' ++ [(kk.1, ms)], by rw [List.length_append]; rfl, ?_, by rw [upD_same, List.map_append]; rfl, ?_, ?_⟩
      · exact (W2.le (show n + 1000 - 30 * (ks'.length + 1) ≤ n + 1000 - 30 * ks'.length - 3 * (kk.2.map mkD).length by rw [List.length_map]; omega)).up f1.1 f1.2
      · intro a x y z
        rw [upD_ne (fun e => x (by rw [e]; exact h1))]; exact old2 a x y z
      · intro k mk'
        rcases List.mem_append.mp mk' with mk' | mk'
        · exact fm k mk'
        · rw [List.mem_singleton.mp mk']; exact ⟨G.hi kk mk, by show 1 ≤ ms.length; omega, by show ms.length ≤ 8; omega, fm2⟩
  · rintro σ H1 ⟨b4, b5, b6, b7, b8, b9, b10, rfl, ks', kl', W1, hp1, old, fm⟩
    have kl' : ks'.length = ks.length := by have : ks'.length = (ks.map kdD).length := kl'; omega
    refine ⟨_, rfl, _, hp1, oldH H H1, oldH_sub, q (ksD ks') _ ?_ (old_well hW (W1.le (show n ≤ n + 1000 - 30 * (ks.map kdD).length by omega)) old)⟩
    have k60 := G.l2
    exact (form_val (ks := ks') ⟨by omega, by omega, fun k m => (fm k m).1, fun k m => (fm k m).2.1, fun k m => (fm k m).2.2.1, fun k m x y => ((fm k m).2.2.2 x y).1, fun k m x y => ((fm k m).2.2.2 x y).2.1, fun k m x y => ((fm k m).2.2.2 x y).2.2⟩).mono
end K21

set_option maxHeartbeats 4000000
namespace DL
open PySem PySem.Spec L2
open PyProof.Rows hiding St
abbrev nt1 (x : Str) (k : Nat) : Str := x ++ Str.ofString (toString ((k : Nat) : Int))
theorem nt1_val {b n : Nat} {x : Str} {k : Nat} (hx : x.length ≤ 1) (ha : (sg x).all (· < 128) = true) (hk : k < 1000) : Val b n 42 (.str (nt1 x k)) := by
  have h := num_txt k hk
  have l : (nt1 x k).length ≤ 4 := by rw [app_len]; omega
  have : (sg (nt1 x k)).all (· < 128) = true := by
    rw [sg_app, List.all_append, ha, Bool.true_and]
    exact List.all_eq_true.mpr fun c m => decide_eq_true (runC_lt (h.2 c m))
  exact (val_str (b := b) (n := n) this).mono
theorem val_nil {b n : Nat} : Val b (n + 1) 3 (.tup []) := val_tup.mpr ⟨⟨(fun _ m => nomatch m), (fun _ m => nomatch m), Nat.zero_le _⟩, Nat.le_refl _⟩
theorem val_one {b n z : Nat} {d : Dv} (h : Val b n z d) : Val b (n + 1) (z + 5) (.tup [d]) := (Vals'.one h).tup
theorem val_two {b n z z' : Nat} {d e : Dv} (h : Val b n z d) (h' : Val b n z' e) : Val b (n + 1) (z + z' + 7) (.tup [d, e]) := ((Vals'.cons h (Vals'.one h')).tup).mono
theorem val_K {b n : Nat} {x : Str} (h : (sg x).all (· < 128) = true := by decide +kernel) (hl : x.length ≤ 4 := by decide +kernel) : Val b n 42 (.str x) := (val_str (b := b) (n := n) h).mono
def deepK : List Dv := (List.range 59).map fun k => .tup [.str (nt1 "K" k), .tup [.tup [.str (nt1 "M" k), .tup [.str (nt1 "K" (k + 1))]]]]
theorem deepK_len : deepK.length = 59 := by unfold deepK; rw [List.length_map, List.length_range]
theorem deepK_val : Vals' 110 5 10000 deepK := by
  have e : ∀ k ∈ List.range 59, Val 110 5 160 (Dv.tup [.str (nt1 "K" k), .tup [.tup [.str (nt1 "M" k), .tup [.str (nt1 "K" (k + 1))]]]]) := fun k mk => by
    have hk := List.mem_range.mp mk
    exact (val_two (nt1_val (by decide) (by decide +kernel) (by omega)) (val_one (val_two (nt1_val (by decide) (by decide +kernel) (by omega)) (val_one (nt1_val (b := 110) (n := 0) (x := "K") (k := k + 1) (by decide) (by decide +kernel) (by omega)))))).mono
  have := vals_map e
  rw [List.length_range] at this
  exact this.mono
theorem last3 {i : Nat} (h : i < 3) : ∃ v : Dv, nth [Dv.tup [], .tup [.str "K0"], .tup [.str "K59"]] i = v ∧ Val 110 1 60 v := by
  have h : i = 0 ∨ i = 1 ∨ i = 2 := by omega
  rcases h with rfl | rfl | rfl
  · exact ⟨.tup [], rfl, (val_nil (b := 110) (n := 0)).mono⟩
  · exact ⟨.tup [.str "K0"], rfl, (val_one (val_K (b := 110) (n := 0) (x := "K0"))).mono⟩
  · exact ⟨.tup [.str "K59"], rfl, (val_one (val_K (b := 110) (n := 0) (x := "K59"))).mono⟩
end DL
namespace K21
open PySem PySem.Spec L2 DL
open PyProof.Rows hiding St
theorem rd__law_wide : ∀ ds H Q, sp__law_wide ds H Q → td__law_wide (outD Q) (startD 8 ds) H := by
  rintro ds H Q ⟨c, l, n, rfl, hW, q⟩
  have s16 := sz16
  refine ⟨Nat.zero_le _, fun p hp => ?_⟩
  have fp := hW.free hp
  have lg : ∀ k : Nat, k < 1000 → ((k : Nat) : Int).natAbs.log2 < 1920 := fun k h => Nat.lt_of_lt_of_le (log2_nat (a := 10) (by omega) (by decide)) (by decide)
  have nl : ∀ (k : Nat), k < 1000 → (1 : Nat) + (Str.ofString (toString ((k : Nat) : Int))).length ≤ sizeLine := fun k h => by have := (num_txt k h).1; omega
  refine ⟨le_sz 3 (by decide), fun i σ H' => (∃ b2, σ = [some (.ref c), some (.ref p), b2, none, none, none, none, none]) ∧ ∃ xs : List Dv, H' = upD H p (.lst xs) ∧ xs.length = i ∧ ∀ d ∈ xs, VD d, ⟨⟨none, rfl⟩, [], rfl, rfl, fun _ m => (nomatch m)⟩, fun _ _ _ _ _ => trivial, ?_, ?_⟩
  · rintro i σ H' hi ⟨⟨b2, rfl⟩, xs, rfl, rfl, hx⟩
    have hi : xs.length < 3 := hi
    obtain ⟨v, ev, v0, v1⟩ : ∃ v : Int, nth [Dv.int 59, .int 60, .int 61] xs.length = .int v ∧ 0 ≤ v ∧ v ≤ 61 := by
      match xs.length, hi with
      | 0, _ => exact ⟨_, rfl, by decide, by decide⟩
      | 1, _ => exact ⟨_, rfl, by decide, by decide⟩
      | 2, _ => exact ⟨_, rfl, by decide, by decide⟩
    show dgName 2 (nth [Dv.int 59, .int 60, .int 61] xs.length) _ _ _
    rw [ev]
    refine ⟨_, rfl, ⟨_, upD_same⟩, _, rfl, ⟨by omega, by omega⟩, lc_map (f := fun k => .tup [.str (nt1 "K" k), .tup [.tup [.str (nt1 "M" k), .tup []]]]) (by show v.toNat ≤ _; omega) trivial ?_ ?_⟩
    · intro k N hk hN
      have hk : k < v.toNat := hk
      show dgName 7 (Dv.int (0 + ((k : Nat) : Int) * 1)) _ _ _
      rw [show (0 + ((k : Nat) : Int) * 1) = (k : Nat) by omega]
      exact ⟨_, rfl, lg k (by omega), nl k (by omega), _, rfl, lg k (by omega), nl k (by omega), Nat.zero_le _, le_sz 2 (by decide), le_sz 1 (by decide), le_sz 2 (by decide), hN⟩
    · refine ⟨_, upD_same, by omega, ⟨_, rfl⟩, xs ++ [.tup ((List.range v.toNat).map fun k => .tup [.str (nt1 "K" k), .tup [.tup [.str (nt1 "M" k), .tup []]]])], upD_upD, by rw [List.length_append]; rfl, fun d md => ?_⟩
      rcases List.mem_append.mp md with md | md
      · exact hx d md
      · rw [List.mem_singleton.mp md]
        have e : ∀ k ∈ List.range v.toNat, Val 110 4 106 (.tup [.str (nt1 "K" k), .tup [.tup [.str (nt1 "M" k), .tup []]]]) := fun k mk => by
          have hk := List.mem_range.mp mk
          exact (val_two (nt1_val (by decide) (by decide +kernel) (by omega)) (val_one (val_two (nt1_val (by decide) (by decide +kernel) (by omega)) (val_nil (b := 110) (n := 0))))).mono
        have := (vals_map e).tup
        exact this.mono (hz := by rw [List.length_range]; omega)
  rintro σ H' ⟨⟨b2, rfl⟩, xs, rfl, xl, hx⟩
  have xl : xs.length = 3 := xl
  refine ⟨le_sz 3 (by decide), fun i σ H' => (∃ b2 b7, σ = [some (.ref c), some (.ref p), b2, none, none, none, none, b7]) ∧ ∃ xs : List Dv, H' = upD H p (.lst xs) ∧ xs.length = 3 + i ∧ ∀ d ∈ xs, VD d, ⟨⟨b2, none, rfl⟩, xs, rfl, xl, hx⟩, fun _ _ _ _ _ => trivial, ?_, ?_⟩
  · rintro i σ H' hi ⟨⟨b2, b7, rfl⟩, xs, rfl, xl, hx⟩
    have hi : i < 3 := hi
    obtain ⟨v, ev, v0, v1⟩ : ∃ v : Int, nth [Dv.int 7, .int 8, .int 9] i = .int v ∧ 0 ≤ v ∧ v ≤ 9 := by
      match i, hi with
      | 0, _ => exact ⟨_, rfl, by decide, by decide⟩
      | 1, _ => exact ⟨_, rfl, by decide, by decide⟩
      | 2, _ => exact ⟨_, rfl, by decide, by decide⟩
    show dgName 2 (nth [Dv.int 7, .int 8, .int 9] i) _ _ _
    rw [ev]
    refine ⟨_, rfl, ⟨_, upD_same⟩, _, rfl, ⟨by omega, by omega⟩, lc_map (f := fun k => .tup [.str (nt1 "M" k), .tup (List.replicate (if decide (((k : Nat) : Int) > 0) = true then (1 : Int) else 0).toNat [Dv.str "K"]).flatten]) (by show v.toNat ≤ _; omega) trivial ?_ ?_⟩
    · intro k N hk hN
      have hk : k < v.toNat := hk
      show dgName 7 (Dv.int (0 + ((k : Nat) : Int) * 1)) _ _ _
      rw [show (0 + ((k : Nat) : Int) * 1) = (k : Nat) by omega]
      refine ⟨_, rfl, lg k (by omega), nl k (by omega), le_sz 1 (by decide), _, rfl, ?_, ?_, ?_, le_sz 2 (by decide), hN⟩
      · split <;> decide
      · split <;> decide
      · split <;> (show 1 * _ ≤ _; rw [s16]; decide)
    · refine ⟨le_sz 2 (by decide), le_sz 1 (by decide), _, upD_same, by omega, ⟨_, _, rfl⟩, xs ++ [.tup [.tup [.str "K", .tup ((List.range v.toNat).map fun k => .tup [.str (nt1 "M" k), .tup (List.replicate (if decide (((k : Nat) : Int) > 0) = true then (1 : Int) else 0).toNat [Dv.str "K"]).flatten])]]], upD_upD, by simp only [List.length_append, List.length_singleton]; omega, fun d md => ?_⟩
      rcases List.mem_append.mp md with md | md
      · exact hx d md
      · rw [List.mem_singleton.mp md]
        have e : ∀ k ∈ List.range v.toNat, Val 110 4 106 (.tup [.str (nt1 "M" k), .tup (List.replicate (if decide (((k : Nat) : Int) > 0) = true then (1 : Int) else 0).toNat [Dv.str "K"]).flatten]) := fun k mk => by
          have hk := List.mem_range.mp mk
          have r : Val 110 3 50 (.tup (List.replicate (if decide (((k : Nat) : Int) > 0) = true then (1 : Int) else 0).toNat [Dv.str "K"]).flatten) := by
            split
            · exact (val_one (val_K (b := 110) (n := 0) (x := "K"))).mono
            · exact (val_nil (b := 110) (n := 0)).mono
          exact (val_two (nt1_val (by decide) (by decide +kernel) (by omega)) r).mono
        have := val_one (val_two (val_K (x := "K")) ((vals_map e).tup))
        exact this.mono (hz := by rw [List.length_range]; omega)
  rintro σ H' ⟨⟨b2, b7, rfl⟩, xs, rfl, xl, hx⟩
  have xl : xs.length = 6 := xl
  refine ⟨le_sz 3 (by decide), fun i σ H' => (∃ b2 b7, σ = [some (.ref c), some (.ref p), b2, none, none, none, none, b7]) ∧ ∃ xs : List Dv, H' = upD H p (.lst xs) ∧ xs.length = 6 + i ∧ ∀ d ∈ xs, VD d, ⟨⟨b2, b7, rfl⟩, xs, rfl, xl, hx⟩, fun _ _ _ _ _ => trivial, ?_, ?_⟩
  · rintro i σ H' hi ⟨⟨b2, b7, rfl⟩, xs, rfl, xl, hx⟩
    have hi : i < 3 := hi
    obtain ⟨v, ev, v0, v1⟩ : ∃ v : Int, nth [Dv.int 3, .int 4, .int 5] i = .int v ∧ 0 ≤ v ∧ v ≤ 5 := by
      match i, hi with
      | 0, _ => exact ⟨_, rfl, by decide, by decide⟩
      | 1, _ => exact ⟨_, rfl, by decide, by decide⟩
      | 2, _ => exact ⟨_, rfl, by decide, by decide⟩
    show dgName 2 (nth [Dv.int 3, .int 4, .int 5] i) _ _ _
    rw [ev]
    refine ⟨_, rfl, ⟨_, upD_same⟩, Nat.zero_le _, le_sz 2 (by decide), le_sz 1 (by decide), _, rfl, by omega, by omega, ?_, le_sz 2 (by decide), le_sz 2 (by decide), le_sz 2 (by decide), le_sz 1 (by decide), _, upD_same, by omega, ⟨_, _, rfl⟩, xs ++ [.tup [.tup [.str "K", .tup [.tup [.str "M", .tup []], .tup [.str "N", .tup (List.replicate v.toNat [Dv.str "K"]).flatten]]]]], upD_upD, by simp only [List.length_append, List.length_singleton]; omega, fun d md => ?_⟩
    · show 1 * v.toNat ≤ _
      omega
    · rcases List.mem_append.mp md with md | md
      · exact hx d md
      · rw [List.mem_singleton.mp md]
        have r := ((Vals'.one (val_K (b := 110) (n := 0) (x := "K"))).rep v.toNat).tup
        have r : Val 110 1 250 (.tup (List.replicate v.toNat [Dv.str "K"]).flatten) := r.mono
        have := val_one (val_two (val_K (x := "K")) (val_two (val_two (val_K (x := "M")) (val_nil (b := 110) (n := 0))) (val_two (val_K (x := "N")) r)))
        exact this.mono
  rintro σ H' ⟨⟨b2, b7, rfl⟩, xs, rfl, xl, hx⟩
  have xl : xs.length = 9 := xl
  refine ⟨⟨by decide, by decide⟩, lc_map (f := fun k => .tup [.str (nt1 "K" k), .tup [.tup [.str (nt1 "M" k), .tup [.str (nt1 "K" (k + 1))]]]]) (by show 59 ≤ _; rw [s16]; decide) trivial ?_ ?_⟩
  · intro k N hk hN
    have hk : k < 59 := hk
    show dgName 7 (Dv.int (0 + ((k : Nat) : Int) * 1)) _ _ _
    rw [show (0 + ((k : Nat) : Int) * 1) = (k : Nat) by omega]
    exact ⟨_, rfl, lg k (by omega), nl k (by omega), _, rfl, lg k (by omega), nl k (by omega), _, rfl, lg (k + 1) (by omega), nl (k + 1) (by omega), le_sz 1 (by decide), le_sz 2 (by decide), le_sz 1 (by decide), le_sz 2 (by decide), hN⟩
  have dl := deepK_len
  have dv := deepK_val
  refine ⟨Nat.zero_le _, le_sz 1 (by decide), le_sz 1 (by decide), le_sz 3 (by decide), fun i σ H' => (∃ b4 b5 b6, σ = [some (.ref c), some (.ref p), b2, some (.tup deepK), b4, b5, b6, b7]) ∧ ∃ xs : List Dv, H' p = some (.lst xs) ∧ WellAt c l (n + 10 - i) H' ∧ (∀ a, a ≠ c → a ≠ l → a ≠ p → H' a = H a) ∧ xs.length = 9 + i ∧ ∀ d ∈ xs, VD d,
    ⟨⟨none, none, none, rfl⟩, xs, upD_same, hW.new hp, fun a _ _ z => upD_ne z, xl, hx⟩, fun _ _ _ _ _ => trivial, ?_, ?_⟩
  · rintro i σ H1 hi ⟨⟨b4, b5, b6, rfl⟩, xs, hp1, W1, fr, xl, hx⟩
    have hi : i < 3 := hi
    obtain ⟨v, ev, vv⟩ := last3 hi
    show dgName 4 (nth [Dv.tup [], .tup [.str "K0"], .tup [.str "K59"]] i) _ _ _
    rw [ev]
    have last : Val 110 4 500 (.tup [.str "K59", .tup [.tup [.str "L", v], .tup [.str "M59", .tup [.str "K59", .str "K0"]]]]) :=
      (val_two (val_K (x := "K59")) (val_two (val_two (val_K (x := "L")) vv) (val_two (val_K (x := "M59")) (val_two (val_K (b := 110) (n := 0) (x := "K59")) (val_K (x := "K0")))))).mono
    have l5 : Val 110 5 500 (.tup [.str "K59", .tup [.tup [.str "L", v], .tup [.str "M59", .tup [.str "K59", .str "K0"]]]]) := last.mono
    have fv : Vals' 110 5 10600 (deepK ++ [Dv.tup [.str "K59", .tup [.tup [.str "L", v], .tup [.str "M59", .tup [.str "K59", .str "K0"]]]]]) := (dv.append (Vals'.one l5)).mono
    have fl : (deepK ++ [Dv.tup [.str "K59", .tup [.tup [.str "L", v], .tup [.str "M59", .tup [.str "K59", .str "K0"]]]]]).length = 60 := by rw [List.length_append, dl]; rfl
    refine ⟨_, rfl, _, rfl, le_sz 2 (by decide), le_sz 2 (by decide), le_sz 2 (by decide), le_sz 2 (by decide), le_sz 2 (by decide), le_sz 1 (by decide), by rw [dl]; exact le_sz 60 (by decide), ?_⟩
    have cv := fun r => (fv.cut (some r) none).append (fv.cut none (some r))
    have cl := fun r => cut_len (deepK ++ [Dv.tup [.str "K59", .tup [.tup [.str "L", v], .tup [.str "M59", .tup [.str "K59", .str "K0"]]]]]) (some r) none
    have cl2 := fun r => cut_len (deepK ++ [Dv.tup [.str "K59", .tup [.tup [.str "L", v], .tup [.str "M59", .tup [.str "K59", .str "K0"]]]]]) none (some r)
    rw [fl] at cl cl2
    refine ⟨_, rfl, c, l, _, n + 10 - (i + 1), rfl, by decide, by decide, W1.le (by omega), fun r H2 a2 b2 t2 => ?_⟩
    have hp2 : H2 p = some (.lst xs) := by rw [t2.2 p fp.1 fp.2]; exact hp1
    have cl := cl r
    have cl2 := cl2 r
    refine ⟨_, rfl, ⟨_, hp2⟩, _, rfl, _, rfl, _, rfl, _, rfl, Nat.le_trans (Nat.add_le_add cl cl2) (by rw [s16]; decide), _, hp2, by omega, ⟨_, _, _, rfl⟩, _, upD_same, t2.1.up fp.1 fp.2, fun a x y z => by rw [upD_ne z, t2.2 a x y]; exact fr a x y z, by simp only [List.length_append, List.length_singleton]; omega, fun d md => ?_⟩
    rcases List.mem_append.mp md with md | md
    · exact hx d md
    · rw [List.mem_singleton.mp md]
      exact (cv r).tup.mono
  · rintro σ H1 ⟨⟨b4, b5, b6, rfl⟩, xs, hp1, W1, fr, xl, hx⟩
    have xl : xs.length = 12 := xl
    exact ⟨_, rfl, rd_out (q xs p H1 hx xl hp hp1 (W1.le (by show n ≤ n + 10 - 3; omega)) fr)⟩
end K21

set_option maxHeartbeats 4000000
namespace DL
open PySem PySem.Spec L2
open PyProof.Rows hiding St
theorem szDs_split {xs : List Dv} {j : Nat} (h : j < xs.length) : szDs xs = szDs (xs.take j) + (szD xs[j] + 2) + szDs (xs.drop (j + 1)) := by
  have e : xs = xs.take j ++ (xs[j] :: xs.drop (j + 1)) := by
    conv => lhs; rw [← List.take_append_drop j xs]
    rw [List.drop_eq_getElem_cons h]
  conv => lhs; rw [e]
  rw [szDs_append, szDs]
  omega
theorem ascii_str {x : Str} (h : okD 0 (.str x) = true) : (sg x).all (· < 128) = true := h
theorem ascii_cut {x : Str} (h : (sg x).all (· < 128) = true) (lo hi : Option Int) : (sg (cutS x lo hi)).all (· < 128) = true :=
  List.all_eq_true.mpr fun c m => List.all_eq_true.mp h c (cut_mem m)
theorem ascii_app {x y : Str} (h : (sg x).all (· < 128) = true) (h' : (sg y).all (· < 128) = true) : (sg (x ++ y)).all (· < 128) = true := by rw [sg_app, List.all_append, h, h']; rfl
theorem lower_len {x : Str} (h : (sg x).all (· < 128) = true) : (Txt.lower x).length = x.length := by rw [← sg_len, sg_lower h, List.length_map, sg_len]
theorem upper_len {x : Str} (h : (sg x).all (· < 128) = true) : (Txt.upper x).length = x.length := by rw [← sg_len, sg_upper h, List.length_map, sg_len]
theorem ascii_lower {x : Str} (h : (sg x).all (· < 128) = true) : (sg (Txt.lower x)).all (· < 128) = true := by
  rw [sg_lower h, List.all_map, List.all_eq_true]
  intro c m
  have := of_decide_eq_true (List.all_eq_true.mp h c m)
  show decide (PyProof.Rows.lo1 c < 128) = true
  unfold PyProof.Rows.lo1
  split <;> exact decide_eq_true (by omega)
theorem ascii_upper {x : Str} (h : (sg x).all (· < 128) = true) : (sg (Txt.upper x)).all (· < 128) = true := by
  rw [sg_upper h, List.all_map, List.all_eq_true]
  intro c m
  have := of_decide_eq_true (List.all_eq_true.mp h c m)
  show decide (PyProof.Rows.up1 c < 128) = true
  unfold PyProof.Rows.up1
  split <;> exact decide_eq_true (by omega)
theorem ascii_int (i : Int) : (sg (Str.ofString (toString i))).all (· < 128) = true := by
  have nat : ∀ n : Nat, (sg (Str.ofString (toString ((n : Nat) : Int)))).all (· < 128) = true := fun n => by
    have e : sg (Str.ofString (toString ((n : Nat) : Int))) = TL.numL n := TL.tl_num n
    rw [e, List.all_eq_true]
    intro c m
    have := TL.numL_digits n c m
    exact decide_eq_true (by omega)
  cases i with
  | ofNat n => exact nat n
  | negSucc n =>
    have e : toString (Int.negSucc n) = "-" ++ toString (((n + 1 : Nat)) : Int) := rfl
    have e2 : Str.ofString ("-" ++ toString (((n + 1 : Nat)) : Int)) = Str.ofString "-" ++ Str.ofString (toString (((n + 1 : Nat)) : Int)) := by
      apply sg_ext
      rw [sg_app, Str.ofString_eq_toList, Str.ofString_eq_toList, Str.ofString_eq_toList]
      simp [sg, String.toList_append]
    rw [e, e2]
    exact ascii_app (by decide +kernel) (nat (n + 1))
theorem int_val {b n : Nat} {i : Int} (h : i.natAbs < 2 ^ b) (hb : 0 < b) : Val b n (b + 3) (.int i) := val_int h hb
theorem pow2 {b : Nat} : 2 ^ (b + 60) = 2 ^ b * 2 ^ 60 := Nat.pow_add 2 b 60
end DL

set_option maxHeartbeats 4000000
namespace DL
open PySem PySem.Spec L2
open PyProof.Rows hiding St
def ODD : List Dv := [.str "", .str "kind", .str "letters", .str "start", .str "state", .str "Kind", .str "a", .str "A", .str "a1", .str "A1", .str "1A", .str "A_", .str "A b", .str "Abcdefghij", .str "abcdefghij",
  .str "Abcdefghijk", .str "abcdefghijk", .int 0, .int 1, .int (-1), .int 2, .bl true, .bl false, .non, .tup [], .lsv [], .dcv [] [], .tup [.str "A"], .tup [.str "A", .tup []], .tup [.str "A", .tup [.tup [.str "B", .tup []]]]]
theorem ODD_all : (ODD.all fun d => okD 2 d && decide (dpD d ≤ 4) && decide (szD d ≤ 500)) = true := by decide +kernel
theorem ODD_val {d : Dv} (h : d ∈ ODD) : Val 2 4 500 d := by
  have := List.all_eq_true.mp ODD_all d h
  simp only [Bool.and_eq_true, decide_eq_true_eq] at this
  exact ⟨this.1.1, this.1.2, this.2⟩
def ODD2 : List Dv := [.tup [.int 0, .int 1], .tup [.str "A", .tup [.str "A"]]]
theorem ODD2_all : (ODD2.all fun d => okD 2 d && decide (dpD d ≤ 4) && decide (szD d ≤ 500)) = true := by decide +kernel
theorem ODD2_val {d : Dv} (h : d ∈ ODD2) : Val 2 4 500 d := by
  have := List.all_eq_true.mp ODD2_all d h
  simp only [Bool.and_eq_true, decide_eq_true_eq] at this
  exact ⟨this.1.1, this.1.2, this.2⟩
def SGS : Str := " !\"#$&'()*+,-./0123456789:;<=>?@ABCDEFGHIJKLMNOPQRSTUVWXYZ[\\]^_`abcdefghijklmnopqrstuvwxyz{|}~\n"
theorem SGS_ok : (sg SGS).all (· < 128) = true := by decide +kernel
theorem SGS_len : 1 ≤ SGS.length ∧ SGS.length ≤ 200 := by decide +kernel
theorem Vals'.val {b n z : Nat} {ds : List Dv} (h : Vals' b n z ds) : Val b (n + 1) (z + 3) (.tup ds) := h.tup
/-- an int that a bool or an int stands for -/
theorem ival {b n z : Nat} {i : Int} {m : Nat} (h : i.natAbs < 2 ^ (b + 60)) (hz : b + 63 ≤ z) : Val (b + 60) n z (.int i) := (int_val (n := n) h (by omega)).mono
theorem six {n d : Nat} {r : Int} (h : 0 ≤ r) : HT.sIx n d (some r) = min r.toNat n := by
  have := HT.sIx_nat n d r.toNat
  rwa [show ((r.toNat : Nat) : Int) = r by omega] at this
theorem cut_two (x : Str) {r : Int} (h : 0 ≤ r) : (cutS x none (some r)).length + (cutS x (some r) none).length = x.length := by
  rw [← sg_len, ← sg_len, sg_cut, sg_cut, six h, six h]
  rw [List.length_take, List.length_drop, List.length_take, List.length_drop, sg_len]
  show min (min r.toNat x.length - 0) (x.length - 0) + min (x.length - min r.toNat x.length) (x.length - min r.toNat x.length) = x.length
  omega
theorem cut_two1 (x : Str) {r : Int} (h : 0 ≤ r) : (cutS x none (some r)).length + (cutS x (some (r + 1)) none).length ≤ x.length := by
  rw [← sg_len, ← sg_len, sg_cut, sg_cut, six h, six (show 0 ≤ r + 1 by omega)]
  rw [List.length_take, List.length_drop, List.length_take, List.length_drop, sg_len]
  show min (min r.toNat x.length - 0) (x.length - 0) + min (x.length - min (r + 1).toNat x.length) (x.length - min (r + 1).toNat x.length) ≤ x.length
  omega
end DL
namespace K21
open PySem PySem.Spec L2 DL
open PyProof.Rows hiding St
theorem rd__law_bent (k : Nat) : ∀ ds H Q, sp__law_bent (k + 1) ds H Q → td__law_bent k (outD Q) (startD 7 ds) H := by
  rintro ds H Q ⟨c, l, n, b, m, z, d, rfl, hk, hv, hb, hb2, hz, hW, q⟩
  have s16 := sz16
  refine ⟨fun σ H1 => σ = [some (.ref c), some d, none, none, none, none, none] ∧ WellTo c l (n + 8 * k + 7) H H1, ?_, ?_⟩
  · refine ⟨_, rfl, okK_ofI hv.okI, ?_⟩
    cases d with
    | tup xs =>
      obtain ⟨m', rfl, vx, z3⟩ := hv.tups
      have xl := vx.len
      refine ⟨fun _ => ⟨_, rfl, Nat.zero_le _, by simp [eqOk], fun e => ?_, fun e => ⟨fun e => (nomatch e), fun _ => ⟨rfl, hW.self.le (by omega)⟩⟩⟩, fun e => (nomatch e)⟩
      have x0 : 0 < xs.length := by
        have e : (!eqvL xs []) = true := e
        rw [eqvL_nil] at e
        cases xs with
        | nil => cases e
        | cons _ _ => simp
      refine ⟨_, rfl, c, l, _, n + 8 * k + 7, rfl, by decide, by decide, hW.le (by omega), fun r H1 a1 b1 t1 => ⟨fun e => ?_, fun e => ⟨rfl, t1⟩⟩⟩
      refine ⟨_, rfl, _, rfl, c, l, _, n + 8 * k + 6, rfl, by omega, by omega, t1.1, fun r2 H2 a2 b2 t2 => ?_⟩
      have hj : r2.toNat < xs.length := by omega
      have c1 := cut_to xs (r := r2) a2 (by omega)
      have c2 := cut_from xs (r := r2 + 1) (by omega) (by omega)
      have e2 : (r2 + 1).toNat = r2.toNat + 1 := by omega
      rw [e2] at c2
      have vj := vx.mem (List.getElem_mem hj)
      have sp := szDs_split hj
      have dx : dpD xs[r2.toNat] < k := by
        have h1 : dpDs xs + 1 < k + 1 := hk
        have := dpDs_le.mp (Nat.le_refl (dpDs xs)) _ (List.getElem_mem hj)
        omega
      have at1 : atI xs r2 = some xs[r2.toNat] := (atI_nth a2 hj).trans (by rw [nth, List.getD_eq_getElem?_getD, List.getElem?_eq_getElem hj]; rfl)
      refine ⟨_, rfl, _, rfl, _, rfl, _, rfl, _, rfl, _, at1, c, l, n + 2, b, m', szD xs[r2.toNat], _, rfl, dx, ⟨vj.ok, vj.dp, Nat.le_refl _⟩, hb, hb2, ?_, t2.1.le (by omega), fun r3 H3 v3 t3 => ?_⟩
      · have := vj.sz; omega
      have tl : (xs.take r2.toNat).length ≤ xs.length := by rw [List.length_take]; omega
      have dl : (xs.drop (r2.toNat + 1)).length ≤ xs.length := by rw [List.length_drop]; omega
      refine ⟨le_sz 1 (by decide), by rw [c1]; show _ + 1 ≤ _; omega, _, rfl, _, rfl, by rw [c1, c2, List.length_append]; show _ + 1 + _ ≤ _; omega, ?_⟩
      rw [c1, c2]
      have V1 : Vals' b m' (szDs (xs.take r2.toNat)) (xs.take r2.toNat) := { vx.sub (List.take_sublist _ _) with sz := Nat.le_refl _ }
      have V2 : Vals' b m' (szDs (xs.drop (r2.toNat + 1))) (xs.drop (r2.toNat + 1)) := { vx.sub (List.drop_sublist _ _) with sz := Nat.le_refl _ }
      have V1 : Vals' (b + 60) (m' + 5) (szDs (xs.take r2.toNat)) (xs.take r2.toNat) := V1.mono
      have V2 : Vals' (b + 60) (m' + 5) (szDs (xs.drop (r2.toNat + 1))) (xs.drop (r2.toNat + 1)) := V2.mono
      have V := ((V1.append (Vals'.one v3)).append V2).tup
      have xz := vx.sz
      exact rd_out (q _ _ V.mono (((t1.trans t2).trans t3).le (by omega)))
    | _ => exact ⟨fun e => (nomatch e), fun _ => ⟨fun e => (nomatch e), fun _ => ⟨rfl, hW.self.le (by omega)⟩⟩⟩
  rintro σ H1 ⟨rfl, t1⟩
  refine ⟨fun σ H1 => σ = [some (.ref c), some d, none, none, none, none, none] ∧ WellTo c l (n + 8 * k + 6) H H1, ?_, ?_⟩
  · refine ⟨_, rfl, okK_ofI hv.okI, ?_⟩
    cases d with
    | tup xs =>
      obtain ⟨m', rfl, vx, z3⟩ := hv.tups
      have xl := vx.len
      refine ⟨fun _ => ⟨_, rfl, c, l, _, n + 8 * k + 6, rfl, by decide, by decide, t1.1, fun r H2 a2 b2 t2 => ⟨fun _ => ?_, fun _ => ⟨rfl, t1.trans t2⟩⟩⟩, fun e => (nomatch e)⟩
      refine ⟨_, rfl, _, rfl, c, l, _, n + 8 * k + 5, rfl, by omega, by omega, t2.1, fun r3 H3 a3 b3 t3 => ?_⟩
      have k1 := fun (lo hi : Option Int) => cut_len xs lo hi
      have e1 := k1 none (some r3)
      have e2 := k1 (some (r3 + 1)) none
      have e3 := k1 (some r3) (some (r3 + 1))
      have e4 := k1 (some r3) none
      refine ⟨_, rfl, _, rfl, _, rfl, _, rfl, by omega, _, rfl, _, rfl, _, rfl, _, rfl, _, rfl, by omega, _, rfl, _, rfl, by rw [List.length_append]; omega, _, rfl, _, rfl, _, rfl, _, rfl, by omega, le_sz 3 (by decide), ?_⟩
      refine ⟨_, rfl, _, rfl, _, rfl, by decide, by decide, by show _ * 2 ≤ _; omega, _, rfl, Nat.zero_le _, le_sz 1 (by decide), by show _ + 1 ≤ _; omega, le_sz 3 (by decide), le_sz 6 (by decide), _, rfl, c, l, _, n + 8 * k + 4, rfl, by decide, by decide, t3.1, fun r4 H4 a4 b4 t4 => ix_any a4 b4 fun w hw => ?_⟩
      have T := (((t1.trans t2).trans t3).trans t4).le (show n ≤ n + 8 * k + 4 by omega)
      have two := vx.rep 2
      have nil := Vals'.one (val_nil (b := b) (n := m'))
      simp only [List.mem_append, List.mem_cons, List.not_mem_nil, or_false] at hw
      have xz := vx.sz
      rcases hw with (rfl | rfl | rfl) | (rfl | rfl | rfl)
      · exact rd_out (q _ _ (((vx.cut none (some r3)).append (vx.cut (some (r3 + 1)) none)).tup.mono) T)
      · exact rd_out (q _ _ ((((vx.cut none (some r3)).append (vx.cut (some r3) (some (r3 + 1)))).append (vx.cut (some r3) none)).tup.mono) T)
      · exact rd_out (q _ _ (((vx.cut (some r3) none).append (vx.cut none (some r3))).tup.mono) T)
      · exact rd_out (q _ _ (vx.lsv.mono) T)
      · exact rd_out (q _ _ (two.tup.mono) T)
      · have V : Vals' b (m' + 1) (z - 3) xs := vx.mono
        exact rd_out (q _ _ ((V.append nil).tup.mono) T)
    | _ => exact ⟨fun e => (nomatch e), fun _ => ⟨fun e => (nomatch e), fun _ => ⟨rfl, t1.le (by omega)⟩⟩⟩
  rintro σ H1 ⟨rfl, t1⟩
  refine ⟨fun σ H1 => σ = [some (.ref c), some d, none, none, none, none, none] ∧ WellTo c l (n + 8 * k + 5) H H1, ?_, ?_⟩
  · refine ⟨_, rfl, okK_ofI hv.okI, ?_⟩
    cases d with
    | str x =>
      have xl := hv.strLen
      have xa : (sg x).all (· < 128) = true := hv.ok
      have sl := SGS_len
      refine ⟨fun _ => ⟨_, rfl, c, l, _, n + 8 * k + 5, rfl, by decide, by decide, t1.1, fun r H2 a2 b2 t2 => ⟨fun _ => ?_, fun _ => ⟨rfl, t1.trans t2⟩⟩⟩, fun e => (nomatch e)⟩
      refine ⟨_, rfl, _, rfl, by omega, c, l, _, n + 8 * k + 4, rfl, by omega, by omega, t2.1, fun r3 H3 a3 b3 t3 => ⟨_, rfl, _, rfl, _, rfl, by decide +kernel, c, l, _, n + 8 * k + 3, rfl, ?_, ?_, t3.1, fun r4 H4 a4 b4 t4 => ?_⟩⟩
      · show (0 : Int) < (SGS.length : Nat); omega
      · show ((SGS.length : Nat) : Int) < 2 ^ 60; omega
      have b4 : r4 < ((SGS.length : Nat) : Int) := b4
      obtain ⟨s4, e4, m4⟩ := atI_getN (xs := sg SGS) a4 (by rw [sg_len]; exact b4)
      have s4a : (sg (sgn s4)).all (· < 128) = true := by
        show (decide (s4 < 128) && true) = true
        rw [List.all_eq_true.mp SGS_ok s4 m4]; rfl
      have k1 := fun (lo hi : Option Int) => cut_le x lo hi
      have e1 := k1 none (some r3)
      have e2 := k1 (some r3) none
      have e3 := k1 (some (r3 + 1)) none
      have e5 := k1 (some 1) none
      have e6 := k1 none (some (-1))
      have e7 := k1 none (some 1)
      have s1 : (sgn s4).length = 1 := rfl
      have s1' : (⟨#[s4]⟩ : Str).length = 1 := rfl
      have ct := cut_two x a3
      have ct2 := cut_two1 x a3
      refine ⟨s4, by decide +kernel, e4, rfl, ?_⟩
      refine ⟨_, rfl, _, rfl, by omega, _, rfl, by omega, _, rfl, _, rfl, by omega, by rw [app_len]; omega, _, rfl, _, rfl, by omega, _, rfl, by omega, _, rfl, _, rfl, by omega, by rw [app_len]; omega, _, rfl, by omega, _, rfl, by omega, le_sz 4 (by decide), ?_⟩
      refine ⟨_, rfl, _, rfl, by show x.length + 1 ≤ _; omega, _, rfl, by omega, _, rfl, by omega, _, rfl, by omega, le_sz 4 (by decide), le_sz 8 (by decide), _, rfl, c, l, _, n + 8 * k + 2, rfl, by decide, by decide, t4.1, fun r5 H5 a5 b5 t5 => ix_any a5 b5 fun w hw => ?_⟩
      have T := ((((t1.trans t2).trans t3).trans t4).trans t5).le (show n ≤ n + 8 * k + 2 by omega)
      have go : ∀ y : Str, (sg y).all (· < 128) = true → y.length ≤ x.length + 1 → (outD Q).rt (.str y) H5 := fun y h1 h2 =>
        rd_out (q _ _ ((val_str (b := b + 60) (n := m + 5) h1).mono) T)
      simp only [List.mem_append, List.mem_cons, List.not_mem_nil, or_false] at hw
      rcases hw with (rfl | rfl | rfl | rfl) | (rfl | rfl | rfl | rfl)
      · refine go _ (ascii_app (ascii_app (ascii_cut xa _ _) s4a) (ascii_cut xa _ _)) ?_
        rw [app_len, app_len]; omega
      · refine go _ (ascii_app (ascii_app (ascii_cut xa _ _) s4a) (ascii_cut xa _ _)) ?_
        rw [app_len, app_len]; omega
      · exact go _ (ascii_lower xa) (by rw [lower_len xa]; omega)
      · exact go _ (ascii_upper xa) (by rw [upper_len xa]; omega)
      · exact go _ (ascii_app xa (by decide +kernel)) (by rw [app_len]; exact Nat.le_refl _)
      · exact go _ (ascii_cut xa _ _) (by omega)
      · exact go _ (ascii_cut xa _ _) (by omega)
      · exact go _ (ascii_cut xa _ _) (by omega)
    | _ => exact ⟨fun e => (nomatch e), fun _ => ⟨fun e => (nomatch e), fun _ => ⟨rfl, t1.le (by omega)⟩⟩⟩
  rintro σ H1 ⟨rfl, t1⟩
  refine ⟨fun σ H1 => σ = [some (.ref c), some d, none, none, none, none, none] ∧ WellTo c l (n + 8 * k + 4) H H1, ?_, ?_⟩
  · refine ⟨_, rfl, okK_ofI hv.okI, ?_⟩
    have P : 1 ≤ 2 ^ b := Nat.one_le_two_pow
    have P2 := pow2 (b := b)
    cases d with
    | int i =>
      have hi : i.natAbs < 2 ^ b := of_decide_eq_true hv.ok
      have lg : i.natAbs.log2 < b := log2_lt hi (by omega)
      have il : (Str.ofString (toString i)).length ≤ 1100 := by
        rw [PySem.ofString_length]
        have := int_text_length_le (a := i) (k := i.natAbs.log2 + 1) (by omega) (by omega)
        omega
      refine ⟨fun _ => ⟨_, rfl, c, l, _, n + 8 * k + 4, rfl, by decide, by decide, t1.1, fun r H2 a2 b2 t2 => ⟨fun _ => ?_, fun _ => ⟨rfl, t1.trans t2⟩⟩⟩, fun e => (nomatch e)⟩
      refine ⟨_, rfl, _, rfl, _, rfl, _, rfl, cpow_of rfl, cmulW_of b 30 hi (by decide) (by omega) (by omega), _, rfl, by omega, by omega, le_sz 5 (by decide), _, rfl, c, l, _, n + 8 * k + 3, rfl, by decide, by decide, t2.1, fun r3 H3 a3 b3 t3 => ix_any a3 b3 fun w hw => ?_⟩
      have T := ((t1.trans t2).trans t3).le (show n ≤ n + 8 * k + 3 by omega)
      have go : ∀ y : Int, y.natAbs < 2 ^ (b + 60) → (outD Q).rt (.int y) H3 := fun y h1 => rd_out (q _ _ (ival (m := 0) h1 (by omega)) T)
      simp only [List.mem_cons, List.not_mem_nil, or_false] at hw
      rcases hw with rfl | rfl | rfl | rfl | rfl
      · exact go _ (by rw [P2]; omega)
      · exact go _ (by rw [P2]; omega)
      · exact go _ (by rw [P2]; omega)
      · refine go _ ?_
        rw [P2, Int.natAbs_mul]
        have : ((10 : Int) ^ (9 : Int).toNat).natAbs = 1000000000 := by decide
        rw [this]
        omega
      · have a1 := ascii_cut (ascii_int i) none (some 40)
        have l1 := cut_le (Str.ofString (toString i)) none (some 40)
        have l2 : (cutS (Str.ofString (toString i)) none (some 40)).length ≤ 40 := by
          rw [← sg_len, sg_cut, six (by decide), List.length_take]
          show min (min 40 _ - 0) _ ≤ 40
          omega
        exact rd_out (q _ _ ((val_str (b := b + 60) (n := m + 5) a1).mono) T)
    | bl y =>
      have hy : (bi y).natAbs ≤ 1 := by cases y <;> decide
      refine ⟨fun _ => ⟨_, rfl, c, l, _, n + 8 * k + 4, rfl, by decide, by decide, t1.1, fun r H2 a2 b2 t2 => ⟨fun _ => ?_, fun _ => ⟨rfl, t1.trans t2⟩⟩⟩, fun e => (nomatch e)⟩
      refine ⟨_, rfl, _, rfl, _, rfl, _, rfl, cpow_of rfl, _, rfl, ?_, le_sz 5 (by decide), _, rfl, c, l, _, n + 8 * k + 3, rfl, by decide, by decide, t2.1, fun r3 H3 a3 b3 t3 => ix_any a3 b3 fun w hw => ?_⟩
      · cases y <;> decide +kernel
      have T := ((t1.trans t2).trans t3).le (show n ≤ n + 8 * k + 3 by omega)
      have go : ∀ y : Int, y.natAbs < 2 ^ (b + 60) → (outD Q).rt (.int y) H3 := fun y h1 => rd_out (q _ _ (ival (m := 0) h1 (by omega)) T)
      simp only [List.mem_cons, List.not_mem_nil, or_false] at hw
      rcases hw with rfl | rfl | rfl | rfl | rfl
      · exact go _ (by rw [P2]; omega)
      · exact go _ (by rw [P2]; omega)
      · exact go _ (by rw [P2]; omega)
      · refine go _ ?_
        rw [P2, Int.natAbs_mul]
        have : ((10 : Int) ^ (9 : Int).toNat).natAbs = 1000000000 := by decide
        rw [this]
        have : (bi y).natAbs * 1000000000 ≤ 1 * 1000000000 := Nat.mul_le_mul_right _ hy
        omega
      · refine rd_out (q _ _ ((val_str (b := b + 60) (n := m + 5) ?_).mono (hz := ?_)) T)
        · cases y <;> decide +kernel
        · have : (cutS (if y = true then ("True" : Str) else "False") none (some 40)).length ≤ 5 := by cases y <;> decide +kernel
          omega
    | _ => exact ⟨fun e => (nomatch e), fun _ => ⟨fun e => (nomatch e), fun _ => ⟨rfl, t1.le (by omega)⟩⟩⟩
  rintro σ H1 ⟨rfl, t1⟩
  refine ⟨le_sz 15 (by decide), _, rfl, Nat.zero_le _, Nat.zero_le _, le_sz 1 (by decide), Nat.zero_le _, le_sz 2 (by decide), Nat.zero_le _, le_sz 2 (by decide), le_sz 1 (by decide), le_sz 2 (by decide), le_sz 15 (by decide), le_sz 30 (by decide), ?_⟩
  refine ⟨_, rfl, _, rfl, le_sz 1 (by decide), _, rfl, le_sz 1 (by decide), _, rfl, _, rfl, le_sz 2 (by decide), cpow_of rfl, le_sz 2 (by decide), le_sz 1 (by decide), le_sz 2 (by decide), le_sz 6 (by decide), le_sz 36 (by decide), _, rfl, _, rfl, c, l, _, n + 8 * k + 3, rfl, by decide, by decide, t1.1, fun r H2 a2 b2 t2 => ?_⟩
  have T := (t1.trans t2).le (show n ≤ n + 8 * k + 3 by omega)
  have b2 : r < 36 := b2
  show fIx (.lsv (ODD ++ ([.tup [d], .lsv [d], .tup [d, d], .int (10 ^ 30)] ++ ODD2))) (.int r) H2 _
  refine ix_any a2 b2 fun w hw => ?_
  rcases List.mem_append.mp hw with hw | hw
  · exact rd_out (q _ _ (ODD_val hw).mono T)
  rcases List.mem_append.mp hw with hw | hw
  · have hv1 := Vals'.one hv
    have hv2 := Vals'.cons hv hv1
    simp only [List.mem_cons, List.not_mem_nil, or_false] at hw
    rcases hw with rfl | rfl | rfl | rfl
    · exact rd_out (q _ _ hv1.tup.mono T)
    · exact rd_out (q _ _ hv1.lsv.mono T)
    · exact rd_out (q _ _ hv2.tup.mono T)
    · have : ((10 : Int) ^ 30).natAbs < 2 ^ 110 := by decide
      exact rd_out (q _ _ ((int_val (b := 110) (n := 0) this (by decide)).mono) T)
  · exact rd_out (q _ _ (ODD2_val hw).mono T)
end K21

set_option maxHeartbeats 4000000
namespace DL
open PySem PySem.Spec L2
open PyProof.Rows hiding St
theorem add_refs {H : DH} {p q : Addr} {xs ys : List Dv} {Q : DVK} (h1 : H p = some (.lst xs)) (h2 : H q = some (.lst ys)) (hz : xs.length + ys.length ≤ sizeLine) (k : ∀ r, H r = none → Q (.ref r) (upD H r (.lst (xs ++ ys)))) : fAdd (.ref p) (.ref q) H Q := ⟨xs, ys, h1, h2, hz, k⟩
theorem all_app {xs ys : List Dv} (h : ∀ d ∈ xs, VD d) (h' : ∀ d ∈ ys, VD d) : ∀ d ∈ xs ++ ys, VD d := fun d m => (List.mem_append.mp m).elim (h d) (h' d)
def C21 : List Dv := [.non, .int 0, .str "", .tup [], .tup [.tup [.str "A", .tup []]], .tup [.tup [.str "A", .tup [.tup [.str "B", .tup [.str "A"]]]]], .tup [.tup [.str "A", .tup [.tup [.str "B", .tup []]]]], .lsv [], .str "kinds"]
theorem C21_all : (C21.all fun d => okD 2 d && decide (dpD d ≤ 8) && decide (szD d ≤ 500)) = true := by decide +kernel
theorem C21_val : ∀ d ∈ C21, VD d := fun d h => by
  have := List.all_eq_true.mp C21_all d h
  simp only [Bool.and_eq_true, decide_eq_true_eq] at this
  exact (show Val 2 8 500 d from ⟨this.1.1, this.1.2, this.2⟩).mono
theorem szDs_rev (ds : List Dv) : szDs ds.reverse = szDs ds := by
  induction ds with
  | nil => rfl
  | cons d ds ih => rw [List.reverse_cons, szDs_append, ih, szDs, szDs, szDs]; omega
end DL
namespace K21
open PySem PySem.Spec L2 DL
open PyProof.Rows hiding St
theorem rd_law : ∀ ds H Q, sp_law ds H Q → td_law (outD Q) (startD 7 ds) H := by
  rintro ds H Q ⟨ns, rfl, hl, q⟩
  have s16 := sz16
  refine ⟨_, rfl, ns, rfl, hl, fun c l H1 hc hL W1 o1 => ?_⟩
  refine ⟨_, rfl, c, l, 2 ^ 49, rfl, W1.le (by decide), fun xs p H2 hx xl hp hp2 W2 fr2 => ?_⟩
  refine ⟨Nat.zero_le _, Nat.zero_le _, le_sz 2 (by decide), le_sz 1 (by decide), le_sz 1 (by decide), le_sz 2 (by decide), le_sz 1 (by decide), le_sz 2 (by decide), le_sz 1 (by decide), Nat.zero_le _, le_sz 2 (by decide), le_sz 1 (by decide), le_sz 2 (by decide), le_sz 1 (by decide), Nat.zero_le _, le_sz 9 (by decide), fun p2 hp3 => ?_⟩
  have np : p ≠ p2 := fun e => by rw [← e, hp2] at hp3; cases hp3
  have f3 := W2.free hp3
  have e1 : upD H2 p2 (.lst C21) p = some (.lst xs) := by rw [upD_ne np]; exact hp2
  have W3 := (W2.new (o := .lst C21) hp3).le (show 1000000 ≤ 2 ^ 49 by decide)
  refine add_refs (ys := C21) e1 upD_same (by rw [xl]; exact le_sz 21 (by decide)) fun v hv => ?_
  have f4 := W3.free hv
  refine ⟨⟨by decide, by decide⟩, fun i σ H' => ∃ (v : Addr) (L : List Dv) (b3 b4 b5 b6 : Option Dv), σ = [some (.lsv (ns.map .int)), some (.ref c), some (.ref v), b3, b4, b5, b6] ∧ H' v = some (.lst L) ∧ v ≠ c ∧ v ≠ l ∧ WellAt c l (1000000 - 100000 * i) H' ∧ (∀ d ∈ L, VD d) ∧ L.length ≤ 21 + 30 * i,
    ⟨v, xs ++ C21, _, _, _, _, rfl, upD_same, f4.1, f4.2, W3.new hv, all_app hx C21_val, by rw [List.length_append, xl]; exact Nat.le_refl _⟩, fun _ _ _ _ _ => trivial, ?_, ?_⟩
  · rintro i σ H3 hi ⟨v, L, b3, b4, b5, b6, rfl, hL, vc, vl, W, vL, lL⟩
    have hi : i < 3 := hi
    obtain ⟨mm, em, m1, m2⟩ : ∃ mm : Nat, atI [Dv.int 2, .int 4, .int 6] (0 + ((i : Nat) : Int) * 1) = some (.int (mm : Nat)) ∧ 1 ≤ mm ∧ mm ≤ 6 := by
      have h : i = 0 ∨ i = 1 ∨ i = 2 := by omega
      rcases h with rfl | rfl | rfl
      · exact ⟨2, atI_0, by decide, by decide⟩
      · exact ⟨4, atI_1, by decide, by decide⟩
      · exact ⟨6, atI_2, by decide, by decide⟩
    refine ⟨_, rfl, le_sz 3 (by decide), _, rfl, _, em, c, l, 1000000 - 100000 * i - 20000, mm, rfl, m1, by omega, W.le (by omega), fun ks H4 g kl t4 => ?_⟩
    have G := goodK_iff.mp g
    have fv := form_val G.toFormK
    have hL4 : H4 v = some (.lst L) := by rw [t4.2 v vc vl]; exact hL
    obtain ⟨m', em', vs, _⟩ := Val.tups (ds := ks.map kdD) fv
    cases em'
    have c1 := cut_len (ks.map kdD) none (some 1)
    have k60 := G.l2
    have lm : (ks.map kdD).length = ks.length := List.length_map _
    refine ⟨_, rfl, _, rfl, _, rfl, _, rfl, _, rfl, _, rfl, by omega, le_sz 4 (by decide), fun p5 h5 => ?_⟩
    have n5 : v ≠ p5 := fun e => by rw [← e, hL4] at h5; cases h5
    have e5 : upD H4 p5 (.lst [ksD ks, .lsv (ks.map kdD), .tup (ks.map kdD).reverse, .tup (ks.map kdD ++ cutD (ks.map kdD) none (some 1))]) v = some (.lst L) := by rw [upD_ne n5]; exact hL4
    have W5 := t4.1.new (o := .lst [ksD ks, .lsv (ks.map kdD), .tup (ks.map kdD).reverse, .tup (ks.map kdD ++ cutD (ks.map kdD) none (some 1))]) h5
    refine add_refs e5 upD_same (by show _ + 4 ≤ _; omega) fun v6 h6 => ?_
    have f6 := W5.free h6
    have vr : Vals' 110 4 (262000 - 3) (ks.map kdD).reverse := ⟨fun d m => vs.ok d (List.mem_reverse.mp m), fun d m => vs.dp d (List.mem_reverse.mp m), by rw [szDs_rev]; exact vs.sz⟩
    have v4 : ∀ d ∈ [ksD ks, .lsv (ks.map kdD), .tup (ks.map kdD).reverse, .tup (ks.map kdD ++ cutD (ks.map kdD) none (some 1))], VD d := fun d m => by
      simp only [List.mem_cons, List.not_mem_nil, or_false] at m
      rcases m with rfl | rfl | rfl | rfl
      · exact fv.mono
      · exact vs.lsv.mono
      · exact vr.tup.mono
      · exact (vs.append (vs.cut none (some 1))).tup.mono
    have all6 := all_app vL v4
    have W6 := (W5.new (o := .lst (L ++ [ksD ks, .lsv (ks.map kdD), .tup (ks.map kdD).reverse, .tup (ks.map kdD ++ cutD (ks.map kdD) none (some 1))])) h6).le (show 1000000 - 100000 * i - 20000 ≤ 1000000 - 100000 * i - 20000 from Nat.le_refl _)
    have l6 : (L ++ [ksD ks, .lsv (ks.map kdD), .tup (ks.map kdD).reverse, .tup (ks.map kdD ++ cutD (ks.map kdD) none (some 1))]).length ≤ 25 + 30 * i := by rw [List.length_append]; show _ + 4 ≤ _; omega
    refine ⟨⟨by decide, by decide⟩, fun j σ H' => ∃ (v : Addr) (L : List Dv) (b3 b5 b6 : Option Dv), σ = [some (.lsv (ns.map .int)), some (.ref c), some (.ref v), b3, some (ksD ks), b5, b6] ∧ H' v = some (.lst L) ∧ v ≠ c ∧ v ≠ l ∧ WellAt c l (1000000 - 100000 * i - 20000 - 400 * j) H' ∧ (∀ d ∈ L, VD d) ∧ L.length ≤ 25 + 30 * i + 2 * j,
      ⟨v6, _, _, _, _, rfl, upD_same, f6.1, f6.2, W6, all6, l6⟩, fun _ _ _ _ _ => trivial, ?_, ?_⟩
    · clear all6 W6 l6 v4 vr e5 W5
      rintro j σ H5 hj ⟨v, L, b3, b5, b6, rfl, hL, vc, vl, W, vL, lL⟩
      have hj : j < 10 := hj
      have dp := fv.dp
      refine ⟨_, rfl, _, rfl, c, l, 1000000 - 100000 * i - 20000 - 400 * j - 200, 110, 5, 262000, _, rfl, by omega, fv, by decide, by decide, by decide, W.le (by omega), fun r1 H6 r1v t6 => ?_⟩
      have hL6 : H6 v = some (.lst L) := by rw [t6.2 v vc vl]; exact hL
      have dp1 := r1v.dp
      refine ⟨_, rfl, _, rfl, _, rfl, _, rfl, c, l, 1000000 - 100000 * i - 20000 - 400 * j - 400, 170, 10, 788000, _, rfl, by omega, r1v, by decide, by decide, by decide, t6.1.le (by omega), fun r2 H7 r2v t7 => ?_⟩
      have hL7 : H7 v = some (.lst L) := by rw [t7.2 v vc vl]; exact hL6
      refine ⟨le_sz 2 (by decide), fun p8 h8 => ?_⟩
      have n8 : v ≠ p8 := fun e => by rw [← e, hL7] at h8; cases h8
      have W8 := t7.1.new (o := .lst [r1, r2]) h8
      refine add_refs (by rw [upD_ne n8]; exact hL7) upD_same (by show _ + 2 ≤ _; omega) fun v9 h9 => ?_
      have f9 := W8.free h9
      refine ⟨v9, L ++ [r1, r2], _, _, _, rfl, upD_same, f9.1, f9.2, (W8.new h9).le (by omega), all_app vL fun d m => ?_, by rw [List.length_append]; show _ + 2 ≤ _; omega⟩
      simp only [List.mem_cons, List.not_mem_nil, or_false] at m
      rcases m with rfl | rfl
      · exact r1v.mono
      · exact r2v.mono
    · clear all6 W6 l6 v4 vr e5 W5
      rintro σ H5 ⟨v, L, b3, b5, b6, rfl, hL, vc, vl, W, vL, lL⟩
      have lL : L.length ≤ 25 + 30 * i + 2 * 10 := lL
      have W : WellAt c l (1000000 - 100000 * i - 20000 - 400 * 10) H5 := W
      refine ⟨⟨by decide, by decide⟩, fun j σ H' => ∃ (L : List Dv) (b3 b5 b6 : Option Dv), σ = [some (.lsv (ns.map .int)), some (.ref c), some (.ref v), b3, some (ksD ks), b5, b6] ∧ H' v = some (.lst L) ∧ WellAt c l (1000000 - 100000 * i - 24000 - 1000 * j) H' ∧ (∀ d ∈ L, VD d) ∧ L.length ≤ 45 + 30 * i + j,
        ⟨L, _, _, _, rfl, hL, W.le (by omega), vL, by omega⟩, fun _ _ _ _ _ => trivial, ?_, ?_⟩
      · clear vL lL hL W
        rintro j σ H6 hj ⟨L, b3, b5, b6, rfl, hL, W, vL, lL⟩
        have hj : j < 4 := hj
        refine ⟨_, rfl, ⟨_, hL⟩, _, rfl, _, rfl, c, l, 1000000 - 100000 * i - 24000 - 1000 * (j + 1), ks, rfl, g, by omega, W.le (by omega), fun d H7 vd t7 => ?_⟩
        have hL7 : H7 v = some (.lst L) := by rw [t7.2 v vc vl]; exact hL
        refine ⟨_, hL7, by omega, L ++ [d], _, _, _, rfl, upD_same, t7.1.up vc vl, all_app vL fun x m => ?_, by rw [List.length_append]; show _ + 1 ≤ _; omega⟩
        rw [List.mem_singleton.mp m]; exact vd
      · rintro σ H6 ⟨L, b3, b5, b6, rfl, hL, W, vL, lL⟩
        have lL : L.length ≤ 45 + 30 * i + 4 := lL
        have W : WellAt c l (1000000 - 100000 * i - 24000 - 1000 * 4) H6 := W
        exact ⟨v, L, _, _, _, _, rfl, hL, vc, vl, W.le (by omega), vL, by omega⟩
  · rintro σ H3 ⟨v, L, b3, b4, b5, b6, rfl, hL, vc, vl, W, vL, lL⟩
    have lL : L.length ≤ 21 + 30 * 3 := lL
    refine ⟨_, rfl, _, hL, lc_map (f := fun _ => .bl true) (by show L.length ≤ _; omega) hL ?_ ?_⟩
    · intro i N hi hN
      exact ⟨_, rfl, _, rfl, vL _ (nth_mem hi), hN⟩
    · refine ⟨(List.range L.length).map fun _ => true, by rw [List.map_map]; rfl, ?_⟩
      have : ((List.range L.length).map fun _ => true).all id = true := List.all_eq_true.mpr fun b m => by
        obtain ⟨_, _, rfl⟩ := List.mem_map.mp m
        rfl
      rw [this]
      exact rd_out (q _)
end K21

set_option maxHeartbeats 8000000
namespace K21
open PySem PySem.Spec L2 DL
open PyProof.Rows hiding St
/-! ## the promises, def by def -/
theorem len_is_row : ∀ ds H Q, sq_is_row ds H Q → ds.length = 3 := by intro ds H Q h; unfold sq_is_row at h; (repeat (first | (obtain ⟨rfl, _⟩ := h; rfl) | obtain ⟨_, h⟩ := h))
theorem ok_is_row {P : Program} {w : World} {K : PySem.W.Frag} {mg : Str → Option Value} {base : Heap} (T : Txt K mg) : FnOk P w K mg base CX0 (1) T.a_is_row T.d_is_row ["thing", "low", "high"] (lSp K (sq_is_row)) :=
  Fun.okD T.F_is_row sc_is_row len_is_row (body_is_row T) rd_is_row
theorem len_in_run : ∀ ds H Q, sp_in_run ds H Q → ds.length = 1 := by intro ds H Q h; unfold sp_in_run at h; (repeat (first | (obtain ⟨rfl, _⟩ := h; rfl) | obtain ⟨_, h⟩ := h))
theorem ok_in_run {P : Program} {w : World} {K : PySem.W.Frag} {mg : Str → Option Value} {base : Heap} (T : Txt K mg) : FnOk P w K mg base CX0 (1) T.a_in_run T.d_in_run ["char"] (lSp K (sp_in_run)) :=
  Fun.okD T.F_in_run sc_in_run len_in_run (body_in_run T) rd_in_run
theorem len_is_desk_name : ∀ ds H Q, sp_is_desk_name ds H Q → ds.length = 1 := by intro ds H Q h; unfold sp_is_desk_name at h; (repeat (first | (obtain ⟨rfl, _⟩ := h; rfl) | obtain ⟨_, h⟩ := h))
theorem ok_is_desk_name {P : Program} {w : World} {K : PySem.W.Frag} {mg : Str → Option Value} {base : Heap} (T : Txt K mg) : FnOk P w K mg base CX0 (2) T.a_is_desk_name T.d_is_desk_name ["thing"] (lSp K (sp_is_desk_name)) :=
  Fun.okD T.F_is_desk_name sc_is_desk_name len_is_desk_name (body_is_desk_name T (ok_in_run T)) rd_is_desk_name
theorem len_is_high : ∀ ds H Q, sp_is_high ds H Q → ds.length = 1 := by intro ds H Q h; unfold sp_is_high at h; (repeat (first | (obtain ⟨rfl, _⟩ := h; rfl) | obtain ⟨_, h⟩ := h))
theorem ok_is_high {P : Program} {w : World} {K : PySem.W.Frag} {mg : Str → Option Value} {base : Heap} (T : Txt K mg) : FnOk P w K mg base CX0 (3) T.a_is_high T.d_is_high ["thing"] (lSp K (sp_is_high)) :=
  Fun.okD T.F_is_high sc_is_high len_is_high (body_is_high T (ok_is_desk_name T)) rd_is_high
theorem len_all_different : ∀ ds H Q, sp_all_different ds H Q → ds.length = 1 := by intro ds H Q h; unfold sp_all_different at h; (repeat (first | (obtain ⟨rfl, _⟩ := h; rfl) | obtain ⟨_, h⟩ := h))
theorem ok_all_different {P : Program} {w : World} {K : PySem.W.Frag} {mg : Str → Option Value} {base : Heap} (T : Txt K mg) : FnOk P w K mg base CX0 (1) T.a_all_different T.d_all_different ["names"] (lSp K (sp_all_different)) :=
  Fun.okD T.F_all_different sc_all_different len_all_different (body_all_different T) rd_all_different
theorem len_kind_index : ∀ ds H Q, sp_kind_index ds H Q → ds.length = 2 := by intro ds H Q h; unfold sp_kind_index at h; (repeat (first | (obtain ⟨rfl, _⟩ := h; rfl) | obtain ⟨_, h⟩ := h))
theorem ok_kind_index {P : Program} {w : World} {K : PySem.W.Frag} {mg : Str → Option Value} {base : Heap} (T : Txt K mg) : FnOk P w K mg base CX0 (1) T.a_kind_index T.d_kind_index ["kinds", "kind"] (lSp K (sp_kind_index)) :=
  Fun.okD T.F_kind_index sc_kind_index len_kind_index (body_kind_index T) rd_kind_index
theorem len_has_form : ∀ ds H Q, sp_has_form ds H Q → ds.length = 1 := by intro ds H Q h; unfold sp_has_form at h; (repeat (first | (obtain ⟨rfl, _⟩ := h; rfl) | obtain ⟨_, h⟩ := h))
theorem ok_has_form {P : Program} {w : World} {K : PySem.W.Frag} {mg : Str → Option Value} {base : Heap} (T : Txt K mg) : FnOk P w K mg base CX0 (4) T.a_has_form T.d_has_form ["thing"] (lSp K (sp_has_form)) :=
  Fun.okD T.F_has_form sc_has_form len_has_form (body_has_form T (ok_is_high T) (ok_is_row T)) rd_has_form
theorem len_with_trees : ∀ ds H Q, sp_with_trees ds H Q → ds.length = 1 := by intro ds H Q h; unfold sp_with_trees at h; (repeat (first | (obtain ⟨rfl, _⟩ := h; rfl) | obtain ⟨_, h⟩ := h))
theorem ok_with_trees {P : Program} {w : World} {K : PySem.W.Frag} {mg : Str → Option Value} {base : Heap} (T : Txt K mg) : FnOk P w K mg base CX0 (1) T.a_with_trees T.d_with_trees ["kinds"] (lSp K (sp_with_trees)) :=
  Fun.okD T.F_with_trees sc_with_trees len_with_trees (body_with_trees T) rd_with_trees
theorem len_is_kinds : ∀ ds H Q, sp_is_kinds ds H Q → ds.length = 1 := by intro ds H Q h; unfold sp_is_kinds at h; (repeat (first | (obtain ⟨rfl, _⟩ := h; rfl) | obtain ⟨_, h⟩ := h))
theorem ok_is_kinds {P : Program} {w : World} {K : PySem.W.Frag} {mg : Str → Option Value} {base : Heap} (T : Txt K mg) : FnOk P w K mg base CX0 (5) T.a_is_kinds T.d_is_kinds ["thing"] (lSp K (sp_is_kinds)) :=
  Fun.okD T.F_is_kinds sc_is_kinds len_is_kinds (body_is_kinds T (ok_all_different T) (ok_has_form T) (ok_with_trees T)) rd_is_kinds
theorem len_need_kinds : ∀ ds H Q E, sp_need_kinds ds H Q E → ds.length = 1 := by intro ds H Q E h; unfold sp_need_kinds at h; (repeat (first | (obtain ⟨rfl, _⟩ := h; rfl) | obtain ⟨_, h⟩ := h))
theorem ok_need_kinds {P : Program} {w : World} {K : PySem.W.Frag} {mg : Str → Option Value} {base : Heap} (T : Txt K mg) : FnOk P w K mg base (L2.CX P w) (6) T.a_need_kinds T.d_need_kinds ["kinds"] (lSpX K mg (sp_need_kinds)) :=
  Fun.okDX T.F_need_kinds sc_need_kinds len_need_kinds (body_need_kinds T (ok_is_kinds T)) rd_need_kinds
theorem len_need_kind : ∀ ds H Q E, sp_need_kind ds H Q E → ds.length = 2 := by intro ds H Q E h; unfold sp_need_kind at h; (repeat (first | (obtain ⟨rfl, _⟩ := h; rfl) | obtain ⟨_, h⟩ := h))
theorem ok_need_kind {P : Program} {w : World} {K : PySem.W.Frag} {mg : Str → Option Value} {base : Heap} (T : Txt K mg) : FnOk P w K mg base (L2.CX P w) (2) T.a_need_kind T.d_need_kind ["kinds", "kind"] (lSpX K mg (sp_need_kind)) :=
  Fun.okDX T.F_need_kind sc_need_kind len_need_kind (body_need_kind T (ok_kind_index T)) rd_need_kind
theorem len_is_tree : ∀ ds H Q E, sq_is_tree ds H Q E → ds.length = 3 := by intro ds H Q E h; unfold sq_is_tree at h; (repeat (first | (obtain ⟨rfl, _⟩ := h; rfl) | obtain ⟨_, h⟩ := h))
theorem ok_is_tree {P : Program} {w : World} {K : PySem.W.Frag} {mg : Str → Option Value} {base : Heap} (T : Txt K mg) : FnOk P w K mg base (L2.CX P w) (7) T.a_is_tree T.d_is_tree ["kinds", "kind", "thing"] (lSpX K mg (sq_is_tree)) :=
  Fun.okDX T.F_is_tree sc_is_tree len_is_tree (body_is_tree T (ok_need_kind T) (ok_need_kinds T)) rd_is_tree
theorem len_fit_rows : ∀ ds H Q, sq_fit_rows ds H Q → ds.length = 2 := by intro ds H Q h; unfold sq_fit_rows at h; (repeat (first | (obtain ⟨rfl, _⟩ := h; rfl) | obtain ⟨_, h⟩ := h))
theorem ok_fit_rows {P : Program} {w : World} {K : PySem.W.Frag} {mg : Str → Option Value} {base : Heap} (T : Txt K mg) : FnOk P w K mg base CX0 (4) T.a_fit_rows T.d_fit_rows ["kinds", "thing"] (lSp K (sq_fit_rows)) :=
  Fun.okD T.F_fit_rows sc_fit_rows len_fit_rows (body_fit_rows T (ok_is_row T)) rd_fit_rows
theorem len_need_rows : ∀ ds H Q E, sq_need_rows ds H Q E → ds.length = 2 := by intro ds H Q E h; unfold sq_need_rows at h; (repeat (first | (obtain ⟨rfl, _⟩ := h; rfl) | obtain ⟨_, h⟩ := h))
theorem ok_need_rows {P : Program} {w : World} {K : PySem.W.Frag} {mg : Str → Option Value} {base : Heap} (T : Txt K mg) : FnOk P w K mg base (L2.CX P w) (5) T.a_need_rows T.d_need_rows ["kinds", "rows"] (lSpX K mg (sq_need_rows)) :=
  Fun.okDX T.F_need_rows sc_need_rows len_need_rows (body_need_rows T (ok_fit_rows T)) rd_need_rows
theorem len_is_rows : ∀ ds H Q E, sq_is_rows ds H Q E → ds.length = 2 := by intro ds H Q E h; unfold sq_is_rows at h; (repeat (first | (obtain ⟨rfl, _⟩ := h; rfl) | obtain ⟨_, h⟩ := h))
theorem ok_is_rows {P : Program} {w : World} {K : PySem.W.Frag} {mg : Str → Option Value} {base : Heap} (T : Txt K mg) : FnOk P w K mg base (L2.CX P w) (7) T.a_is_rows T.d_is_rows ["kinds", "thing"] (lSpX K mg (sq_is_rows)) :=
  Fun.okDX T.F_is_rows sc_is_rows len_is_rows (body_is_rows T (ok_fit_rows T) (ok_need_kinds T)) rd_is_rows
theorem len_rows_of : ∀ ds H Q E, sq_rows_of ds H Q E → ds.length = 3 := by intro ds H Q E h; unfold sq_rows_of at h; (repeat (first | (obtain ⟨rfl, _⟩ := h; rfl) | obtain ⟨_, h⟩ := h))
theorem ok_rows_of {P : Program} {w : World} {K : PySem.W.Frag} {mg : Str → Option Value} {base : Heap} (T : Txt K mg) : FnOk P w K mg base (L2.CX P w) (7) T.a_rows_of T.d_rows_of ["kinds", "kind", "listing"] (lSpX K mg (sq_rows_of)) :=
  Fun.okDX T.F_rows_of sc_rows_of len_rows_of (body_rows_of T (ok_need_kind T) (ok_need_kinds T)) rd_rows_of
theorem len_tree_size : ∀ ds H Q E, sq_tree_size ds H Q E → ds.length = 2 := by intro ds H Q E h; unfold sq_tree_size at h; (repeat (first | (obtain ⟨rfl, _⟩ := h; rfl) | obtain ⟨_, h⟩ := h))
theorem ok_tree_size {P : Program} {w : World} {K : PySem.W.Frag} {mg : Str → Option Value} {base : Heap} (T : Txt K mg) : FnOk P w K mg base (L2.CX P w) (7) T.a_tree_size T.d_tree_size ["kinds", "rows"] (lSpX K mg (sq_tree_size)) :=
  Fun.okDX T.F_tree_size sc_tree_size len_tree_size (body_tree_size T (ok_need_kinds T) (ok_need_rows T)) rd_tree_size
theorem len_listing_of : ∀ ds H Q E, sq_listing_of ds H Q E → ds.length = 2 := by intro ds H Q E h; unfold sq_listing_of at h; (repeat (first | (obtain ⟨rfl, _⟩ := h; rfl) | obtain ⟨_, h⟩ := h))
theorem ok_listing_of {P : Program} {w : World} {K : PySem.W.Frag} {mg : Str → Option Value} {base : Heap} (T : Txt K mg) : FnOk P w K mg base (L2.CX P w) (7) T.a_listing_of T.d_listing_of ["kinds", "rows"] (lSpX K mg (sq_listing_of)) :=
  Fun.okDX T.F_listing_of sc_listing_of len_listing_of (body_listing_of T (ok_need_kinds T) (ok_need_rows T)) rd_listing_of
theorem len_compare_trees : ∀ ds H Q E, sq_compare_trees ds H Q E → ds.length = 3 := by intro ds H Q E h; unfold sq_compare_trees at h; (repeat (first | (obtain ⟨rfl, _⟩ := h; rfl) | obtain ⟨_, h⟩ := h))
theorem ok_compare_trees {P : Program} {w : World} {K : PySem.W.Frag} {mg : Str → Option Value} {base : Heap} (T : Txt K mg) : FnOk P w K mg base (L2.CX P w) (7) T.a_compare_trees T.d_compare_trees ["kinds", "one", "other"] (lSpX K mg (sq_compare_trees)) :=
  Fun.okDX T.F_compare_trees sc_compare_trees len_compare_trees (body_compare_trees T (ok_need_kinds T) (ok_need_rows T)) rd_compare_trees
theorem len__law_well : ∀ ds H Q, sp__law_well ds H Q → ds.length = 1 := by intro ds H Q h; unfold sp__law_well at h; (repeat (first | (obtain ⟨rfl, _⟩ := h; rfl) | obtain ⟨_, h⟩ := h))
theorem ok__law_well {P : Program} {w : World} {K : PySem.W.Frag} {mg : Str → Option Value} {base : Heap} (T : Txt K mg) : FnOk P w K mg base CX0 (1) T.a__law_well T.d__law_well ["script"] (lSp K (sp__law_well)) :=
  Fun.okD T.F__law_well sc__law_well len__law_well (body__law_well T) rd__law_well
theorem len__law_draw : ∀ ds H Q, sp__law_draw ds H Q → ds.length = 2 := by intro ds H Q h; unfold sp__law_draw at h; (repeat (first | (obtain ⟨rfl, _⟩ := h; rfl) | obtain ⟨_, h⟩ := h))
theorem ok__law_draw {P : Program} {w : World} {K : PySem.W.Frag} {mg : Str → Option Value} {base : Heap} (T : Txt K mg) : FnOk P w K mg base CX0 (1) T.a__law_draw T.d__law_draw ["well", "many"] (lSp K (sp__law_draw)) :=
  Fun.okD T.F__law_draw sc__law_draw len__law_draw (body__law_draw T) rd__law_draw
theorem len__law_is : ∀ ds H Q, sp__law_is ds H Q → ds.length = 2 := by intro ds H Q h; unfold sp__law_is at h; (repeat (first | (obtain ⟨rfl, _⟩ := h; rfl) | obtain ⟨_, h⟩ := h))
theorem ok__law_is {P : Program} {w : World} {K : PySem.W.Frag} {mg : Str → Option Value} {base : Heap} (T : Txt K mg) : FnOk P w K mg base CX0 (1) T.a__law_is T.d__law_is ["found", "due"] (lSp K (sp__law_is)) :=
  Fun.okD T.F__law_is sc__law_is len__law_is (body__law_is T) rd__law_is
theorem len__law_name : ∀ ds H Q, sp__law_name ds H Q → ds.length = 3 := by intro ds H Q h; unfold sp__law_name at h; (repeat (first | (obtain ⟨rfl, _⟩ := h; rfl) | obtain ⟨_, h⟩ := h))
theorem ok__law_name {P : Program} {w : World} {K : PySem.W.Frag} {mg : Str → Option Value} {base : Heap} (T : Txt K mg) : FnOk P w K mg base CX0 (2) T.a__law_name T.d__law_name ["well", "taken", "high"] (lSp K (sp__law_name)) :=
  Fun.okD T.F__law_name sc__law_name len__law_name (body__law_name T (ok__law_draw T)) rd__law_name
theorem len__law_kinds : ∀ ds H Q, sp__law_kinds ds H Q → ds.length = 2 := by intro ds H Q h; unfold sp__law_kinds at h; (repeat (first | (obtain ⟨rfl, _⟩ := h; rfl) | obtain ⟨_, h⟩ := h))
theorem ok__law_kinds {P : Program} {w : World} {K : PySem.W.Frag} {mg : Str → Option Value} {base : Heap} (T : Txt K mg) : FnOk P w K mg base CX0 (3) T.a__law_kinds T.d__law_kinds ["well", "most"] (lSp K (sp__law_kinds)) :=
  Fun.okD T.F__law_kinds sc__law_kinds len__law_kinds (body__law_kinds T (ok__law_draw T) (ok__law_name T)) rd__law_kinds
theorem len__law_is_name : ∀ ds H Q, sp__law_is_name ds H Q → ds.length = 2 := by intro ds H Q h; unfold sp__law_is_name at h; (repeat (first | (obtain ⟨rfl, _⟩ := h; rfl) | obtain ⟨_, h⟩ := h))
theorem ok__law_is_name {P : Program} {w : World} {K : PySem.W.Frag} {mg : Str → Option Value} {base : Heap} (T : Txt K mg) : FnOk P w K mg base CX0 (1) T.a__law_is_name T.d__law_is_name ["value", "high"] (lSp K (sp__law_is_name)) :=
  Fun.okD T.F__law_is_name sc__law_is_name len__law_is_name (body__law_is_name T) rd__law_is_name
theorem len__law_is_kinds : ∀ ds H Q, sp__law_is_kinds ds H Q → ds.length = 1 := by intro ds H Q h; unfold sp__law_is_kinds at h; (repeat (first | (obtain ⟨rfl, _⟩ := h; rfl) | obtain ⟨_, h⟩ := h))
theorem ok__law_is_kinds {P : Program} {w : World} {K : PySem.W.Frag} {mg : Str → Option Value} {base : Heap} (T : Txt K mg) : FnOk P w K mg base CX0 (2) T.a__law_is_kinds T.d__law_is_kinds ["value"] (lSp K (sp__law_is_kinds)) :=
  Fun.okD T.F__law_is_kinds sc__law_is_kinds len__law_is_kinds (body__law_is_kinds T (ok__law_is_name T)) rd__law_is_kinds
theorem len_bent (k : Nat) : ∀ ds H Q, sp__law_bent (k + 1) ds H Q → ds.length = 2 := by
  rintro ds H Q ⟨c, l, n, b, m, z, d, rfl, _⟩; rfl
theorem no_bent {ds : List Dv} {H : DH} {Q : DVK} (h : sp__law_bent 0 ds H Q) : False := by
  obtain ⟨c, l, n, b, m, z, d, _, hk, _⟩ := h
  exact Nat.not_lt_zero _ hk
theorem ok__law_bent {P : Program} {w : World} {K : PySem.W.Frag} {mg : Str → Option Value} {base : Heap} (T : Txt K mg) : ∀ k, FnOk P w K mg base CX0 (k + 1) T.a__law_bent T.d__law_bent ["well", "value"] (lSp K (sp__law_bent k))
  | 0 => ⟨fun vs H Q E ⟨ds, Hd, Qd, _, _, h, _⟩ => (no_bent h).elim, fun A outer s H args us vs Q E _ _ _ _ ⟨_, _, _, _, _, h, _⟩ => (no_bent h).elim⟩
  | k + 1 => Fun.okD T.F__law_bent sc__law_bent (len_bent k) (body__law_bent T k (ok__law_bent T k) (ok__law_draw T)) (rd__law_bent k)
theorem len__law_door : ∀ ds H Q, sp__law_door ds H Q → ds.length = 2 := by intro ds H Q h; unfold sp__law_door at h; (repeat (first | (obtain ⟨rfl, _⟩ := h; rfl) | obtain ⟨_, h⟩ := h))
theorem ok__law_door {P : Program} {w : World} {K : PySem.W.Frag} {mg : Str → Option Value} {base : Heap} (T : Txt K mg) : FnOk P w K mg base CX0 (8) T.a__law_door T.d__law_door ["door", "value"] (lSp K (sp__law_door)) :=
  Fun.okD T.F__law_door sc__law_door len__law_door (body__law_door T (ok_compare_trees T) (ok_is_rows T) (ok_is_tree T) (ok_listing_of T) (ok_rows_of T) (ok_tree_size T)) rd__law_door
theorem len__law_value_right : ∀ ds H Q, sp__law_value_right ds H Q → ds.length = 1 := by intro ds H Q h; unfold sp__law_value_right at h; (repeat (first | (obtain ⟨rfl, _⟩ := h; rfl) | obtain ⟨_, h⟩ := h))
theorem ok__law_value_right {P : Program} {w : World} {K : PySem.W.Frag} {mg : Str → Option Value} {base : Heap} (T : Txt K mg) : FnOkG P w K mg base CX0 (9) T.a__law_value_right T.d__law_value_right ["value"] (lSp K (sp__law_value_right)) :=
  Fun.okDG T.F__law_value_right sc__law_value_right len__law_value_right (body__law_value_right T (ok__law_door T) (ok__law_is T) (ok__law_is_kinds T) (ok_is_kinds T)) rd__law_value_right
theorem len__law_barren : ∀ ds H Q, sp__law_barren ds H Q → ds.length = 2 := by intro ds H Q h; unfold sp__law_barren at h; (repeat (first | (obtain ⟨rfl, _⟩ := h; rfl) | obtain ⟨_, h⟩ := h))
theorem ok__law_barren {P : Program} {w : World} {K : PySem.W.Frag} {mg : Str → Option Value} {base : Heap} (T : Txt K mg) : FnOk P w K mg base CX0 (2) T.a__law_barren T.d__law_barren ["well", "family"] (lSp K (sp__law_barren)) :=
  Fun.okD T.F__law_barren sc__law_barren len__law_barren (body__law_barren T (ok__law_draw T)) rd__law_barren
theorem len__law_wide : ∀ ds H Q, sp__law_wide ds H Q → ds.length = 1 := by intro ds H Q h; unfold sp__law_wide at h; (repeat (first | (obtain ⟨rfl, _⟩ := h; rfl) | obtain ⟨_, h⟩ := h))
theorem ok__law_wide {P : Program} {w : World} {K : PySem.W.Frag} {mg : Str → Option Value} {base : Heap} (T : Txt K mg) : FnOk P w K mg base CX0 (2) T.a__law_wide T.d__law_wide ["well"] (lSp K (sp__law_wide)) :=
  Fun.okD T.F__law_wide sc__law_wide len__law_wide (body__law_wide T (ok__law_draw T)) rd__law_wide
theorem len_law : ∀ ds H Q, sp_law ds H Q → ds.length = 1 := by intro ds H Q h; unfold sp_law at h; (repeat (first | (obtain ⟨rfl, _⟩ := h; rfl) | obtain ⟨_, h⟩ := h))
theorem ok_law {P : Program} {w : World} {K : PySem.W.Frag} {mg : Str → Option Value} {base : Heap} (T : Txt K mg) : FnOkG P w K mg base CX0 (23) T.a_law T.d_law ["script"] (lSp K (sp_law)) :=
  Fun.okDG T.F_law sc_law len_law (body_law T (ok__law_barren T) (ok__law_bent T 20) (ok__law_kinds T) (ok__law_value_right T) (ok__law_well T) (ok__law_wide T)) rd_law
/-! ## the end -/
theorem all_mk {l : PySem.W.OpenLaw} {w : World} {K : PySem.W.Frag} {h : Heap} {mg : Str → Option Value} {fa : Addr} (X : K.In h) (GN : h.Ns mainGlobals mg) (hfa : mg "law" = some (.ref fa))
    {f_is_row : Addr} {od_is_row an_is_row : Option Addr} {sl_is_row : Array (Option Value)} {oc_is_row kV_is_row dc_is_row pm_is_row cd_is_row ct_is_row : Value}
    {f_in_run : Addr} {od_in_run an_in_run : Option Addr} {sl_in_run : Array (Option Value)} {oc_in_run kV_in_run dc_in_run pm_in_run cd_in_run ct_in_run : Value}
    {f_is_desk_name : Addr} {od_is_desk_name an_is_desk_name : Option Addr} {sl_is_desk_name : Array (Option Value)} {oc_is_desk_name kV_is_desk_name dc_is_desk_name pm_is_desk_name cd_is_desk_name ct_is_desk_name : Value}
    {f_is_high : Addr} {od_is_high an_is_high : Option Addr} {sl_is_high : Array (Option Value)} {oc_is_high kV_is_high dc_is_high pm_is_high cd_is_high ct_is_high : Value}
    {f_all_different : Addr} {od_all_different an_all_different : Option Addr} {sl_all_different : Array (Option Value)} {oc_all_different kV_all_different dc_all_different pm_all_different cd_all_different ct_all_different : Value}
    {f_kind_index : Addr} {od_kind_index an_kind_index : Option Addr} {sl_kind_index : Array (Option Value)} {oc_kind_index kV_kind_index dc_kind_index pm_kind_index cd_kind_index ct_kind_index : Value}
    {f_has_form : Addr} {od_has_form an_has_form : Option Addr} {sl_has_form : Array (Option Value)} {oc_has_form kV_has_form dc_has_form pm_has_form cd_has_form ct_has_form : Value}
    {f_with_trees : Addr} {od_with_trees an_with_trees : Option Addr} {sl_with_trees : Array (Option Value)} {oc_with_trees kV_with_trees dc_with_trees pm_with_trees cd_with_trees ct_with_trees : Value}
    {f_is_kinds : Addr} {od_is_kinds an_is_kinds : Option Addr} {sl_is_kinds : Array (Option Value)} {oc_is_kinds kV_is_kinds dc_is_kinds pm_is_kinds cd_is_kinds ct_is_kinds : Value}
    {f_need_kinds : Addr} {od_need_kinds an_need_kinds : Option Addr} {sl_need_kinds : Array (Option Value)} {oc_need_kinds kV_need_kinds dc_need_kinds pm_need_kinds cd_need_kinds ct_need_kinds : Value}
    {f_need_kind : Addr} {od_need_kind an_need_kind : Option Addr} {sl_need_kind : Array (Option Value)} {oc_need_kind kV_need_kind dc_need_kind pm_need_kind cd_need_kind ct_need_kind : Value}
    {f_is_tree : Addr} {od_is_tree an_is_tree : Option Addr} {sl_is_tree : Array (Option Value)} {oc_is_tree kV_is_tree dc_is_tree pm_is_tree cd_is_tree ct_is_tree : Value}
    {f_fit_rows : Addr} {od_fit_rows an_fit_rows : Option Addr} {sl_fit_rows : Array (Option Value)} {oc_fit_rows kV_fit_rows dc_fit_rows pm_fit_rows cd_fit_rows ct_fit_rows : Value}
    {f_need_rows : Addr} {od_need_rows an_need_rows : Option Addr} {sl_need_rows : Array (Option Value)} {oc_need_rows kV_need_rows dc_need_rows pm_need_rows cd_need_rows ct_need_rows : Value}
    {f_is_rows : Addr} {od_is_rows an_is_rows : Option Addr} {sl_is_rows : Array (Option Value)} {oc_is_rows kV_is_rows dc_is_rows pm_is_rows cd_is_rows ct_is_rows : Value}
    {f_rows_of : Addr} {od_rows_of an_rows_of : Option Addr} {sl_rows_of : Array (Option Value)} {oc_rows_of kV_rows_of dc_rows_of pm_rows_of cd_rows_of ct_rows_of : Value}
    {f_tree_size : Addr} {od_tree_size an_tree_size : Option Addr} {sl_tree_size : Array (Option Value)} {oc_tree_size kV_tree_size dc_tree_size pm_tree_size cd_tree_size ct_tree_size : Value}
    {f_listing_of : Addr} {od_listing_of an_listing_of : Option Addr} {sl_listing_of : Array (Option Value)} {oc_listing_of kV_listing_of dc_listing_of pm_listing_of cd_listing_of ct_listing_of : Value}
    {f_compare_trees : Addr} {od_compare_trees an_compare_trees : Option Addr} {sl_compare_trees : Array (Option Value)} {oc_compare_trees kV_compare_trees dc_compare_trees pm_compare_trees cd_compare_trees ct_compare_trees : Value}
    {f__law_well : Addr} {od__law_well an__law_well : Option Addr} {sl__law_well : Array (Option Value)} {oc__law_well kV__law_well dc__law_well pm__law_well cd__law_well ct__law_well : Value}
    {f__law_draw : Addr} {od__law_draw an__law_draw : Option Addr} {sl__law_draw : Array (Option Value)} {oc__law_draw kV__law_draw dc__law_draw pm__law_draw cd__law_draw ct__law_draw : Value}
    {f__law_is : Addr} {od__law_is an__law_is : Option Addr} {sl__law_is : Array (Option Value)} {oc__law_is kV__law_is dc__law_is pm__law_is cd__law_is ct__law_is : Value}
    {f__law_name : Addr} {od__law_name an__law_name : Option Addr} {sl__law_name : Array (Option Value)} {oc__law_name kV__law_name dc__law_name pm__law_name cd__law_name ct__law_name : Value}
    {f__law_kinds : Addr} {od__law_kinds an__law_kinds : Option Addr} {sl__law_kinds : Array (Option Value)} {oc__law_kinds kV__law_kinds dc__law_kinds pm__law_kinds cd__law_kinds ct__law_kinds : Value}
    {f__law_is_name : Addr} {od__law_is_name an__law_is_name : Option Addr} {sl__law_is_name : Array (Option Value)} {oc__law_is_name kV__law_is_name dc__law_is_name pm__law_is_name cd__law_is_name ct__law_is_name : Value}
    {f__law_is_kinds : Addr} {od__law_is_kinds an__law_is_kinds : Option Addr} {sl__law_is_kinds : Array (Option Value)} {oc__law_is_kinds kV__law_is_kinds dc__law_is_kinds pm__law_is_kinds cd__law_is_kinds ct__law_is_kinds : Value}
    {f__law_bent : Addr} {od__law_bent an__law_bent : Option Addr} {sl__law_bent : Array (Option Value)} {oc__law_bent kV__law_bent dc__law_bent pm__law_bent cd__law_bent ct__law_bent : Value}
    {f__law_door : Addr} {od__law_door an__law_door : Option Addr} {sl__law_door : Array (Option Value)} {oc__law_door kV__law_door dc__law_door pm__law_door cd__law_door ct__law_door : Value}
    {f__law_value_right : Addr} {od__law_value_right an__law_value_right : Option Addr} {sl__law_value_right : Array (Option Value)} {oc__law_value_right kV__law_value_right dc__law_value_right pm__law_value_right cd__law_value_right ct__law_value_right : Value}
    {f__law_barren : Addr} {od__law_barren an__law_barren : Option Addr} {sl__law_barren : Array (Option Value)} {oc__law_barren kV__law_barren dc__law_barren pm__law_barren cd__law_barren ct__law_barren : Value}
    {f__law_wide : Addr} {od__law_wide an__law_wide : Option Addr} {sl__law_wide : Array (Option Value)} {oc__law_wide kV__law_wide dc__law_wide pm__law_wide cd__law_wide ct__law_wide : Value}
    {f_law : Addr} {od_law an_law : Option Addr} {sl_law : Array (Option Value)} {oc_law kV_law dc_law pm_law cd_law ct_law : Value}
    {t_DIGITS : Tok}
    {t_LONGEST : Tok}
    {t_LOWER : Tok}
    {t_MOST_FIELDS : Tok}
    {t_MOST_KINDS : Tok}
    {t_MOST_MAKERS : Tok}
    {t_MOST_ROWS : Tok}
    {t_MOST_TOLD : Tok}
    {t_UPPER : Tok}
    {c_BadKind : Addr}
    {c_BadKinds : Addr}
    {c_BadRows : Addr}
    {c_PrintError : Addr}
    (A_is_row : PySem.W.nsIn K mainGlobals "is_row" = some (some (.ref f_is_row)))
    (L_is_row : K.lookup f_is_row = some ⟨oc_is_row, od_is_row, .func (PySem.W.fnOf "is_row" "is_row" (defArgs (topS 13)) (defBody (topS 13)) (defScope (topS 13)) .none kV_is_row dc_is_row pm_is_row an_is_row cd_is_row ct_is_row), sl_is_row⟩)
    (C_is_row : PySem.W.codeIn K cd_is_row "is_row" = true)
    (K_is_row : PySem.W.keepIn K (.ref f_is_row) = true)
    (A_in_run : PySem.W.nsIn K mainGlobals "in_run" = some (some (.ref f_in_run)))
    (L_in_run : K.lookup f_in_run = some ⟨oc_in_run, od_in_run, .func (PySem.W.fnOf "in_run" "in_run" (defArgs (topS 14)) (defBody (topS 14)) (defScope (topS 14)) .none kV_in_run dc_in_run pm_in_run an_in_run cd_in_run ct_in_run), sl_in_run⟩)
    (C_in_run : PySem.W.codeIn K cd_in_run "in_run" = true)
    (K_in_run : PySem.W.keepIn K (.ref f_in_run) = true)
    (A_is_desk_name : PySem.W.nsIn K mainGlobals "is_desk_name" = some (some (.ref f_is_desk_name)))
    (L_is_desk_name : K.lookup f_is_desk_name = some ⟨oc_is_desk_name, od_is_desk_name, .func (PySem.W.fnOf "is_desk_name" "is_desk_name" (defArgs (topS 15)) (defBody (topS 15)) (defScope (topS 15)) .none kV_is_desk_name dc_is_desk_name pm_is_desk_name an_is_desk_name cd_is_desk_name ct_is_desk_name), sl_is_desk_name⟩)
    (C_is_desk_name : PySem.W.codeIn K cd_is_desk_name "is_desk_name" = true)
    (K_is_desk_name : PySem.W.keepIn K (.ref f_is_desk_name) = true)
    (A_is_high : PySem.W.nsIn K mainGlobals "is_high" = some (some (.ref f_is_high)))
    (L_is_high : K.lookup f_is_high = some ⟨oc_is_high, od_is_high, .func (PySem.W.fnOf "is_high" "is_high" (defArgs (topS 16)) (defBody (topS 16)) (defScope (topS 16)) .none kV_is_high dc_is_high pm_is_high an_is_high cd_is_high ct_is_high), sl_is_high⟩)
    (C_is_high : PySem.W.codeIn K cd_is_high "is_high" = true)
    (K_is_high : PySem.W.keepIn K (.ref f_is_high) = true)
    (A_all_different : PySem.W.nsIn K mainGlobals "all_different" = some (some (.ref f_all_different)))
    (L_all_different : K.lookup f_all_different = some ⟨oc_all_different, od_all_different, .func (PySem.W.fnOf "all_different" "all_different" (defArgs (topS 17)) (defBody (topS 17)) (defScope (topS 17)) .none kV_all_different dc_all_different pm_all_different an_all_different cd_all_different ct_all_different), sl_all_different⟩)
    (C_all_different : PySem.W.codeIn K cd_all_different "all_different" = true)
    (K_all_different : PySem.W.keepIn K (.ref f_all_different) = true)
    (A_kind_index : PySem.W.nsIn K mainGlobals "kind_index" = some (some (.ref f_kind_index)))
    (L_kind_index : K.lookup f_kind_index = some ⟨oc_kind_index, od_kind_index, .func (PySem.W.fnOf "kind_index" "kind_index" (defArgs (topS 19)) (defBody (topS 19)) (defScope (topS 19)) .none kV_kind_index dc_kind_index pm_kind_index an_kind_index cd_kind_index ct_kind_index), sl_kind_index⟩)
    (C_kind_index : PySem.W.codeIn K cd_kind_index "kind_index" = true)
    (K_kind_index : PySem.W.keepIn K (.ref f_kind_index) = true)
    (A_has_form : PySem.W.nsIn K mainGlobals "has_form" = some (some (.ref f_has_form)))
    (L_has_form : K.lookup f_has_form = some ⟨oc_has_form, od_has_form, .func (PySem.W.fnOf "has_form" "has_form" (defArgs (topS 35)) (defBody (topS 35)) (defScope (topS 35)) .none kV_has_form dc_has_form pm_has_form an_has_form cd_has_form ct_has_form), sl_has_form⟩)
    (C_has_form : PySem.W.codeIn K cd_has_form "has_form" = true)
    (K_has_form : PySem.W.keepIn K (.ref f_has_form) = true)
    (A_with_trees : PySem.W.nsIn K mainGlobals "with_trees" = some (some (.ref f_with_trees)))
    (L_with_trees : K.lookup f_with_trees = some ⟨oc_with_trees, od_with_trees, .func (PySem.W.fnOf "with_trees" "with_trees" (defArgs (topS 36)) (defBody (topS 36)) (defScope (topS 36)) .none kV_with_trees dc_with_trees pm_with_trees an_with_trees cd_with_trees ct_with_trees), sl_with_trees⟩)
    (C_with_trees : PySem.W.codeIn K cd_with_trees "with_trees" = true)
    (K_with_trees : PySem.W.keepIn K (.ref f_with_trees) = true)
    (A_is_kinds : PySem.W.nsIn K mainGlobals "is_kinds" = some (some (.ref f_is_kinds)))
    (L_is_kinds : K.lookup f_is_kinds = some ⟨oc_is_kinds, od_is_kinds, .func (PySem.W.fnOf "is_kinds" "is_kinds" (defArgs (topS 37)) (defBody (topS 37)) (defScope (topS 37)) .none kV_is_kinds dc_is_kinds pm_is_kinds an_is_kinds cd_is_kinds ct_is_kinds), sl_is_kinds⟩)
    (C_is_kinds : PySem.W.codeIn K cd_is_kinds "is_kinds" = true)
    (K_is_kinds : PySem.W.keepIn K (.ref f_is_kinds) = true)
    (A_need_kinds : PySem.W.nsIn K mainGlobals "need_kinds" = some (some (.ref f_need_kinds)))
    (L_need_kinds : K.lookup f_need_kinds = some ⟨oc_need_kinds, od_need_kinds, .func (PySem.W.fnOf "need_kinds" "need_kinds" (defArgs (topS 38)) (defBody (topS 38)) (defScope (topS 38)) .none kV_need_kinds dc_need_kinds pm_need_kinds an_need_kinds cd_need_kinds ct_need_kinds), sl_need_kinds⟩)
    (C_need_kinds : PySem.W.codeIn K cd_need_kinds "need_kinds" = true)
    (K_need_kinds : PySem.W.keepIn K (.ref f_need_kinds) = true)
    (A_need_kind : PySem.W.nsIn K mainGlobals "need_kind" = some (some (.ref f_need_kind)))
    (L_need_kind : K.lookup f_need_kind = some ⟨oc_need_kind, od_need_kind, .func (PySem.W.fnOf "need_kind" "need_kind" (defArgs (topS 39)) (defBody (topS 39)) (defScope (topS 39)) .none kV_need_kind dc_need_kind pm_need_kind an_need_kind cd_need_kind ct_need_kind), sl_need_kind⟩)
    (C_need_kind : PySem.W.codeIn K cd_need_kind "need_kind" = true)
    (K_need_kind : PySem.W.keepIn K (.ref f_need_kind) = true)
    (A_is_tree : PySem.W.nsIn K mainGlobals "is_tree" = some (some (.ref f_is_tree)))
    (L_is_tree : K.lookup f_is_tree = some ⟨oc_is_tree, od_is_tree, .func (PySem.W.fnOf "is_tree" "is_tree" (defArgs (topS 42)) (defBody (topS 42)) (defScope (topS 42)) .none kV_is_tree dc_is_tree pm_is_tree an_is_tree cd_is_tree ct_is_tree), sl_is_tree⟩)
    (C_is_tree : PySem.W.codeIn K cd_is_tree "is_tree" = true)
    (K_is_tree : PySem.W.keepIn K (.ref f_is_tree) = true)
    (A_fit_rows : PySem.W.nsIn K mainGlobals "fit_rows" = some (some (.ref f_fit_rows)))
    (L_fit_rows : K.lookup f_fit_rows = some ⟨oc_fit_rows, od_fit_rows, .func (PySem.W.fnOf "fit_rows" "fit_rows" (defArgs (topS 44)) (defBody (topS 44)) (defScope (topS 44)) .none kV_fit_rows dc_fit_rows pm_fit_rows an_fit_rows cd_fit_rows ct_fit_rows), sl_fit_rows⟩)
    (C_fit_rows : PySem.W.codeIn K cd_fit_rows "fit_rows" = true)
    (K_fit_rows : PySem.W.keepIn K (.ref f_fit_rows) = true)
    (A_need_rows : PySem.W.nsIn K mainGlobals "need_rows" = some (some (.ref f_need_rows)))
    (L_need_rows : K.lookup f_need_rows = some ⟨oc_need_rows, od_need_rows, .func (PySem.W.fnOf "need_rows" "need_rows" (defArgs (topS 45)) (defBody (topS 45)) (defScope (topS 45)) .none kV_need_rows dc_need_rows pm_need_rows an_need_rows cd_need_rows ct_need_rows), sl_need_rows⟩)
    (C_need_rows : PySem.W.codeIn K cd_need_rows "need_rows" = true)
    (K_need_rows : PySem.W.keepIn K (.ref f_need_rows) = true)
    (A_is_rows : PySem.W.nsIn K mainGlobals "is_rows" = some (some (.ref f_is_rows)))
    (L_is_rows : K.lookup f_is_rows = some ⟨oc_is_rows, od_is_rows, .func (PySem.W.fnOf "is_rows" "is_rows" (defArgs (topS 46)) (defBody (topS 46)) (defScope (topS 46)) .none kV_is_rows dc_is_rows pm_is_rows an_is_rows cd_is_rows ct_is_rows), sl_is_rows⟩)
    (C_is_rows : PySem.W.codeIn K cd_is_rows "is_rows" = true)
    (K_is_rows : PySem.W.keepIn K (.ref f_is_rows) = true)
    (A_rows_of : PySem.W.nsIn K mainGlobals "rows_of" = some (some (.ref f_rows_of)))
    (L_rows_of : K.lookup f_rows_of = some ⟨oc_rows_of, od_rows_of, .func (PySem.W.fnOf "rows_of" "rows_of" (defArgs (topS 48)) (defBody (topS 48)) (defScope (topS 48)) .none kV_rows_of dc_rows_of pm_rows_of an_rows_of cd_rows_of ct_rows_of), sl_rows_of⟩)
    (C_rows_of : PySem.W.codeIn K cd_rows_of "rows_of" = true)
    (K_rows_of : PySem.W.keepIn K (.ref f_rows_of) = true)
    (A_tree_size : PySem.W.nsIn K mainGlobals "tree_size" = some (some (.ref f_tree_size)))
    (L_tree_size : K.lookup f_tree_size = some ⟨oc_tree_size, od_tree_size, .func (PySem.W.fnOf "tree_size" "tree_size" (defArgs (topS 49)) (defBody (topS 49)) (defScope (topS 49)) .none kV_tree_size dc_tree_size pm_tree_size an_tree_size cd_tree_size ct_tree_size), sl_tree_size⟩)
    (C_tree_size : PySem.W.codeIn K cd_tree_size "tree_size" = true)
    (K_tree_size : PySem.W.keepIn K (.ref f_tree_size) = true)
    (A_listing_of : PySem.W.nsIn K mainGlobals "listing_of" = some (some (.ref f_listing_of)))
    (L_listing_of : K.lookup f_listing_of = some ⟨oc_listing_of, od_listing_of, .func (PySem.W.fnOf "listing_of" "listing_of" (defArgs (topS 50)) (defBody (topS 50)) (defScope (topS 50)) .none kV_listing_of dc_listing_of pm_listing_of an_listing_of cd_listing_of ct_listing_of), sl_listing_of⟩)
    (C_listing_of : PySem.W.codeIn K cd_listing_of "listing_of" = true)
    (K_listing_of : PySem.W.keepIn K (.ref f_listing_of) = true)
    (A_compare_trees : PySem.W.nsIn K mainGlobals "compare_trees" = some (some (.ref f_compare_trees)))
    (L_compare_trees : K.lookup f_compare_trees = some ⟨oc_compare_trees, od_compare_trees, .func (PySem.W.fnOf "compare_trees" "compare_trees" (defArgs (topS 51)) (defBody (topS 51)) (defScope (topS 51)) .none kV_compare_trees dc_compare_trees pm_compare_trees an_compare_trees cd_compare_trees ct_compare_trees), sl_compare_trees⟩)
    (C_compare_trees : PySem.W.codeIn K cd_compare_trees "compare_trees" = true)
    (K_compare_trees : PySem.W.keepIn K (.ref f_compare_trees) = true)
    (A__law_well : PySem.W.nsIn K mainGlobals "_law_well" = some (some (.ref f__law_well)))
    (L__law_well : K.lookup f__law_well = some ⟨oc__law_well, od__law_well, .func (PySem.W.fnOf "_law_well" "_law_well" (defArgs (topS 53)) (defBody (topS 53)) (defScope (topS 53)) .none kV__law_well dc__law_well pm__law_well an__law_well cd__law_well ct__law_well), sl__law_well⟩)
    (C__law_well : PySem.W.codeIn K cd__law_well "_law_well" = true)
    (K__law_well : PySem.W.keepIn K (.ref f__law_well) = true)
    (A__law_draw : PySem.W.nsIn K mainGlobals "_law_draw" = some (some (.ref f__law_draw)))
    (L__law_draw : K.lookup f__law_draw = some ⟨oc__law_draw, od__law_draw, .func (PySem.W.fnOf "_law_draw" "_law_draw" (defArgs (topS 54)) (defBody (topS 54)) (defScope (topS 54)) .none kV__law_draw dc__law_draw pm__law_draw an__law_draw cd__law_draw ct__law_draw), sl__law_draw⟩)
    (C__law_draw : PySem.W.codeIn K cd__law_draw "_law_draw" = true)
    (K__law_draw : PySem.W.keepIn K (.ref f__law_draw) = true)
    (A__law_is : PySem.W.nsIn K mainGlobals "_law_is" = some (some (.ref f__law_is)))
    (L__law_is : K.lookup f__law_is = some ⟨oc__law_is, od__law_is, .func (PySem.W.fnOf "_law_is" "_law_is" (defArgs (topS 55)) (defBody (topS 55)) (defScope (topS 55)) .none kV__law_is dc__law_is pm__law_is an__law_is cd__law_is ct__law_is), sl__law_is⟩)
    (C__law_is : PySem.W.codeIn K cd__law_is "_law_is" = true)
    (K__law_is : PySem.W.keepIn K (.ref f__law_is) = true)
    (A__law_name : PySem.W.nsIn K mainGlobals "_law_name" = some (some (.ref f__law_name)))
    (L__law_name : K.lookup f__law_name = some ⟨oc__law_name, od__law_name, .func (PySem.W.fnOf "_law_name" "_law_name" (defArgs (topS 56)) (defBody (topS 56)) (defScope (topS 56)) .none kV__law_name dc__law_name pm__law_name an__law_name cd__law_name ct__law_name), sl__law_name⟩)
    (C__law_name : PySem.W.codeIn K cd__law_name "_law_name" = true)
    (K__law_name : PySem.W.keepIn K (.ref f__law_name) = true)
    (A__law_kinds : PySem.W.nsIn K mainGlobals "_law_kinds" = some (some (.ref f__law_kinds)))
    (L__law_kinds : K.lookup f__law_kinds = some ⟨oc__law_kinds, od__law_kinds, .func (PySem.W.fnOf "_law_kinds" "_law_kinds" (defArgs (topS 57)) (defBody (topS 57)) (defScope (topS 57)) .none kV__law_kinds dc__law_kinds pm__law_kinds an__law_kinds cd__law_kinds ct__law_kinds), sl__law_kinds⟩)
    (C__law_kinds : PySem.W.codeIn K cd__law_kinds "_law_kinds" = true)
    (K__law_kinds : PySem.W.keepIn K (.ref f__law_kinds) = true)
    (A__law_is_name : PySem.W.nsIn K mainGlobals "_law_is_name" = some (some (.ref f__law_is_name)))
    (L__law_is_name : K.lookup f__law_is_name = some ⟨oc__law_is_name, od__law_is_name, .func (PySem.W.fnOf "_law_is_name" "_law_is_name" (defArgs (topS 58)) (defBody (topS 58)) (defScope (topS 58)) .none kV__law_is_name dc__law_is_name pm__law_is_name an__law_is_name cd__law_is_name ct__law_is_name), sl__law_is_name⟩)
    (C__law_is_name : PySem.W.codeIn K cd__law_is_name "_law_is_name" = true)
    (K__law_is_name : PySem.W.keepIn K (.ref f__law_is_name) = true)
    (A__law_is_kinds : PySem.W.nsIn K mainGlobals "_law_is_kinds" = some (some (.ref f__law_is_kinds)))
    (L__law_is_kinds : K.lookup f__law_is_kinds = some ⟨oc__law_is_kinds, od__law_is_kinds, .func (PySem.W.fnOf "_law_is_kinds" "_law_is_kinds" (defArgs (topS 59)) (defBody (topS 59)) (defScope (topS 59)) .none kV__law_is_kinds dc__law_is_kinds pm__law_is_kinds an__law_is_kinds cd__law_is_kinds ct__law_is_kinds), sl__law_is_kinds⟩)
    (C__law_is_kinds : PySem.W.codeIn K cd__law_is_kinds "_law_is_kinds" = true)
    (K__law_is_kinds : PySem.W.keepIn K (.ref f__law_is_kinds) = true)
    (A__law_bent : PySem.W.nsIn K mainGlobals "_law_bent" = some (some (.ref f__law_bent)))
    (L__law_bent : K.lookup f__law_bent = some ⟨oc__law_bent, od__law_bent, .func (PySem.W.fnOf "_law_bent" "_law_bent" (defArgs (topS 60)) (defBody (topS 60)) (defScope (topS 60)) .none kV__law_bent dc__law_bent pm__law_bent an__law_bent cd__law_bent ct__law_bent), sl__law_bent⟩)
    (C__law_bent : PySem.W.codeIn K cd__law_bent "_law_bent" = true)
    (K__law_bent : PySem.W.keepIn K (.ref f__law_bent) = true)
    (A__law_door : PySem.W.nsIn K mainGlobals "_law_door" = some (some (.ref f__law_door)))
    (L__law_door : K.lookup f__law_door = some ⟨oc__law_door, od__law_door, .func (PySem.W.fnOf "_law_door" "_law_door" (defArgs (topS 61)) (defBody (topS 61)) (defScope (topS 61)) .none kV__law_door dc__law_door pm__law_door an__law_door cd__law_door ct__law_door), sl__law_door⟩)
    (C__law_door : PySem.W.codeIn K cd__law_door "_law_door" = true)
    (K__law_door : PySem.W.keepIn K (.ref f__law_door) = true)
    (A__law_value_right : PySem.W.nsIn K mainGlobals "_law_value_right" = some (some (.ref f__law_value_right)))
    (L__law_value_right : K.lookup f__law_value_right = some ⟨oc__law_value_right, od__law_value_right, .func (PySem.W.fnOf "_law_value_right" "_law_value_right" (defArgs (topS 62)) (defBody (topS 62)) (defScope (topS 62)) .none kV__law_value_right dc__law_value_right pm__law_value_right an__law_value_right cd__law_value_right ct__law_value_right), sl__law_value_right⟩)
    (C__law_value_right : PySem.W.codeIn K cd__law_value_right "_law_value_right" = true)
    (K__law_value_right : PySem.W.keepIn K (.ref f__law_value_right) = true)
    (A__law_barren : PySem.W.nsIn K mainGlobals "_law_barren" = some (some (.ref f__law_barren)))
    (L__law_barren : K.lookup f__law_barren = some ⟨oc__law_barren, od__law_barren, .func (PySem.W.fnOf "_law_barren" "_law_barren" (defArgs (topS 63)) (defBody (topS 63)) (defScope (topS 63)) .none kV__law_barren dc__law_barren pm__law_barren an__law_barren cd__law_barren ct__law_barren), sl__law_barren⟩)
    (C__law_barren : PySem.W.codeIn K cd__law_barren "_law_barren" = true)
    (K__law_barren : PySem.W.keepIn K (.ref f__law_barren) = true)
    (A__law_wide : PySem.W.nsIn K mainGlobals "_law_wide" = some (some (.ref f__law_wide)))
    (L__law_wide : K.lookup f__law_wide = some ⟨oc__law_wide, od__law_wide, .func (PySem.W.fnOf "_law_wide" "_law_wide" (defArgs (topS 64)) (defBody (topS 64)) (defScope (topS 64)) .none kV__law_wide dc__law_wide pm__law_wide an__law_wide cd__law_wide ct__law_wide), sl__law_wide⟩)
    (C__law_wide : PySem.W.codeIn K cd__law_wide "_law_wide" = true)
    (K__law_wide : PySem.W.keepIn K (.ref f__law_wide) = true)
    (A_law : PySem.W.nsIn K mainGlobals "law" = some (some (.ref f_law)))
    (L_law : K.lookup f_law = some ⟨oc_law, od_law, .func (PySem.W.fnOf "law" "law" (defArgs (topS 65)) (defBody (topS 65)) (defScope (topS 65)) .none kV_law dc_law pm_law an_law cd_law ct_law), sl_law⟩)
    (C_law : PySem.W.codeIn K cd_law "law" = true)
    (K_law : PySem.W.keepIn K (.ref f_law) = true)
    (G_DIGITS : PySem.W.nsIn K mainGlobals "DIGITS" = some (some (.str "0123456789" t_DIGITS)))
    (G_LONGEST : PySem.W.nsIn K mainGlobals "LONGEST" = some (some (.int 10 t_LONGEST)))
    (G_LOWER : PySem.W.nsIn K mainGlobals "LOWER" = some (some (.str "abcdefghijklmnopqrstuvwxyz" t_LOWER)))
    (G_MOST_FIELDS : PySem.W.nsIn K mainGlobals "MOST_FIELDS" = some (some (.int 4 t_MOST_FIELDS)))
    (G_MOST_KINDS : PySem.W.nsIn K mainGlobals "MOST_KINDS" = some (some (.int 60 t_MOST_KINDS)))
    (G_MOST_MAKERS : PySem.W.nsIn K mainGlobals "MOST_MAKERS" = some (some (.int 8 t_MOST_MAKERS)))
    (G_MOST_ROWS : PySem.W.nsIn K mainGlobals "MOST_ROWS" = some (some (.int 4000 t_MOST_ROWS)))
    (G_MOST_TOLD : PySem.W.nsIn K mainGlobals "MOST_TOLD" = some (some (.int 4000 t_MOST_TOLD)))
    (G_UPPER : PySem.W.nsIn K mainGlobals "UPPER" = some (some (.str "ABCDEFGHIJKLMNOPQRSTUVWXYZ" t_UPPER)))
    (N_BadKind : PySem.W.nsIn K mainGlobals "BadKind" = some (some (.ref c_BadKind)))
    (Q_BadKind : PySem.W.excIn K c_BadKind [.type "ValueError", .type "Exception", .type "BaseException", .type "object"] "ValueError.__new__" = true)
    (V_BadKind : PySem.W.keepIn K (.ref c_BadKind) = true)
    (S_BadKind : PySem.W.subIn K (.ref c_BadKind) (.type "BaseException") = some true)
    (Y_BadKind : PySem.W.typeIn K (.ref c_BadKind) = some (.type "type"))
    (N_BadKinds : PySem.W.nsIn K mainGlobals "BadKinds" = some (some (.ref c_BadKinds)))
    (Q_BadKinds : PySem.W.excIn K c_BadKinds [.type "ValueError", .type "Exception", .type "BaseException", .type "object"] "ValueError.__new__" = true)
    (V_BadKinds : PySem.W.keepIn K (.ref c_BadKinds) = true)
    (S_BadKinds : PySem.W.subIn K (.ref c_BadKinds) (.type "BaseException") = some true)
    (Y_BadKinds : PySem.W.typeIn K (.ref c_BadKinds) = some (.type "type"))
    (N_BadRows : PySem.W.nsIn K mainGlobals "BadRows" = some (some (.ref c_BadRows)))
    (Q_BadRows : PySem.W.excIn K c_BadRows [.type "ValueError", .type "Exception", .type "BaseException", .type "object"] "ValueError.__new__" = true)
    (V_BadRows : PySem.W.keepIn K (.ref c_BadRows) = true)
    (S_BadRows : PySem.W.subIn K (.ref c_BadRows) (.type "BaseException") = some true)
    (Y_BadRows : PySem.W.typeIn K (.ref c_BadRows) = some (.type "type"))
    (N_PrintError : PySem.W.nsIn K mainGlobals "PrintError" = some (some (.ref c_PrintError)))
    (E_BadKind_BadKinds : PySem.W.exmOne K (.ref c_BadKind) (.ref c_BadKinds) = some false)
    (E_BadKind_PrintError : PySem.W.exmOne K (.ref c_BadKind) (.ref c_PrintError) = some true)
    (E_BadKinds_BadKinds : PySem.W.exmOne K (.ref c_BadKinds) (.ref c_BadKinds) = some true)
    (E_BadKinds_PrintError : PySem.W.exmOne K (.ref c_BadKinds) (.ref c_PrintError) = some true)
    (E_BadRows_BadKinds : PySem.W.exmOne K (.ref c_BadRows) (.ref c_BadKinds) = some false)
    (E_BadRows_PrintError : PySem.W.exmOne K (.ref c_BadRows) (.ref c_PrintError) = some true)
    (Z_all : PySem.W.nsIn K mainGlobals "all" = some none)
    (Z_any : PySem.W.nsIn K mainGlobals "any" = some none)
    (Z_bool : PySem.W.nsIn K mainGlobals "bool" = some none)
    (Z_enumerate : PySem.W.nsIn K mainGlobals "enumerate" = some none)
    (Z_int : PySem.W.nsIn K mainGlobals "int" = some none)
    (Z_isinstance : PySem.W.nsIn K mainGlobals "isinstance" = some none)
    (Z_len : PySem.W.nsIn K mainGlobals "len" = some none)
    (Z_list : PySem.W.nsIn K mainGlobals "list" = some none)
    (Z_range : PySem.W.nsIn K mainGlobals "range" = some none)
    (Z_repr : PySem.W.nsIn K mainGlobals "repr" = some none)
    (Z_set : PySem.W.nsIn K mainGlobals "set" = some none)
    (Z_str : PySem.W.nsIn K mainGlobals "str" = some none)
    (Z_tuple : PySem.W.nsIn K mainGlobals "tuple" = some none)
    : ∃ fd : FuncData, (∀ (s : Shared) (v : Value), BindsTo s fd ⟨[v], []⟩ [("script", v)]) ∧ ∀ base : Heap, K.In base → base.Ns mainGlobals mg → FnOkG l.prog w K mg base CX0 23 fa fd ["script"] (lSp K sp_law) := by
  have e := hfa.symm.trans (mkTxt X GN A_is_row L_is_row C_is_row K_is_row A_in_run L_in_run C_in_run K_in_run A_is_desk_name L_is_desk_name C_is_desk_name K_is_desk_name A_is_high L_is_high C_is_high K_is_high A_all_different L_all_different C_all_different K_all_different A_kind_index L_kind_index C_kind_index K_kind_index A_has_form L_has_form C_has_form K_has_form A_with_trees L_with_trees C_with_trees K_with_trees A_is_kinds L_is_kinds C_is_kinds K_is_kinds A_need_kinds L_need_kinds C_need_kinds K_need_kinds A_need_kind L_need_kind C_need_kind K_need_kind A_is_tree L_is_tree C_is_tree K_is_tree A_fit_rows L_fit_rows C_fit_rows K_fit_rows A_need_rows L_need_rows C_need_rows K_need_rows A_is_rows L_is_rows C_is_rows K_is_rows A_rows_of L_rows_of C_rows_of K_rows_of A_tree_size L_tree_size C_tree_size K_tree_size A_listing_of L_listing_of C_listing_of K_listing_of A_compare_trees L_compare_trees C_compare_trees K_compare_trees A__law_well L__law_well C__law_well K__law_well A__law_draw L__law_draw C__law_draw K__law_draw A__law_is L__law_is C__law_is K__law_is A__law_name L__law_name C__law_name K__law_name A__law_kinds L__law_kinds C__law_kinds K__law_kinds A__law_is_name L__law_is_name C__law_is_name K__law_is_name A__law_is_kinds L__law_is_kinds C__law_is_kinds K__law_is_kinds A__law_bent L__law_bent C__law_bent K__law_bent A__law_door L__law_door C__law_door K__law_door A__law_value_right L__law_value_right C__law_value_right K__law_value_right A__law_barren L__law_barren C__law_barren K__law_barren A__law_wide L__law_wide C__law_wide K__law_wide A_law L_law C_law K_law G_DIGITS G_LONGEST G_LOWER G_MOST_FIELDS G_MOST_KINDS G_MOST_MAKERS G_MOST_ROWS G_MOST_TOLD G_UPPER N_BadKind Q_BadKind V_BadKind S_BadKind Y_BadKind N_BadKinds Q_BadKinds V_BadKinds S_BadKinds Y_BadKinds N_BadRows Q_BadRows V_BadRows S_BadRows Y_BadRows N_PrintError E_BadKind_BadKinds E_BadKind_PrintError E_BadKinds_BadKinds E_BadKinds_PrintError E_BadRows_BadKinds E_BadRows_PrintError Z_all Z_any Z_bool Z_enumerate Z_int Z_isinstance Z_len Z_list Z_range Z_repr Z_set Z_str Z_tuple).m_law
  cases e
  exact ⟨_, fun s v => .of_eq rfl, fun base _ _ => ok_law (mkTxt X GN A_is_row L_is_row C_is_row K_is_row A_in_run L_in_run C_in_run K_in_run A_is_desk_name L_is_desk_name C_is_desk_name K_is_desk_name A_is_high L_is_high C_is_high K_is_high A_all_different L_all_different C_all_different K_all_different A_kind_index L_kind_index C_kind_index K_kind_index A_has_form L_has_form C_has_form K_has_form A_with_trees L_with_trees C_with_trees K_with_trees A_is_kinds L_is_kinds C_is_kinds K_is_kinds A_need_kinds L_need_kinds C_need_kinds K_need_kinds A_need_kind L_need_kind C_need_kind K_need_kind A_is_tree L_is_tree C_is_tree K_is_tree A_fit_rows L_fit_rows C_fit_rows K_fit_rows A_need_rows L_need_rows C_need_rows K_need_rows A_is_rows L_is_rows C_is_rows K_is_rows A_rows_of L_rows_of C_rows_of K_rows_of A_tree_size L_tree_size C_tree_size K_tree_size A_listing_of L_listing_of C_listing_of K_listing_of A_compare_trees L_compare_trees C_compare_trees K_compare_trees A__law_well L__law_well C__law_well K__law_well A__law_draw L__law_draw C__law_draw K__law_draw A__law_is L__law_is C__law_is K__law_is A__law_name L__law_name C__law_name K__law_name A__law_kinds L__law_kinds C__law_kinds K__law_kinds A__law_is_name L__law_is_name C__law_is_name K__law_is_name A__law_is_kinds L__law_is_kinds C__law_is_kinds K__law_is_kinds A__law_bent L__law_bent C__law_bent K__law_bent A__law_door L__law_door C__law_door K__law_door A__law_value_right L__law_value_right C__law_value_right K__law_value_right A__law_barren L__law_barren C__law_barren K__law_barren A__law_wide L__law_wide C__law_wide K__law_wide A_law L_law C_law K_law G_DIGITS G_LONGEST G_LOWER G_MOST_FIELDS G_MOST_KINDS G_MOST_MAKERS G_MOST_ROWS G_MOST_TOLD G_UPPER N_BadKind Q_BadKind V_BadKind S_BadKind Y_BadKind N_BadKinds Q_BadKinds V_BadKinds S_BadKinds Y_BadKinds N_BadRows Q_BadRows V_BadRows S_BadRows Y_BadRows N_PrintError E_BadKind_BadKinds E_BadKind_PrintError E_BadKinds_BadKinds E_BadKinds_PrintError E_BadRows_BadKinds E_BadRows_PrintError Z_all Z_any Z_bool Z_enumerate Z_int Z_isinstance Z_len Z_list Z_range Z_repr Z_set Z_str Z_tuple)⟩
end K21
open PySem PySem.W PyProof.Rows
set_option maxHeartbeats 0 in
theorem PySem.Challenge.cw_printsalike_k21_kinds_judged_holds : PySem.Challenge.rw_printsalike_k21_kinds_judged.Holds := by
  w_on; o_law; k_head; (case hw => w_witness2)
  k_fill
  refine DL.walkG_of (l := PySem.Challenge.rw_printsalike_k21_kinds_judged) (n := 63) (k := 23) (x := "script") (CX := fun _ => L2.CX0) (sp := fun w => DL.lSp _ DL.sp_law) rfl (by decide) rfl ⟨rfl, by decide, by decide⟩ (fun w h Y => PySem.W.kIn_of Y) ?F (fun _ _ a ns hl hO hS => DL.end_sp DL.end_law hl hO hS) (fun _ _ _ _ _ h => h)
  case F =>
    intro w mg fa h KX G hmg
    refine' K21.all_mk KX G hmg ?A_is_row ?L_is_row ?C_is_row ?K_is_row ?A_in_run ?L_in_run ?C_in_run ?K_in_run ?A_is_desk_name ?L_is_desk_name ?C_is_desk_name ?K_is_desk_name ?A_is_high ?L_is_high ?C_is_high ?K_is_high ?A_all_different ?L_all_different ?C_all_different ?K_all_different ?A_kind_index ?L_kind_index ?C_kind_index ?K_kind_index ?A_has_form ?L_has_form ?C_has_form ?K_has_form ?A_with_trees ?L_with_trees ?C_with_trees ?K_with_trees ?A_is_kinds ?L_is_kinds ?C_is_kinds ?K_is_kinds ?A_need_kinds ?L_need_kinds ?C_need_kinds ?K_need_kinds ?A_need_kind ?L_need_kind ?C_need_kind ?K_need_kind ?A_is_tree ?L_is_tree ?C_is_tree ?K_is_tree ?A_fit_rows ?L_fit_rows ?C_fit_rows ?K_fit_rows ?A_need_rows ?L_need_rows ?C_need_rows ?K_need_rows ?A_is_rows ?L_is_rows ?C_is_rows ?K_is_rows ?A_rows_of ?L_rows_of ?C_rows_of ?K_rows_of ?A_tree_size ?L_tree_size ?C_tree_size ?K_tree_size ?A_listing_of ?L_listing_of ?C_listing_of ?K_listing_of ?A_compare_trees ?L_compare_trees ?C_compare_trees ?K_compare_trees ?A__law_well ?L__law_well ?C__law_well ?K__law_well ?A__law_draw ?L__law_draw ?C__law_draw ?K__law_draw ?A__law_is ?L__law_is ?C__law_is ?K__law_is ?A__law_name ?L__law_name ?C__law_name ?K__law_name ?A__law_kinds ?L__law_kinds ?C__law_kinds ?K__law_kinds ?A__law_is_name ?L__law_is_name ?C__law_is_name ?K__law_is_name ?A__law_is_kinds ?L__law_is_kinds ?C__law_is_kinds ?K__law_is_kinds ?A__law_bent ?L__law_bent ?C__law_bent ?K__law_bent ?A__law_door ?L__law_door ?C__law_door ?K__law_door ?A__law_value_right ?L__law_value_right ?C__law_value_right ?K__law_value_right ?A__law_barren ?L__law_barren ?C__law_barren ?K__law_barren ?A__law_wide ?L__law_wide ?C__law_wide ?K__law_wide ?A_law ?L_law ?C_law ?K_law ?G_DIGITS ?G_LONGEST ?G_LOWER ?G_MOST_FIELDS ?G_MOST_KINDS ?G_MOST_MAKERS ?G_MOST_ROWS ?G_MOST_TOLD ?G_UPPER ?N_BadKind ?Q_BadKind ?V_BadKind ?S_BadKind ?Y_BadKind ?N_BadKinds ?Q_BadKinds ?V_BadKinds ?S_BadKinds ?Y_BadKinds ?N_BadRows ?Q_BadRows ?V_BadRows ?S_BadRows ?Y_BadRows ?N_PrintError ?E_BadKind_BadKinds ?E_BadKind_PrintError ?E_BadKinds_BadKinds ?E_BadKinds_PrintError ?E_BadRows_BadKinds ?E_BadRows_PrintError ?Z_all ?Z_any ?Z_bool ?Z_enumerate ?Z_int ?Z_isinstance ?Z_len ?Z_list ?Z_range ?Z_repr ?Z_set ?Z_str ?Z_tuple
    (case A_is_row => k_is)
    (case L_is_row => k_is)
    (case C_is_row => k_is)
    (case K_is_row => k_is)
    (case A_in_run => k_is)
    (case L_in_run => k_is)
    (case C_in_run => k_is)
    (case K_in_run => k_is)
    (case A_is_desk_name => k_is)
    (case L_is_desk_name => k_is)
    (case C_is_desk_name => k_is)
    (case K_is_desk_name => k_is)
    (case A_is_high => k_is)
    (case L_is_high => k_is)
    (case C_is_high => k_is)
    (case K_is_high => k_is)
    (case A_all_different => k_is)
    (case L_all_different => k_is)
    (case C_all_different => k_is)
    (case K_all_different => k_is)
    (case A_kind_index => k_is)
    (case L_kind_index => k_is)
    (case C_kind_index => k_is)
    (case K_kind_index => k_is)
    (case A_has_form => k_is)
    (case L_has_form => k_is)
    (case C_has_form => k_is)
    (case K_has_form => k_is)
    (case A_with_trees => k_is)
    (case L_with_trees => k_is)
    (case C_with_trees => k_is)
    (case K_with_trees => k_is)
    (case A_is_kinds => k_is)
    (case L_is_kinds => k_is)
    (case C_is_kinds => k_is)
    (case K_is_kinds => k_is)
    (case A_need_kinds => k_is)
    (case L_need_kinds => k_is)
    (case C_need_kinds => k_is)
    (case K_need_kinds => k_is)
    (case A_need_kind => k_is)
    (case L_need_kind => k_is)
    (case C_need_kind => k_is)
    (case K_need_kind => k_is)
    (case A_is_tree => k_is)
    (case L_is_tree => k_is)
    (case C_is_tree => k_is)
    (case K_is_tree => k_is)
    (case A_fit_rows => k_is)
    (case L_fit_rows => k_is)
    (case C_fit_rows => k_is)
    (case K_fit_rows => k_is)
    (case A_need_rows => k_is)
    (case L_need_rows => k_is)
    (case C_need_rows => k_is)
    (case K_need_rows => k_is)
    (case A_is_rows => k_is)
    (case L_is_rows => k_is)
    (case C_is_rows => k_is)
    (case K_is_rows => k_is)
    (case A_rows_of => k_is)
    (case L_rows_of => k_is)
    (case C_rows_of => k_is)
    (case K_rows_of => k_is)
    (case A_tree_size => k_is)
    (case L_tree_size => k_is)
    (case C_tree_size => k_is)
    (case K_tree_size => k_is)
    (case A_listing_of => k_is)
    (case L_listing_of => k_is)
    (case C_listing_of => k_is)
    (case K_listing_of => k_is)
    (case A_compare_trees => k_is)
    (case L_compare_trees => k_is)
    (case C_compare_trees => k_is)
    (case K_compare_trees => k_is)
    (case A__law_well => k_is)
    (case L__law_well => k_is)
    (case C__law_well => k_is)
    (case K__law_well => k_is)
    (case A__law_draw => k_is)
    (case L__law_draw => k_is)
    (case C__law_draw => k_is)
    (case K__law_draw => k_is)
    (case A__law_is => k_is)
    (case L__law_is => k_is)
    (case C__law_is => k_is)
    (case K__law_is => k_is)
    (case A__law_name => k_is)
    (case L__law_name => k_is)
    (case C__law_name => k_is)
    (case K__law_name => k_is)
    (case A__law_kinds => k_is)
    (case L__law_kinds => k_is)
    (case C__law_kinds => k_is)
    (case K__law_kinds => k_is)
    (case A__law_is_name => k_is)
    (case L__law_is_name => k_is)
    (case C__law_is_name => k_is)
    (case K__law_is_name => k_is)
    (case A__law_is_kinds => k_is)
    (case L__law_is_kinds => k_is)
    (case C__law_is_kinds => k_is)
    (case K__law_is_kinds => k_is)
    (case A__law_bent => k_is)
    (case L__law_bent => k_is)
    (case C__law_bent => k_is)
    (case K__law_bent => k_is)
    (case A__law_door => k_is)
    (case L__law_door => k_is)
    (case C__law_door => k_is)
    (case K__law_door => k_is)
    (case A__law_value_right => k_is)
    (case L__law_value_right => k_is)
    (case C__law_value_right => k_is)
    (case K__law_value_right => k_is)
    (case A__law_barren => k_is)
    (case L__law_barren => k_is)
    (case C__law_barren => k_is)
    (case K__law_barren => k_is)
    (case A__law_wide => k_is)
    (case L__law_wide => k_is)
    (case C__law_wide => k_is)
    (case K__law_wide => k_is)
    (case A_law => k_is)
    (case L_law => k_is)
    (case C_law => k_is)
    (case K_law => k_is)
    (case G_DIGITS => k_is)
    (case G_LONGEST => k_is)
    (case G_LOWER => k_is)
    (case G_MOST_FIELDS => k_is)
    (case G_MOST_KINDS => k_is)
    (case G_MOST_MAKERS => k_is)
    (case G_MOST_ROWS => k_is)
    (case G_MOST_TOLD => k_is)
    (case G_UPPER => k_is)
    (case N_BadKind => k_is)
    (case Q_BadKind => k_exc)
    (case V_BadKind => k_is)
    (case S_BadKind => k_is)
    (case Y_BadKind => k_is)
    (case N_BadKinds => k_is)
    (case Q_BadKinds => k_exc)
    (case V_BadKinds => k_is)
    (case S_BadKinds => k_is)
    (case Y_BadKinds => k_is)
    (case N_BadRows => k_is)
    (case Q_BadRows => k_exc)
    (case V_BadRows => k_is)
    (case S_BadRows => k_is)
    (case Y_BadRows => k_is)
    (case N_PrintError => k_is)
    (case E_BadKind_BadKinds => exact PySem.W.exm_ref (by k_is) (by k_is) (by k_is) (by k_is))
    (case E_BadKind_PrintError => exact PySem.W.exm_ref (by k_is) (by k_is) (by k_is) (by k_is))
    (case E_BadKinds_BadKinds => exact PySem.W.exm_ref (by k_is) (by k_is) (by k_is) (by k_is))
    (case E_BadKinds_PrintError => exact PySem.W.exm_ref (by k_is) (by k_is) (by k_is) (by k_is))
    (case E_BadRows_BadKinds => exact PySem.W.exm_ref (by k_is) (by k_is) (by k_is) (by k_is))
    (case E_BadRows_PrintError => exact PySem.W.exm_ref (by k_is) (by k_is) (by k_is) (by k_is))
    (case Z_all => k_is)
    (case Z_any => k_is)
    (case Z_bool => k_is)
    (case Z_enumerate => k_is)
    (case Z_int => k_is)
    (case Z_isinstance => k_is)
    (case Z_len => k_is)
    (case Z_list => k_is)
    (case Z_range => k_is)
    (case Z_repr => k_is)
    (case Z_set => k_is)
    (case Z_str => k_is)
    (case Z_tuple => k_is)

