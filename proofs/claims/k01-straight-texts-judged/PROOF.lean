import PyProof.Rows.All
import Wide.All
import OpenK.AllK
import Wide.FinOn
import HandS.ForMost
import HandS.IsInst
import HandS.TupAny
import HandS.Wide
import HandS.Style
import HandS.Flow
import HandS.TupMul
import KE.GoesEnum
import PySem.Challenge.RW_printsalike_k01_straight_texts_judged
set_option Elab.async false
set_option linter.all false
set_option maxRecDepth 100000
set_option maxHeartbeats 4000000
namespace DL
open PySem PySem.Spec L2
open PyProof.Rows hiding St

/-! ## data by value -/
/-- a Python value: tuples by their items, a list that nobody changes by its items (lsv), any other object by its address -/
inductive Dv where
  | non | bl (b : Bool) | int (i : Int) | str (x : Str) | tup (ds : List Dv) | lsv (ds : List Dv) | ref (a : Addr) | ty (n : String)
/-- what stands at an address that may be changed -/
inductive Ob where
  | lst (ds : List Dv)
abbrev DH := Addr → Option Ob
def upD (Hd : DH) (a : Addr) (o : Ob) : DH := fun b => if b = a then some o else Hd b
theorem upD_same {Hd : DH} {a : Addr} {o : Ob} : upD Hd a o a = some o := if_pos rfl
theorem upD_ne {Hd : DH} {a b : Addr} {o : Ob} (h : b ≠ a) : upD Hd a o b = Hd b := if_neg h
/-- a list that is not tracked as changeable -/
def FxL (K : PySem.W.Frag) (H : Hp) (a : Addr) (vs : List V) : Prop := (∃ o, H a = some (.frz o (.lst vs))) ∨
  ∃ (o : Obj) (its : Array Value) (n : Nat), K.lookup a = some o ∧ o.cls = .type "list" ∧ o.dict = none ∧ o.data = .seq its n ∧ its.size ≤ sizeLine ∧ Vals vs its.toList
theorem FxL.sq {K : PySem.W.Frag} {H : Hp} {a : Addr} {vs : List V} (h : FxL K H a vs) : SqL K H a vs := by
  rcases h with h | h
  · exact .inl (.inr h)
  · exact .inr h
mutual
def Rep (K : PySem.W.Frag) (H : Hp) : Dv → V → Prop
  | .non, v => v = .non
  | .bl b, v => v = .bl b
  | .int i, v => v = .int i
  | .str x, v => v = .str x
  | .ref a, v => v = .ref a
  | .ty n, v => v = .ty n
  | .tup ds, v => ∃ a vs, v = .ref a ∧ SqT K H a vs ∧ RepL K H ds vs
  | .lsv ds, v => ∃ a vs, v = .ref a ∧ FxL K H a vs ∧ RepL K H ds vs
def RepL (K : PySem.W.Frag) (H : Hp) : List Dv → List V → Prop
  | [], vs => vs = []
  | d :: ds, vs => ∃ v r, vs = v :: r ∧ Rep K H d v ∧ RepL K H ds r
end
def RepO (K : PySem.W.Frag) (H : Hp) (a : Addr) : Ob → Prop
  | .lst ds => ∃ vs, H a = some (.lst vs) ∧ RepL K H ds vs
def RepH (K : PySem.W.Frag) (H : Hp) (Hd : DH) : Prop := ∀ a o, Hd a = some o → RepO K H a o
abbrev DS := List (Option Dv)
def RepS (K : PySem.W.Frag) (H : Hp) (σd : DS) (σ : St) : Prop := σd.length = σ.length ∧ ∀ (i : Nat) (d : Dv), σd[i]? = some (some d) → ∃ v, σ[i]? = some (some v) ∧ Rep K H d v
/-- a step: what is tracked and not in Hd stands as it was, what is tracked stays tracked, what Hd' has and Hd had not is new -/
structure Stp (H : Hp) (Hd : DH) (H' : Hp) (Hd' : DH) : Prop where
  frame : ∀ a o, H a = some o → Hd a = none → H' a = some o
  dom : ∀ a, H a ≠ none → H' a ≠ none
  new : ∀ a, Hd' a ≠ none → Hd a ≠ none ∨ H a = none
/-- a part of the heap -/
def Sub (Hg Hd : DH) : Prop := ∀ a o, Hg a = some o → Hd a = some o
theorem Sub.refl (Hd : DH) : Sub Hd Hd := fun _ _ h => h
theorem Sub.trans {H1 H2 H3 : DH} (a : Sub H1 H2) (b : Sub H2 H3) : Sub H1 H3 := fun x o h => b x o (a x o h)
theorem Sub.upd {Hg Hd : DH} {p : Addr} {o : Ob} (s : Sub Hg Hd) (h : Hg p = none) : Sub Hg (upD Hd p o) := fun a u e => by
  have ne : a ≠ p := fun q => by rw [q, h] at e; cases e
  rw [upD_ne ne]
  exact s a u e
theorem Sub.none {Hg Hd : DH} {p : Addr} (s : Sub Hg Hd) (h : Hd p = none) : Hg p = none := by
  cases e : Hg p with
  | none => rfl
  | some o => rw [s p o e] at h; cases h

section
variable {K : PySem.W.Frag} {H H' H1 H2 : Hp} {Hd Hd' Hd1 Hd2 : DH}
theorem Stp.refl : Stp H Hd H Hd := ⟨fun _ _ h _ => h, fun _ h => h, fun _ h => .inl h⟩
theorem Stp.trans (s : Stp H Hd H1 Hd1) (t : Stp H1 Hd1 H2 Hd2) : Stp H Hd H2 Hd2 := by
  refine ⟨fun a o h n => t.frame a o (s.frame a o h n) ?_, fun a h => t.dom a (s.dom a h), fun a h => ?_⟩
  · cases e : Hd1 a with
    | none => rfl
    | some u =>
      rcases s.new a (by rw [e]; exact fun z => nomatch z) with z | z
      · exact absurd n z
      · rw [h] at z; cases z
  · rcases t.new a h with z | z
    · exact s.new a z
    · refine .inr ?_
      cases e : H a with
      | none => rfl
      | some u => exact absurd z (s.dom a (by rw [e]; exact fun q => nomatch q))
theorem Stp.sub {Hg : DH} (s : Stp H Hd H' Hd') (g : Sub Hg Hd') : Stp H Hd H' Hg :=
  ⟨s.frame, s.dom, fun a h => by
    cases e : Hg a with
    | none => exact absurd e h
    | some o => exact s.new a (by rw [g a o e]; exact fun z => nomatch z)⟩
theorem RepH.sub {Hg : DH} (r : RepH K H Hd) (g : Sub Hg Hd) : RepH K H Hg := fun a o h => r a o (g a o h)
theorem RepH.free (r : RepH K H Hd) {a : Addr} (h : H a = none) : Hd a = none := by
  cases e : Hd a with
  | none => rfl
  | some o =>
    cases o with
    | lst ds =>
      obtain ⟨vs, q, _⟩ := r a _ e
      rw [h] at q; cases q
theorem RepH.no (r : RepH K H Hd) {a : Addr} {o : HO} (h : H a = some o) (n : ∀ vs, o ≠ .lst vs) : Hd a = none := by
  cases e : Hd a with
  | none => rfl
  | some u =>
    cases u with
    | lst ds =>
      obtain ⟨vs, q, _⟩ := r a _ e
      rw [h] at q
      exact absurd (Option.some.inj q) (n vs)
theorem Stp.sqT (s : Stp H Hd H' Hd') (r : RepH K H Hd) {a : Addr} {vs : List V} (h : SqT K H a vs) : SqT K H' a vs := by
  rcases h with (h | ⟨o, h⟩) | h
  · exact .inl (.inl (s.frame _ _ h (r.no h fun _ z => nomatch z)))
  · exact .inl (.inr ⟨o, s.frame _ _ h (r.no h fun _ z => nomatch z)⟩)
  · exact .inr h
theorem Stp.fxL (s : Stp H Hd H' Hd') (r : RepH K H Hd) {a : Addr} {vs : List V} (h : FxL K H a vs) : FxL K H' a vs := by
  rcases h with ⟨o, h⟩ | h
  · exact .inl ⟨o, s.frame _ _ h (r.no h fun _ z => nomatch z)⟩
  · exact .inr h
mutual
theorem Stp.rep (s : Stp H Hd H' Hd') (r : RepH K H Hd) : ∀ {d : Dv} {v : V}, Rep K H d v → Rep K H' d v
  | .non, _, h => h
  | .bl _, _, h => h
  | .int _, _, h => h
  | .str _, _, h => h
  | .ref _, _, h => h
  | .ty _, _, h => h
  | .tup _, _, h => by
    obtain ⟨a, vs, e, q, l⟩ := h
    exact ⟨a, vs, e, s.sqT r q, s.repL r l⟩
  | .lsv _, _, h => by
    obtain ⟨a, vs, e, q, l⟩ := h
    exact ⟨a, vs, e, s.fxL r q, s.repL r l⟩
theorem Stp.repL (s : Stp H Hd H' Hd') (r : RepH K H Hd) : ∀ {ds : List Dv} {vs : List V}, RepL K H ds vs → RepL K H' ds vs
  | [], _, h => h
  | _ :: _, _, h => by
    obtain ⟨v, t, e, h1, h2⟩ := h
    exact ⟨v, t, e, s.rep r h1, s.repL r h2⟩
end
theorem Stp.repS (s : Stp H Hd H' Hd') (r : RepH K H Hd) {σd : DS} {σ : St} (h : RepS K H σd σ) : RepS K H' σd σ :=
  ⟨h.1, fun i d e => let ⟨v, a, b⟩ := h.2 i d e; ⟨v, a, s.rep r b⟩⟩
theorem RepS.set {σd : DS} {σ : St} (h : RepS K H σd σ) (i : Nat) {d : Dv} {v : V} (r : Rep K H d v) : RepS K H (σd.set i (some d)) (σ.set i (some v)) := by
  refine ⟨by rw [List.length_set, List.length_set]; exact h.1, fun j e q => ?_⟩
  by_cases hj : i = j
  · subst hj
    by_cases hl : i < σd.length
    · rw [List.getElem?_set_self hl] at q
      cases q
      exact ⟨v, by rw [List.getElem?_set_self (by rw [← h.1]; exact hl)], r⟩
    · rw [List.getElem?_eq_none (by rw [List.length_set]; omega)] at q
      cases q
  · rw [List.getElem?_set_ne hj] at q ⊢
    exact h.2 j e q
theorem RepL.length : ∀ {ds : List Dv} {vs : List V}, RepL K H ds vs → ds.length = vs.length
  | [], _, h => by rw [show _ = _ from h]; rfl
  | _ :: _, _, h => by
    obtain ⟨v, t, e, _, h2⟩ := h
    rw [e, List.length_cons, List.length_cons, h2.length]
theorem RepL.get : ∀ {ds : List Dv} {vs : List V} {i : Nat} {d : Dv}, RepL K H ds vs → ds[i]? = some d → ∃ v, vs[i]? = some v ∧ Rep K H d v
  | [], _, _, _, _, e => by simp at e
  | x :: _, _, 0, d, h, e => by
    obtain ⟨v, t, rfl, h1, _⟩ := h
    have e' : x = d := by simpa using e
    subst e'
    exact ⟨v, rfl, h1⟩
  | _ :: r, _, i + 1, d, h, e => by
    obtain ⟨v, t, rfl, _, h2⟩ := h
    obtain ⟨u, q1, q2⟩ := h2.get (i := i) (d := d) (by simpa using e)
    exact ⟨u, by simpa using q1, q2⟩
theorem RepL.got : ∀ {ds : List Dv} {vs : List V} {i : Nat} {v : V}, RepL K H ds vs → vs[i]? = some v → ∃ d, ds[i]? = some d ∧ Rep K H d v := fun {ds vs i v} h e => by
  have hl := h.length
  obtain ⟨hi, _⟩ := List.getElem?_eq_some_iff.mp e
  have hd : ds[i]? = some ds[i] := List.getElem?_eq_getElem (by omega)
  obtain ⟨u, q1, q2⟩ := h.get hd
  rw [e] at q1
  cases q1
  exact ⟨_, hd, q2⟩
theorem RepL.append : ∀ {ds es : List Dv} {vs us : List V}, RepL K H ds vs → RepL K H es us → RepL K H (ds ++ es) (vs ++ us)
  | [], _, _, _, h, g => by rw [show _ = _ from h]; exact g
  | _ :: _, _, _, _, h, g => by
    obtain ⟨v, t, rfl, h1, h2⟩ := h
    exact ⟨v, _, rfl, h1, h2.append g⟩
theorem RepL.one {d : Dv} {v : V} (h : Rep K H d v) : RepL K H [d] [v] := ⟨v, [], rfl, h, rfl⟩
theorem RepL.take : ∀ {ds : List Dv} {vs : List V} (n : Nat), RepL K H ds vs → RepL K H (ds.take n) (vs.take n)
  | [], _, n, h => by rw [show _ = _ from h, List.take_nil, List.take_nil]; exact rfl
  | _ :: _, _, 0, _ => by rw [List.take_zero, List.take_zero]; exact rfl
  | _ :: _, _, n + 1, h => by
    obtain ⟨v, t, rfl, h1, h2⟩ := h
    exact ⟨v, _, rfl, h1, h2.take n⟩
theorem RepL.drop : ∀ {ds : List Dv} {vs : List V} (n : Nat), RepL K H ds vs → RepL K H (ds.drop n) (vs.drop n)
  | [], _, n, h => by rw [show _ = _ from h, List.drop_nil, List.drop_nil]; exact rfl
  | _ :: _, _, 0, h => h
  | _ :: _, _, n + 1, h => by
    obtain ⟨v, t, rfl, h1, h2⟩ := h
    exact h2.drop n
theorem RepL.set : ∀ {ds : List Dv} {vs : List V} (i : Nat) {d : Dv} {v : V}, RepL K H ds vs → Rep K H d v → RepL K H (ds.set i d) (vs.set i v)
  | [], _, _, _, _, h, _ => by rw [show _ = _ from h]; exact rfl
  | _ :: _, _, 0, _, _, h, g => by
    obtain ⟨v, t, rfl, _, h2⟩ := h
    exact ⟨_, _, rfl, g, h2⟩
  | _ :: _, _, i + 1, _, _, h, g => by
    obtain ⟨v, t, rfl, h1, h2⟩ := h
    exact ⟨_, _, rfl, h1, h2.set i g⟩
theorem RepL.reverse {ds : List Dv} {vs : List V} (h : RepL K H ds vs) : RepL K H ds.reverse vs.reverse := by
  induction ds generalizing vs with
  | nil => rw [show _ = _ from h]; exact rfl
  | cons d ds ih =>
    obtain ⟨v, t, rfl, h1, h2⟩ := h
    rw [List.reverse_cons, List.reverse_cons]
    exact (ih h2).append (.one h1)
theorem RepL.rep {ds : List Dv} {vs : List V} (h : RepL K H ds vs) : ∀ n : Nat, RepL K H (List.replicate n ds).flatten (List.replicate n vs).flatten
  | 0 => rfl
  | n + 1 => by
    rw [List.replicate_succ, List.replicate_succ, List.flatten_cons, List.flatten_cons]
    exact h.append (h.rep n)
theorem RepL.erase : ∀ {ds : List Dv} {vs : List V} (i : Nat), RepL K H ds vs → RepL K H (ds.eraseIdx i) (vs.eraseIdx i)
  | [], _, _, h => by rw [show _ = _ from h]; exact rfl
  | _ :: _, _, 0, h => by
    obtain ⟨v, t, rfl, _, h2⟩ := h
    exact h2
  | _ :: _, _, i + 1, h => by
    obtain ⟨v, t, rfl, h1, h2⟩ := h
    exact ⟨_, _, rfl, h1, h2.erase i⟩
theorem RepL.ints (ns : List Int) : RepL K H (ns.map Dv.int) (ns.map V.int) := by
  induction ns with
  | nil => exact rfl
  | cons n ns ih => exact ⟨_, _, rfl, rfl, ih⟩

/-- a new object is laid -/
theorem Stp.lay {p : Addr} {o : HO} (h : H p = none) : Stp H Hd (upd H p o) Hd :=
  ⟨fun a u e _ => by rw [upd_ne (ne_of_none e h)]; exact e, fun a e => by
    by_cases q : a = p
    · rw [q, upd_same]; exact fun z => nomatch z
    · rw [upd_ne q]; exact e, fun _ e => .inl e⟩
theorem RepO.keep {a : Addr} {o : Ob} (h : RepO K H a o) (s : Stp H Hd H' Hd') (r : RepH K H Hd) (e : H' a = H a) : RepO K H' a o := by
  cases o with
  | lst ds =>
    obtain ⟨vs, q, l⟩ := h
    exact ⟨vs, e.trans q, s.repL r l⟩
theorem RepH.lay {p : Addr} {o : HO} (r : RepH K H Hd) (h : H p = none) : RepH K (upd H p o) Hd := fun a u e => by
  have n : a ≠ p := fun q => by rw [q, r.free h] at e; cases e
  exact (r a u e).keep (Stp.lay h) r (upd_ne n)
/-- a new list -/
theorem Stp.layL {p : Addr} {o : HO} {u : Ob} (h : H p = none) : Stp H Hd (upd H p o) (upD Hd p u) :=
  ⟨(Stp.lay h).frame, (Stp.lay (Hd := Hd) h).dom, fun a e => by
    by_cases q : a = p
    · exact .inr (by rw [q]; exact h)
    · rw [upD_ne q] at e; exact .inl e⟩
theorem RepH.layL {p : Addr} {vs : List V} {ds : List Dv} (r : RepH K H Hd) (h : H p = none) (l : RepL K H ds vs) : RepH K (upd H p (.lst vs)) (upD Hd p (.lst ds)) := fun a u e => by
  by_cases q : a = p
  · subst q
    rw [upD_same] at e
    cases e
    exact ⟨vs, upd_same, (Stp.lay (Hd := Hd) h).repL r l⟩
  · rw [upD_ne q] at e
    exact (r a u e).keep (Stp.lay h) r (upd_ne q)
/-- a list changes -/
theorem Stp.put {p : Addr} {o : HO} {u u' : Ob} (h : Hd p = some u) : Stp H Hd (upd H p o) (upD Hd p u') :=
  ⟨fun a v e n => by
    have q : a ≠ p := fun q => by rw [q, h] at n; cases n
    rw [upd_ne q]; exact e, fun a e => by
    by_cases q : a = p
    · rw [q, upd_same]; exact fun z => nomatch z
    · rw [upd_ne q]; exact e, fun a e => by
    by_cases q : a = p
    · exact .inl (by rw [q, h]; exact fun z => nomatch z)
    · rw [upD_ne q] at e; exact .inl e⟩
theorem RepH.put {p : Addr} {vs : List V} {ds : List Dv} {u : Ob} (r : RepH K H Hd) (h : Hd p = some u) (l : RepL K H ds vs) : RepH K (upd H p (.lst vs)) (upD Hd p (.lst ds)) := fun a w e => by
  have s : Stp H Hd (upd H p (.lst vs)) (upD Hd p (.lst ds)) := Stp.put h
  by_cases q : a = p
  · subst q
    rw [upD_same] at e
    cases e
    exact ⟨vs, upd_same, s.repL r l⟩
  · rw [upD_ne q] at e
    exact (r a w e).keep s r (upd_ne q)
end

/-! ## readings by value -/
abbrev DVK := Dv → DH → Prop
abbrev DTE := DS → DH → DVK → Prop
abbrev DTT := DS → DH → (Bool → DH → Prop) → Prop
abbrev DTA := DS → DH → (List Dv → DH → Prop) → Prop
structure DEnds where
  nx : DS → DH → Prop
  rt : DVK
  bk : DS → DH → Prop := fun _ _ => False
  ct : DS → DH → Prop := fun _ _ => False
abbrev DTS := DEnds → DS → DH → Prop
abbrev DTG := Dv → DS → DH → (DS → DH → Prop) → Prop
/-- what is wanted of a value, below and above -/
def KE (K : PySem.W.Frag) (H : Hp) (Hd : DH) (Qd : DVK) (Q : VK) : Prop := ∀ v H' d Hd', Stp H Hd H' Hd' → RepH K H' Hd' → Rep K H' d v → Qd d Hd' → Q v H'
def KT (K : PySem.W.Frag) (H : Hp) (Hd : DH) (Qd : Bool → DH → Prop) (Q : Bool → Hp → Prop) : Prop := ∀ b H' Hd', Stp H Hd H' Hd' → RepH K H' Hd' → Qd b Hd' → Q b H'
def KA (K : PySem.W.Frag) (H : Hp) (Hd : DH) (Qd : List Dv → DH → Prop) (Q : List V → Hp → Prop) : Prop := ∀ vs H' ds Hd', Stp H Hd H' Hd' → RepH K H' Hd' → RepL K H' ds vs → Qd ds Hd' → Q vs H'
def KS (K : PySem.W.Frag) (H : Hp) (Hd : DH) (Qd : DS → DH → Prop) (Q : St → Hp → Prop) : Prop := ∀ σ' H' σd' Hd', Stp H Hd H' Hd' → RepH K H' Hd' → RepS K H' σd' σ' → Qd σd' Hd' → Q σ' H'
def lE (K : PySem.W.Frag) (t : DTE) : TE := fun σ H Q => ∃ σd Hd Qd, RepS K H σd σ ∧ RepH K H Hd ∧ t σd Hd Qd ∧ KE K H Hd Qd Q
def lT (K : PySem.W.Frag) (t : DTT) : TT := fun σ H Q => ∃ σd Hd Qd, RepS K H σd σ ∧ RepH K H Hd ∧ t σd Hd Qd ∧ KT K H Hd Qd Q
def lA (K : PySem.W.Frag) (t : DTA) : TA := fun σ H Q => ∃ σd Hd Qd, RepS K H σd σ ∧ RepH K H Hd ∧ t σd Hd Qd ∧ KA K H Hd Qd Q
def lS (K : PySem.W.Frag) (t : DTS) : TS := fun D σ H => ∃ σd Hd Dd, RepS K H σd σ ∧ RepH K H Hd ∧ t Dd σd Hd ∧ KS K H Hd Dd.nx D.nx ∧ KE K H Hd Dd.rt D.rt ∧ KS K H Hd Dd.bk D.bk ∧ KS K H Hd Dd.ct D.ct
def lG (K : PySem.W.Frag) (g : DTG) : TG := fun v σ H Q => ∃ d σd Hd Qd, Rep K H d v ∧ RepS K H σd σ ∧ RepH K H Hd ∧ g d σd Hd Qd ∧ KS K H Hd Qd Q
section
variable {K : PySem.W.Frag} {H H' : Hp} {Hd Hd' : DH}
theorem KE.at (s : Stp H Hd H' Hd') {Qd : DVK} {Q : VK} (k : KE K H Hd Qd Q) : KE K H' Hd' Qd Q := fun v H2 d Hd2 t => k v H2 d Hd2 (s.trans t)
theorem KT.at (s : Stp H Hd H' Hd') {Qd : Bool → DH → Prop} {Q : Bool → Hp → Prop} (k : KT K H Hd Qd Q) : KT K H' Hd' Qd Q := fun v H2 Hd2 t => k v H2 Hd2 (s.trans t)
theorem KA.at (s : Stp H Hd H' Hd') {Qd : List Dv → DH → Prop} {Q : List V → Hp → Prop} (k : KA K H Hd Qd Q) : KA K H' Hd' Qd Q := fun v H2 d Hd2 t => k v H2 d Hd2 (s.trans t)
theorem KS.at (s : Stp H Hd H' Hd') {Qd : DS → DH → Prop} {Q : St → Hp → Prop} (k : KS K H Hd Qd Q) : KS K H' Hd' Qd Q := fun v H2 d Hd2 t => k v H2 d Hd2 (s.trans t)
end

section
variable {X : Cx} {e a b : Expr} {es : List Expr} {st : Stmt}
theorem pe_mono {t t' : TE} (h : PE X e t) (i : ∀ σ H Q, t' σ H Q → t σ H Q) : PE X e t' := ⟨fun p s σ H Q I q => h.run p s σ H Q I (i σ H Q q)⟩
theorem pt_mono {t t' : TT} (h : PT X e t) (i : ∀ σ H Q, t' σ H Q → t σ H Q) : PT X e t' := ⟨fun p s σ H Q I q => h.run p s σ H Q I (i σ H Q q)⟩
theorem pw_mono {t t' : TT} (h : PW X e t) (i : ∀ σ H Q, t' σ H Q → t σ H Q) : PW X e t' := ⟨fun w p s σ H Q I q => h.run w p s σ H Q I (i σ H Q q)⟩
theorem pa_mono {t t' : TA} (h : PA X es t) (i : ∀ σ H Q, t' σ H Q → t σ H Q) : PA X es t' := ⟨fun o p s σ H Q I q => h.run o p s σ H Q I (i σ H Q q)⟩
theorem ps_mono {t t' : TS} (h : PS X st t) (i : ∀ D σ H, t' D σ H → t D σ H) : PS X st t' := ⟨fun p s σ H D I q => h.run p s σ H D I (i D σ H q)⟩
theorem pss_mono {sts : List Stmt} {t t' : TS} (h : PSs X sts t) (i : ∀ D σ H, t' D σ H → t D σ H) : PSs X sts t' := ⟨fun p s σ H D I q => h.run p s σ H D I (i D σ H q)⟩
theorem pg_mono {t t' : TG} (h : PG X e t) (i : ∀ v σ H Q, t' v σ H Q → t v σ H Q) : PG X e t' := ⟨fun p s σ H v u Q I r q => h.run p s σ H v u Q I r (i v σ H Q q)⟩
abbrev DE (X : Cx) (e : Expr) (t : DTE) : Prop := PE X e (lE X.K t)
abbrev DT (X : Cx) (e : Expr) (t : DTT) : Prop := PT X e (lT X.K t)
abbrev DW (X : Cx) (e : Expr) (t : DTT) : Prop := PW X e (lT X.K t)
abbrev DA (X : Cx) (es : List Expr) (t : DTA) : Prop := PA X es (lA X.K t)
abbrev DSt (X : Cx) (st : Stmt) (t : DTS) : Prop := PS X st (lS X.K t)
abbrev DSs (X : Cx) (sts : List Stmt) (t : DTS) : Prop := PSs X sts (lS X.K t)
abbrev DG (X : Cx) (e : Expr) (t : DTG) : Prop := PG X e (lG X.K t)

/-! ### names, constants -/
def dVar (i : Nat) : DTE := fun σ H Q => ∃ d, σ[i]? = some (some d) ∧ Q d H
def dC (d : Dv) : DTE := fun _ H Q => Q d H
theorem de_of {t : TE} {td : DTE} (h : PE X e t) (i : ∀ σ H Q σd Hd Qd, RepS X.K H σd σ → RepH X.K H Hd → td σd Hd Qd → KE X.K H Hd Qd Q → t σ H Q) : DE X e td :=
  pe_mono h fun σ H Q ⟨σd, Hd, Qd, rs, rh, q, k⟩ => i σ H Q σd Hd Qd rs rh q k
theorem de_var {i : Nat} (h : PE X e (tVar i)) : DE X e (dVar i) := de_of h fun σ H Q σd Hd Qd rs rh ⟨d, e, q⟩ k =>
by
  obtain ⟨v, e2, r⟩ := rs.2 i d e
  exact ⟨v, e2, k v H d Hd .refl rh r q⟩
theorem de_c {d : Dv} {v : V} (h : PE X e (tC v)) (r : ∀ H, Rep X.K H d v) : DE X e (dC d) := de_of h fun σ H Q σd Hd Qd rs rh q k => k v H d Hd .refl rh (r H) q
theorem de_int {i : Int} (h : PE X e (tC (.int i))) : DE X e (dC (.int i)) := de_c h fun _ => rfl
theorem de_bl {i : Bool} (h : PE X e (tC (.bl i))) : DE X e (dC (.bl i)) := de_c h fun _ => rfl
theorem de_str {i : Str} (h : PE X e (tC (.str i))) : DE X e (dC (.str i)) := de_c h fun _ => rfl
theorem de_non (h : PE X e (tC .non)) : DE X e (dC .non) := de_c h fun _ => rfl
theorem de_ty {n : String} (h : PE X e (tC (.ty n))) : DE X e (dC (.ty n)) := de_c h fun _ => rfl
end
end DL

set_option maxHeartbeats 4000000
namespace DL
open PySem PySem.Spec L2
open PyProof.Rows hiding St

/-! ## expressions -/
section
variable {X : Cx} {e a b c : Expr} {es rest : List Expr} {te ta tb tc : DTE} {t : DTA} {pos : Pos}
theorem dt_of {t : TT} {td : DTT} (h : PT X e t) (i : ∀ σ H Q σd Hd Qd, RepS X.K H σd σ → RepH X.K H Hd → td σd Hd Qd → KT X.K H Hd Qd Q → t σ H Q) : DT X e td :=
  pt_mono h fun σ H Q ⟨σd, Hd, Qd, rs, rh, q, k⟩ => i σ H Q σd Hd Qd rs rh q k
theorem dw_of {t : TT} {td : DTT} (h : PW X e t) (i : ∀ σ H Q σd Hd Qd, RepS X.K H σd σ → RepH X.K H Hd → td σd Hd Qd → KT X.K H Hd Qd Q → t σ H Q) : DW X e td :=
  pw_mono h fun σ H Q ⟨σd, Hd, Qd, rs, rh, q, k⟩ => i σ H Q σd Hd Qd rs rh q k
theorem da_of {t : TA} {td : DTA} (h : PA X es t) (i : ∀ σ H Q σd Hd Qd, RepS X.K H σd σ → RepH X.K H Hd → td σd Hd Qd → KA X.K H Hd Qd Q → t σ H Q) : DA X es td :=
  pa_mono h fun σ H Q ⟨σd, Hd, Qd, rs, rh, q, k⟩ => i σ H Q σd Hd Qd rs rh q k

/-! ### arguments, displays -/
def dNil : DTA := fun _ H Q => Q [] H
def dCons (te : DTE) (t : DTA) : DTA := fun σ H Q => te σ H fun d H1 => t σ H1 fun ds H2 => Q (d :: ds) H2
theorem da_nil : DA X [] dNil := da_of pa_nil fun σ H Q σd Hd Qd rs rh q k => k [] H [] Hd .refl rh rfl q
theorem da_cons (ha : DE X e te) (hr : DA X es t) (hs : starEach (e :: es) X.env = (false, eval e X.env) :: starEach es X.env := by rfl) : DA X (e :: es) (dCons te t) :=
  da_of (pa_cons ha hr hs) fun σ H Q σd Hd Qd rs rh q k => ⟨σd, Hd, _, rs, rh, q, fun v H1 d Hd1 s1 r1 rv q1 =>
    ⟨σd, Hd1, _, s1.repS rh rs, r1, q1, fun vs H2 ds Hd2 s2 r2 rvs q2 => k (v :: vs) H2 (d :: ds) Hd2 (s1.trans s2) r2 ⟨v, vs, rfl, s2.rep r1 rv, rvs⟩ q2⟩⟩
def dTup (t : DTA) : DTE := fun σ H Q => t σ H fun ds H1 => ds.length ≤ sizeLine ∧ Q (.tup ds) H1
def dLst (t : DTA) : DTE := fun σ H Q => t σ H fun ds H1 => ds.length ≤ sizeLine ∧ ∀ p, H1 p = none → Q (.ref p) (upD H1 p (.lst ds))
theorem de_tup {x1} (h : DA X es t) : DE X (.Tuple es x1 pos) (dTup t) :=
  de_of (pe_tup h) fun σ H Q σd Hd Qd rs rh q k => ⟨σd, Hd, _, rs, rh, q, fun vs H1 ds Hd1 s1 r1 rl ⟨z, q1⟩ =>
    ⟨by rw [← rl.length]; exact z, fun p hp => k _ _ (.tup ds) Hd1 (s1.trans (.lay hp)) (r1.lay hp) ⟨p, vs, rfl, .of upd_same, (Stp.lay (Hd := Hd1) hp).repL r1 rl⟩ q1⟩⟩
theorem de_lst (h : DA X es t) : DE X (.List es pos) (dLst t) :=
  de_of (pe_lst h) fun σ H Q σd Hd Qd rs rh q k => ⟨σd, Hd, _, rs, rh, q, fun vs H1 ds Hd1 s1 r1 rl ⟨z, q1⟩ =>
    ⟨by rw [← rl.length]; exact z, fun p hp => k _ _ (.ref p) (upD Hd1 p (.lst ds)) (s1.trans (.layL hp)) (r1.layL hp rl) rfl (q1 p (r1.free hp))⟩⟩

/-! ### operators by values -/
abbrev D2 := Dv → Dv → DH → DVK → Prop
abbrev D1 := Dv → DH → DVK → Prop
/-- the rule below serves the reading above -/
def R2Ok (K : PySem.W.Frag) (r : R2) (f : D2) : Prop := ∀ H Hd x y dx dy Q Qd, RepH K H Hd → Rep K H dx x → Rep K H dy y → f dx dy Hd Qd → KE K H Hd Qd Q → r x y H Q
def R1Ok (K : PySem.W.Frag) (r : V → Hp → VK → Prop) (f : D1) : Prop := ∀ H Hd x dx Q Qd, RepH K H Hd → Rep K H dx x → f dx Hd Qd → KE K H Hd Qd Q → r x H Q
def dOp (f : D2) (ta tb : DTE) : DTE := fun σ H Q => ta σ H fun x H1 => tb σ H1 fun y H2 => f x y H2 Q
def dUn (f : D1) (ta : DTE) : DTE := fun σ H Q => ta σ H fun x H1 => f x H1 Q
theorem op2 {r : R2} {f : D2} (hf : R2Ok X.K r f) {σ : St} {H : Hp} {Q : VK} (h : lE X.K (dOp f ta tb) σ H Q) : tOp r (lE X.K ta) (lE X.K tb) σ H Q := by
  obtain ⟨σd, Hd, Qd, rs, rh, q, k⟩ := h
  exact ⟨σd, Hd, _, rs, rh, q, fun v H1 d Hd1 s1 r1 rv q1 => ⟨σd, Hd1, _, s1.repS rh rs, r1, q1, fun u H2 d2 Hd2 s2 r2 ru q2 => hf H2 Hd2 v u d d2 Q Qd r2 (s2.rep r1 rv) ru q2 (k.at (s1.trans s2))⟩⟩
theorem de_op {op : Operator} {r : R2} {f : D2} (ho : OpR X (binaryOp op) r) (hf : R2Ok X.K r f) (ha : DE X a ta) (hb : DE X b tb) : DE X (.BinOp a op b pos) (dOp f ta tb) :=
  pe_mono (pe_op ho ha hb) fun _ _ _ h => op2 hf h
theorem de_un {op : UnaryOp} {r : V → Hp → VK → Prop} {f : D1} (ho : UnR X (unaryOp op) r) (hf : R1Ok X.K r f) (ha : DE X a ta) : DE X (.UnaryOp op a pos) (dUn f ta) :=
  de_of (pe_un ho ha) fun σ H Q σd Hd Qd rs rh q k => ⟨σd, Hd, _, rs, rh, q, fun v H1 d Hd1 s1 r1 rv q1 => hf H1 Hd1 v d Q Qd r1 rv q1 (k.at s1)⟩
theorem R2Ok.or {K : PySem.W.Frag} {r r' : R2} {f g : D2} (h : R2Ok K r f) (h' : R2Ok K r' g) : R2Ok K (fun x y H Q => r x y H Q ∨ r' x y H Q) (fun x y H Q => f x y H Q ∨ g x y H Q) :=
  fun H Hd x y dx dy Q Qd rh rx ry q k => q.elim (fun q => .inl (h H Hd x y dx dy Q Qd rh rx ry q k)) fun q => .inr (h' H Hd x y dx dy Q Qd rh rx ry q k)
theorem R2Ok.imp {K : PySem.W.Frag} {r : R2} {f g : D2} (h : R2Ok K r f) (i : ∀ x y H Q, g x y H Q → f x y H Q) : R2Ok K r g :=
  fun H Hd x y dx dy Q Qd rh rx ry q k => h H Hd x y dx dy Q Qd rh rx ry (i _ _ _ _ q) k

/-! ints -/
def dI2 (C : Int → Int → Prop) (g : Int → Int → Dv) : D2 := fun x y H Q => match x, y with
  | .int i, .int j => C i j ∧ Q (g i j) H
  | _, _ => False
def dI20 (g : Int → Int → Dv) : D2 := fun x y H Q => match x, y with
  | .int i, .int j => Q (g i j) H
  | _, _ => False
theorem i2 {K : PySem.W.Frag} {C : Int → Int → Prop} {g : Int → Int → V} {gd : Int → Int → Dv} (hg : ∀ H i j, Rep K H (gd i j) (g i j)) : R2Ok K (rI C g) (dI2 C gd) := by
  intro H Hd x y dx dy Q Qd rh rx ry q k
  unfold dI2 at q
  split at q
  · exact ⟨_, _, rx, ry, q.1, k _ H _ Hd .refl rh (hg H _ _) q.2⟩
  · exact q.elim
theorem i20 {K : PySem.W.Frag} {g : Int → Int → V} {gd : Int → Int → Dv} (hg : ∀ H i j, Rep K H (gd i j) (g i j)) : R2Ok K (rI0 g) (dI20 gd) := by
  intro H Hd x y dx dy Q Qd rh rx ry q k
  unfold dI20 at q
  split at q
  · exact ⟨_, _, rx, ry, k _ H _ Hd .refl rh (hg H _ _) q⟩
  · exact q.elim
abbrev fSubI : D2 := dI20 fun i j => .int (i - j)
abbrev fFdiv : D2 := dI2 CDivW fun i j => .int (i / j)
abbrev fMod : D2 := dI2 (fun _ j => 0 < j) fun i j => .int (i % j)
abbrev fPow : D2 := dI2 CPow fun i j => .int (i ^ j.toNat)
theorem de_sub (ha : DE X a ta) (hb : DE X b tb) : DE X (.BinOp a .Sub b pos) (dOp fSubI ta tb) := de_op op_sub (i20 fun _ _ _ => rfl) ha hb
theorem de_fdiv (ha : DE X a ta) (hb : DE X b tb) : DE X (.BinOp a .FloorDiv b pos) (dOp fFdiv ta tb) := de_op op_fdivW (i2 fun _ _ _ => rfl) ha hb
theorem de_mod (ha : DE X a ta) (hb : DE X b tb) : DE X (.BinOp a .Mod b pos) (dOp fMod ta tb) := de_op op_mod (i2 fun _ _ _ => rfl) ha hb
theorem de_pow (ha : DE X a ta) (hb : DE X b tb) : DE X (.BinOp a .Pow b pos) (dOp fPow ta tb) := de_op op_pow (i2 fun _ _ _ => rfl) ha hb
/-- -x -/
def fNeg : D1 := fun x H Q => match x with
  | .int i => Q (.int (-i)) H
  | _ => False
theorem de_neg (ha : DE X a ta) : DE X (.UnaryOp .USub a pos) (dUn fNeg ta) := de_un un_neg (by
  intro H Hd x dx Q Qd rh rx q k
  unfold fNeg at q
  split at q
  · exact ⟨_, rx, k _ H (.int _) Hd .refl rh rfl q⟩
  · exact q.elim) ha
/-! + -/
def fAdd : D2 := fun x y H Q => match x, y with
  | .int i, .int j => Q (.int (i + j)) H
  | .tup xs, .tup ys => xs.length + ys.length ≤ sizeLine ∧ Q (.tup (xs ++ ys)) H
  | .str i, .str j => i.length + j.length ≤ sizeLine ∧ Q (.str (i ++ j)) H
  | .ref p, .ref q => ∃ xs ys, H p = some (.lst xs) ∧ H q = some (.lst ys) ∧ xs.length + ys.length ≤ sizeLine ∧ ∀ r, H r = none → Q (.ref r) (upD H r (.lst (xs ++ ys)))
  | _, _ => False
abbrev rAddAll (K : PySem.W.Frag) : R2 := fun x y H Q => rI0 (fun i j => .int (i + j)) x y H Q ∨ rCatA K x y H Q ∨ (∃ i j, x = .str i ∧ y = .str j ∧ i.length + j.length ≤ sizeLine ∧ Q (.str (i ++ j)) H) ∨ rCat x y H Q
theorem op_addAll : OpR X (binaryOp .Add) (rAddAll X.K) := OpR.or op_add (OpR.or op_catA (OpR.or op_add_str op_cat))
theorem de_add (ha : DE X a ta) (hb : DE X b tb) : DE X (.BinOp a .Add b pos) (dOp fAdd ta tb) := de_op op_addAll (by
  intro H Hd x y dx dy Q Qd rh rx ry q k
  unfold fAdd at q
  split at q
  · exact .inl ⟨_, _, rx, ry, k _ H (.int _) Hd .refl rh rfl q⟩
  · rename_i xs ys
    obtain ⟨p, vs, rfl, hx, lx⟩ := rx
    obtain ⟨p', us, rfl, hy, ly⟩ := ry
    refine .inr (.inl ⟨p, p', vs, us, rfl, rfl, hx, hy, by rw [← lx.length, ← ly.length]; exact q.1, fun e => ?_, fun _ e => ?_, fun _ _ r hr => ?_⟩)
    · subst e
      have e' : xs = [] := List.eq_nil_of_length_eq_zero lx.length
      subst e'
      exact k _ H (.tup ys) Hd .refl rh ⟨p', us, rfl, hy, ly⟩ q.2
    · subst e
      have e' : ys = [] := List.eq_nil_of_length_eq_zero ly.length
      subst e'
      exact k _ H (.tup (xs ++ [])) Hd .refl rh ⟨p, vs, rfl, hx, by rw [List.append_nil]; exact lx⟩ q.2
    · exact k _ _ (.tup (xs ++ ys)) Hd (.lay hr) (rh.lay hr) ⟨r, _, rfl, .of upd_same, (Stp.lay (Hd := Hd) hr).repL rh (lx.append ly)⟩ q.2
  · exact .inr (.inr (.inl ⟨_, _, rx, ry, q.1, k _ H (.str _) Hd .refl rh rfl q.2⟩))
  · obtain ⟨xs, ys, h1, h2, hz, q⟩ := q
    obtain ⟨vs, e1, l1⟩ := rh _ _ h1
    obtain ⟨us, e2, l2⟩ := rh _ _ h2
    refine .inr (.inr (.inr ⟨_, _, vs, us, rx, ry, e1, e2, by rw [← l1.length, ← l2.length]; exact hz, fun r hr => ?_⟩))
    exact k _ _ (.ref r) (upD Hd r (.lst (xs ++ ys))) (.layL hr) (rh.layL hr (l1.append l2)) rfl (q r (rh.free hr))
  · exact q.elim) ha hb
end
end DL

set_option maxHeartbeats 4000000
namespace DL
open PySem PySem.Spec L2
open PyProof.Rows hiding St
/-! ## * : ints, a tuple so many times, a list so many times -/
def rTimesT (K : PySem.W.Frag) : R2 := fun x y H Q => ∃ l k xs, x = .ref l ∧ y = .int k ∧ SqT K H l xs ∧ xs ≠ [] ∧ 2 ≤ k ∧ xs.length * k.toNat ≤ sizeLine ∧ ∀ p, H p = none → Q (.ref p) (upd H p (.tup (List.replicate k.toNat xs).flatten))
theorem times_len {α : Type} (its : List α) (n : Nat) : (List.replicate n its).flatten.length = its.length * n := by
  rw [PyProof.Rows.lm_len_rep_flat, Nat.mul_comm]
theorem op_timesT {X : Cx} : OpR X (binaryOp .Mult) (rTimesT X.K) := by
  intro pins s σ H x y v u Q I rx ry h
  obtain ⟨l, k, xs, rfl, rfl, hT, hne, h1, hz, q⟩ := h
  cases rx
  obtain ⟨t, rfl⟩ := ry
  obtain ⟨its, r, ⟨⟨cls, dd, data, sl⟩, ho, hc, n, hd⟩, _⟩ := I.tuple hT
  simp only at hc hd
  subst hc hd
  have len : its.length = xs.length := r.length.symm
  have pos : 0 < its.length := by
    rw [len]
    exact List.length_pos_iff.mpr hne
  have emp : its.toArray.isEmpty = false := by
    cases its with
    | nil => exact absurd pos (by decide)
    | cons a b => rfl
  have line : (sizeLine : Nat) = 16777216 := sizeLine_eq
  have kk : ((k.toNat : Nat) : Int) = k := Int.toNat_of_nonneg (by omega)
  have room : its.length * k.toNat ≤ sizeLine := by rw [len]; exact hz
  have big : k.toNat ≤ its.length * k.toNat := Nat.le_mul_of_pos_left _ pos
  have prod : ((its.toArray.size : Nat) : Int) * k = ((its.length * k.toNat : Nat) : Int) := by
    rw [List.size_toArray, Int.natCast_mul, kk]
  have c0 : (decide (k < -(2 ^ 63)) || decide (k ≥ 2 ^ 63)) = false := by
    have z1 : ¬ k < -(2 ^ 63) := by omega
    have z2 : ¬ k ≥ 2 ^ 63 := by omega
    rw [decide_eq_false z1, decide_eq_false z2]; rfl
  have c1 : (its.toArray.isEmpty || k == 1) = false := by
    have z : (k == 1) = false := beq_eq_false_iff_ne.mpr (by omega)
    rw [emp, z]; rfl
  have c2 : (decide (k ≤ 0) || its.toArray.isEmpty) = false := by
    have z : ¬ k ≤ 0 := by omega
    rw [emp, decide_eq_false z]; rfl
  have c4 : Builtin.Tuple.tupleTooMany (((its.toArray.size : Nat) : Int) * k) = false := by
    unfold Builtin.Tuple.tupleTooMany
    rw [prod]
    exact decide_eq_false (by omega)
  have flat : (List.replicate k.toNat its).flatten.length ≤ sizeLine := by rw [times_len]; exact room
  have go := tuple_mulW l its.toArray n dd sl k t c0 c1 c2 (by rw [prod]; omega) c4 (by rw [size_rep, List.size_toArray]; exact flat)
  refine wpAny_binaryOp_repeat_ref (T := "tuple") (U := "int") (by decide) ⟨_, ho, rfl⟩ (fun s' => typeIs_int s' k t) noFill_tuple_mul F.fills_int_mul F.slot_int_rmul
    repeat_tuple F.slot_int_index.lookup ?_
  refine call_meets F.slot_int_rmul (typeIs_int s k t) F.entry_int_rmul (F.args_int_rmul_2 _ _) (int_rmul_tuple k t l its.toArray n dd sl) ⟨ho, rfl, ⟨_, ho, rfl⟩, ?_⟩
  refine call_meets F.slot_tuple_mul ⟨_, ho, rfl⟩ F.entry_tuple_mul (F.args_tuple_mul_2 _ _) go ⟨ho, ?_⟩
  rw [size_rep]
  have fresh := I.hok.fresh (Nat.le_refl s.heap.objs.size)
  have laid := I.laid (t' := s.toks) (a := s.heap.objs.size) (o := .tup (List.replicate k.toNat xs).flatten) (fun b ob e => Heap.get?_push_of_some _ e) (Nat.le_refl _)
    ⟨by rw [times_len]; exact hz, _, r.rep k.toNat, IsTup.new _ _⟩
  exact ⟨.ref s.heap.objs.size, _, laid, rfl, q _ fresh⟩
def fMul : D2 := fun x y H Q => match x, y with
  | .int i, .int j => CMulW i j ∧ Q (.int (i * j)) H
  | .tup xs, .int k => xs ≠ [] ∧ 2 ≤ k ∧ xs.length * k.toNat ≤ sizeLine ∧ Q (.tup (List.replicate k.toNat xs).flatten) H
  | .ref p, .int k => ∃ xs, H p = some (.lst xs) ∧ -(2 ^ 63) ≤ k ∧ k < 2 ^ 63 ∧ xs.length * k.toNat ≤ sizeLine ∧ ∀ r, H r = none → Q (.ref r) (upD H r (.lst (List.replicate k.toNat xs).flatten))
  | _, _ => False
section
variable {X : Cx} {a b : Expr} {ta tb : DTE} {pos : Pos}
theorem de_mul (ha : DE X a ta) (hb : DE X b tb) : DE X (.BinOp a .Mult b pos) (dOp fMul ta tb) := de_op (OpR.or op_mulW (OpR.or op_timesT op_rep)) (by
  intro H Hd x y dx dy Q Qd rh rx ry q k
  unfold fMul at q
  split at q
  · exact .inl ⟨_, _, rx, ry, q.1, k _ H (.int _) Hd .refl rh rfl q.2⟩
  · rename_i xs n
    obtain ⟨p, vs, rfl, hx, lx⟩ := rx
    obtain ⟨q1, q2, q3, q4⟩ := q
    refine .inr (.inl ⟨p, n, vs, rfl, ry, hx, fun e => q1 (List.eq_nil_of_length_eq_zero (by rw [lx.length, e]; rfl)), q2, by rw [← lx.length]; exact q3, fun r hr => ?_⟩)
    exact k _ _ (.tup _) Hd (.lay hr) (rh.lay hr) ⟨r, _, rfl, .of upd_same, (Stp.lay (Hd := Hd) hr).repL rh (lx.rep n.toNat)⟩ q4
  · rename_i p n
    obtain ⟨xs, h1, q1, q2, q3, q4⟩ := q
    obtain ⟨vs, e1, l1⟩ := rh _ _ h1
    refine .inr (.inr ⟨p, n, vs, rx, ry, e1, q1, q2, by rw [← l1.length]; exact q3, fun r hr => ?_⟩)
    exact k _ _ (.ref r) (upD Hd r (.lst _)) (.layL hr) (rh.layL hr (l1.rep n.toNat)) rfl (q4 r (rh.free hr))
  · exact q.elim) ha hb
end
end DL

set_option maxHeartbeats 4000000
namespace DL
open PySem PySem.Spec L2
open PyProof.Rows hiding St
/-! ## == of data -/
mutual
def eqv : Dv → Dv → Bool
  | .non, y => match y with | .non => true | _ => false
  | .bl a, y => match y with | .bl b => a == b | .int j => (if a then 1 else 0) == j | _ => false
  | .int i, y => match y with | .int j => i == j | .bl b => i == (if b then 1 else 0) | _ => false
  | .str a, y => match y with | .str b => a == b | _ => false
  | .tup xs, y => match y with | .tup ys => eqvL xs ys | _ => false
  | .lsv xs, y => match y with | .lsv ys => eqvL xs ys | _ => false
  | .ref _, _ => false
  | .ty _, _ => false
def eqvL : List Dv → List Dv → Bool
  | [], ys => match ys with | [] => true | _ => false
  | x :: xs, ys => match ys with | y :: ys => eqv x y && eqvL xs ys | _ => false
end
/-- no address within reach -/
def okS : Dv → Bool
  | .ref _ => false
  | .ty _ => false
  | _ => true
/-- these two may be compared, at most n deep -/
def eqOk : Nat → Dv → Dv → Bool
  | 0, x, y => match x, y with
    | .tup _, .tup _ => false
    | .lsv _, .lsv _ => false
    | _, _ => okS x && okS y
  | n + 1, x, y => match x, y with
    | .tup xs, .tup ys => (xs.zip ys).all fun p => eqOk n p.1 p.2
    | .lsv xs, .lsv ys => (xs.length != ys.length) || (xs.zip ys).all fun p => eqOk n p.1 p.2
    | _, _ => okS x && okS y
theorem eqOk_scal {n : Nat} {x y : Dv} (h : eqOk n x y = true) : okS x = true ∧ okS y = true := by
  have two : ∀ {a b : Bool}, (a && b) = true → a = true ∧ b = true := fun {a b} h => by rw [Bool.and_eq_true] at h; exact h
  cases n with
  | zero => cases x <;> cases y <;> first | exact two h | cases h
  | succ n => cases x <;> cases y <;> first | exact ⟨rfl, rfl⟩ | exact two h
/-- the j-th items are equal -/
def pairV (xs ys : List Dv) (j : Nat) : Bool := match xs[j]?, ys[j]? with
  | some a, some b => eqv a b
  | _, _ => true
theorem eqvL_range : ∀ xs ys : List Dv, ((List.range (min xs.length ys.length)).all (pairV xs ys) && xs.length == ys.length) = eqvL xs ys
  | [], [] => rfl
  | [], _ :: _ => by simp [eqvL]
  | _ :: _, [] => by simp [eqvL]
  | x :: xs, y :: ys => by
    have ih := eqvL_range xs ys
    have e : min (x :: xs).length (y :: ys).length = min xs.length ys.length + 1 := by
      rw [List.length_cons, List.length_cons]
      omega
    rw [e, List.range_succ_eq_map, List.all_cons, List.all_map]
    show (eqv x y && _ && _) = (eqv x y && eqvL xs ys)
    rw [← ih, Bool.and_assoc]
    congr 1
    congr 1
    simp
theorem eqvL_len : ∀ {xs ys : List Dv}, eqvL xs ys = true → xs.length = ys.length
  | [], [], _ => rfl
  | [], _ :: _, h => by cases h
  | _ :: _, [], h => by cases h
  | x :: xs, y :: ys, h => by
    have h' : (eqv x y && eqvL xs ys) = true := h
    rw [Bool.and_eq_true] at h'
    rw [List.length_cons, List.length_cons, eqvL_len h'.2]
section
variable {X : Cx} {pins : List (Addr × Obj)} {σ : St} {H : Hp} {s : Shared}
/-- both comparisons and the one within in, list.index .. -/
structure Cmp (A : Around) (s : Shared) (u v : Value) (b : Bool) : Prop where
  eq : SeqAt.EqAt A s u v b
  rc : SeqAt.RcAt A s u v b
  ne : SeqAt.RcNeAt A s u v (!b)
theorem rep_eqv {K : PySem.W.Frag} (inj : ∀ {a : Addr} {xs ys : List V}, SqT K H a xs → SqT K H a ys → xs = ys) (inj' : ∀ {a : Addr} {xs ys : List V}, FxL K H a xs → FxL K H a ys → xs = ys)
    (mix : ∀ {a : Addr} {xs ys : List V}, SqT K H a xs → FxL K H a ys → False) : ∀ (n : Nat) (x y : Dv) (v : V), eqOk n x y = true → Rep K H x v → Rep K H y v → eqv x y = true := by
  have scal : ∀ (x y : Dv) (v : V), okS x = true → okS y = true → (∀ xs ys, x = .tup xs → y = .tup ys → False) → (∀ xs ys, x = .lsv xs → y = .lsv ys → False) → Rep K H x v → Rep K H y v → eqv x y = true := by
    intro x y v ox oy nt nl hx hy
    cases x with
    | tup xs =>
      obtain ⟨a, vs, rfl, q, l⟩ := hx
      cases y with
      | tup ys => exact (nt _ _ rfl rfl).elim
      | lsv ys => obtain ⟨b, us, e, q', _⟩ := hy; cases e; exact (mix q q').elim
      | ref b => cases oy
      | _ => cases (show V.ref a = _ from hy)
    | lsv xs =>
      obtain ⟨a, vs, rfl, q, l⟩ := hx
      cases y with
      | lsv ys => exact (nl _ _ rfl rfl).elim
      | tup ys => obtain ⟨b, us, e, q', _⟩ := hy; cases e; exact (mix q' q).elim
      | ref b => cases oy
      | _ => cases (show V.ref a = _ from hy)
    | non => cases (show v = _ from hx); cases y <;> first | rfl | (obtain ⟨_, _, e, _⟩ := hy; cases e) | cases (show V.non = _ from hy)
    | bl b => cases (show v = _ from hx); cases y <;> first | (cases (show V.bl b = _ from hy); exact beq_self_eq_true b) | (obtain ⟨_, _, e, _⟩ := hy; cases e) | cases (show V.bl b = _ from hy)
    | int b => cases (show v = _ from hx); cases y <;> first | (cases (show V.int b = _ from hy); exact beq_self_eq_true b) | (obtain ⟨_, _, e, _⟩ := hy; cases e) | cases (show V.int b = _ from hy)
    | str b => cases (show v = _ from hx); cases y <;> first | (cases (show V.str b = _ from hy); exact beq_self_eq_true b) | (obtain ⟨_, _, e, _⟩ := hy; cases e) | cases (show V.str b = _ from hy)
    | _ => cases ox
  have all : ∀ (n : Nat), (∀ (x y : Dv) (v : V), eqOk n x y = true → Rep K H x v → Rep K H y v → eqv x y = true) →
      ∀ (xs ys : List Dv) (vs : List V), ((xs.zip ys).all fun p => eqOk n p.1 p.2) = true → RepL K H xs vs → RepL K H ys vs → eqvL xs ys = true := by
    intro n ih xs
    induction xs with
    | nil =>
      intro ys vs _ hx hy
      have e : vs = [] := hx
      subst e
      have : ys = [] := List.eq_nil_of_length_eq_zero hy.length
      subst this
      rfl
    | cons x xs ihx =>
      intro ys vs hk hx hy
      obtain ⟨v, t, rfl, h1, h2⟩ := hx
      cases ys with
      | nil => cases (show v :: t = [] from hy)
      | cons y ys =>
        obtain ⟨v', t', e, g1, g2⟩ := hy
        cases e
        rw [List.zip_cons_cons, List.all_cons, Bool.and_eq_true] at hk
        show (eqv x y && eqvL xs ys) = true
        rw [ih x y v hk.1 h1 g1, ihx ys t hk.2 h2 g2]; rfl
  intro n
  induction n with
  | zero =>
    intro x y v hk hx hy
    exact scal x y v (eqOk_scal hk).1 (eqOk_scal hk).2 (fun xs ys e1 e2 => by subst e1 e2; cases hk) (fun xs ys e1 e2 => by subst e1 e2; cases hk) hx hy
  | succ n ih =>
    intro x y v hk hx hy
    by_cases ht : ∃ xs ys, x = .tup xs ∧ y = .tup ys
    · obtain ⟨xs, ys, rfl, rfl⟩ := ht
      obtain ⟨a, vs, rfl, q, l⟩ := hx
      obtain ⟨a', us, e, q', l'⟩ := hy
      cases e
      have := inj q q'
      subst this
      exact all n ih xs ys vs hk l l'
    · by_cases hl : ∃ xs ys, x = .lsv xs ∧ y = .lsv ys
      · obtain ⟨xs, ys, rfl, rfl⟩ := hl
        obtain ⟨a, vs, rfl, q, l⟩ := hx
        obtain ⟨a', us, e, q', l'⟩ := hy
        cases e
        have := inj' q q'
        subst this
        have hk' : ((xs.length != ys.length) || (xs.zip ys).all fun p => eqOk n p.1 p.2) = true := hk
        rw [l.length, l'.length, bne_self_eq_false, Bool.false_or] at hk'
        exact all n ih xs ys vs hk' l l'
      · exact scal x y v (eqOk_scal hk).1 (eqOk_scal hk).2 (fun xs ys e1 e2 => ht ⟨xs, ys, e1, e2⟩) (fun xs ys e1 e2 => hl ⟨xs, ys, e1, e2⟩) hx hy
theorem cmp_scal (I : Inv X pins σ H s) {A : Around} {x y : Dv} {v w : V} {u z : Value} (hx : okS x = true) (hy : okS y = true) (ht : ∀ xs ys, x = .tup xs → y = .tup ys → False) (hl : ∀ xs ys, x = .lsv xs → y = .lsv ys → False)
    (rx : Rep X.K H x v) (ry : Rep X.K H y w) (ru : RelV v u) (rz : RelV w z) (hu : A.units < cLine) : Cmp A s u z (eqv x y) := by
  have tup : ∀ {xs : List Dv} {v : V} {u : Value}, Rep X.K H (.tup xs) v → RelV v u → ∃ a its, u = .ref a ∧ s.heap.IsTuple a its := fun {xs v u} r q => by
    obtain ⟨a, vs, rfl, h, _⟩ := r
    obtain ⟨its, _, p, _⟩ := I.tuple h
    exact ⟨a, _, q, p⟩
  have lst : ∀ {xs : List Dv} {v : V} {u : Value}, Rep X.K H (.lsv xs) v → RelV v u → ∃ a its, u = .ref a ∧ s.heap.IsList a its := fun {xs v u} r q => by
    obtain ⟨a, vs, rfl, h, _⟩ := r
    obtain ⟨its, _, p, _⟩ := I.list h.sq
    exact ⟨a, _, q, p.isList⟩
  cases x with
  | non =>
    cases (show v = .non from rx)
    cases ru
    cases y with
    | non => cases (show w = .non from ry); cases rz; exact ⟨SeqAt.EqAt.same _, SeqAt.RcAt.none_none, SeqAt.RcNeAt.none_none⟩
    | bl b => cases (show w = .bl b from ry); cases rz; exact ⟨SeqAt.EqAt.none_bool _, SeqAt.RcAt.none_bool _, SeqAt.RcNeAt.none_bool _⟩
    | int b => cases (show w = .int b from ry); obtain ⟨t, rfl⟩ := rz; exact ⟨SeqAt.EqAt.none_int _ _, SeqAt.RcAt.none_int _ _, SeqAt.RcNeAt.none_int _ _⟩
    | str b => cases (show w = .str b from ry); obtain ⟨t, rfl⟩ := rz; exact ⟨SeqAt.EqAt.none_str _ _, SeqAt.RcAt.none_str _ _, SeqAt.RcNeAt.none_str _ _⟩
    | tup ys => obtain ⟨b, its', rfl, p'⟩ := tup ry rz; exact ⟨SeqAt.EqAt.none_tuple p' hu, SeqAt.RcAt.none_tuple p' hu, SeqAt.RcNeAt.none_tuple p' hu⟩
    | lsv ys => obtain ⟨b, its', rfl, p'⟩ := lst ry rz; exact ⟨SeqAt.EqAt.none_list p' hu, SeqAt.RcAt.none_list p' hu, SeqAt.RcNeAt.none_list p' hu⟩
    | _ => cases hy
  | bl c =>
    cases (show v = .bl c from rx)
    cases ru
    cases y with
    | non => cases (show w = .non from ry); cases rz; exact ⟨SeqAt.EqAt.bool_none _, SeqAt.RcAt.bool_none _, SeqAt.RcNeAt.bool_none _⟩
    | bl b => cases (show w = .bl b from ry); cases rz; exact ⟨SeqAt.EqAt.bool_bool _ _, SeqAt.RcAt.bool_bool _ _, SeqAt.RcNeAt.bool_bool _ _⟩
    | int b => cases (show w = .int b from ry); obtain ⟨t, rfl⟩ := rz; exact ⟨SeqAt.EqAt.bool_int _ _ _, SeqAt.RcAt.bool_int _ _ _, SeqAt.RcNeAt.bool_int _ _ _⟩
    | str b => cases (show w = .str b from ry); obtain ⟨t, rfl⟩ := rz; exact ⟨SeqAt.EqAt.bool_str _ _ _, SeqAt.RcAt.bool_str _ _ _, SeqAt.RcNeAt.bool_str _ _ _⟩
    | tup ys => obtain ⟨b, its', rfl, p'⟩ := tup ry rz; exact ⟨SeqAt.EqAt.bool_tuple _ p' hu, SeqAt.RcAt.bool_tuple _ p' hu, SeqAt.RcNeAt.bool_tuple _ p' hu⟩
    | lsv ys => obtain ⟨b, its', rfl, p'⟩ := lst ry rz; exact ⟨SeqAt.EqAt.bool_list _ p' hu, SeqAt.RcAt.bool_list _ p' hu, SeqAt.RcNeAt.bool_list _ p' hu⟩
    | _ => cases hy
  | int c =>
    cases (show v = .int c from rx)
    obtain ⟨t0, rfl⟩ := ru
    cases y with
    | non => cases (show w = .non from ry); cases rz; exact ⟨SeqAt.EqAt.int_none _ _, SeqAt.RcAt.int_none _ _, SeqAt.RcNeAt.int_none _ _⟩
    | bl b => cases (show w = .bl b from ry); cases rz; exact ⟨SeqAt.EqAt.int_bool _ _ _, SeqAt.RcAt.int_bool _ _ _, SeqAt.RcNeAt.int_bool _ _ _⟩
    | int b => cases (show w = .int b from ry); obtain ⟨t, rfl⟩ := rz; exact ⟨SeqAt.EqAt.int_int _ _ _ _, SeqAt.RcAt.int_int _ _ _ _, SeqAt.RcNeAt.int_int _ _ _ _⟩
    | str b => cases (show w = .str b from ry); obtain ⟨t, rfl⟩ := rz; exact ⟨SeqAt.EqAt.int_str _ _ _ _, SeqAt.RcAt.int_str _ _ _ _, SeqAt.RcNeAt.int_str _ _ _ _⟩
    | tup ys => obtain ⟨b, its', rfl, p'⟩ := tup ry rz; exact ⟨SeqAt.EqAt.int_tuple _ _ p' hu, SeqAt.RcAt.int_tuple _ _ p' hu, SeqAt.RcNeAt.int_tuple _ _ p' hu⟩
    | lsv ys => obtain ⟨b, its', rfl, p'⟩ := lst ry rz; exact ⟨SeqAt.EqAt.int_list _ _ p' hu, SeqAt.RcAt.int_list _ _ p' hu, SeqAt.RcNeAt.int_list _ _ p' hu⟩
    | _ => cases hy
  | str c =>
    cases (show v = .str c from rx)
    obtain ⟨t0, rfl⟩ := ru
    cases y with
    | non => cases (show w = .non from ry); cases rz; exact ⟨SeqAt.EqAt.str_none _ _, SeqAt.RcAt.str_none _ _, SeqAt.RcNeAt.str_none _ _⟩
    | bl b => cases (show w = .bl b from ry); cases rz; exact ⟨SeqAt.EqAt.str_bool _ _ _, SeqAt.RcAt.str_bool _ _ _, SeqAt.RcNeAt.str_bool _ _ _⟩
    | int b => cases (show w = .int b from ry); obtain ⟨t, rfl⟩ := rz; exact ⟨SeqAt.EqAt.str_int _ _ _ _, SeqAt.RcAt.str_int _ _ _ _, SeqAt.RcNeAt.str_int _ _ _ _⟩
    | str b => cases (show w = .str b from ry); obtain ⟨t, rfl⟩ := rz; exact ⟨SeqAt.EqAt.str_str _ _ _ _, SeqAt.RcAt.str_str _ _ _ _, SeqAt.RcNeAt.str_str _ _ _ _⟩
    | tup ys => obtain ⟨b, its', rfl, p'⟩ := tup ry rz; exact ⟨SeqAt.EqAt.str_tuple _ _ p' hu, SeqAt.RcAt.str_tuple _ _ p' hu, SeqAt.RcNeAt.str_tuple _ _ p' hu⟩
    | lsv ys => obtain ⟨b, its', rfl, p'⟩ := lst ry rz; exact ⟨SeqAt.EqAt.str_list _ _ p' hu, SeqAt.RcAt.str_list _ _ p' hu, SeqAt.RcNeAt.str_list _ _ p' hu⟩
    | _ => cases hy
  | tup xs =>
    obtain ⟨a, its, rfl, p⟩ := tup rx ru
    cases y with
    | non => cases (show w = .non from ry); cases rz; exact ⟨SeqAt.EqAt.tuple_none p hu, SeqAt.RcAt.tuple_none p hu, SeqAt.RcNeAt.tuple_none p hu⟩
    | bl b => cases (show w = .bl b from ry); cases rz; exact ⟨SeqAt.EqAt.tuple_bool _ p hu, SeqAt.RcAt.tuple_bool _ p hu, SeqAt.RcNeAt.tuple_bool _ p hu⟩
    | int b => cases (show w = .int b from ry); obtain ⟨t, rfl⟩ := rz; exact ⟨SeqAt.EqAt.tuple_int _ _ p hu, SeqAt.RcAt.tuple_int _ _ p hu, SeqAt.RcNeAt.tuple_int _ _ p hu⟩
    | str b => cases (show w = .str b from ry); obtain ⟨t, rfl⟩ := rz; exact ⟨SeqAt.EqAt.tuple_str _ _ p hu, SeqAt.RcAt.tuple_str _ _ p hu, SeqAt.RcNeAt.tuple_str _ _ p hu⟩
    | tup ys => exact (ht _ _ rfl rfl).elim
    | lsv ys => obtain ⟨b, its', rfl, p'⟩ := lst ry rz; exact ⟨SeqAt.EqAt.tuple_list p p' hu, SeqAt.RcAt.tuple_list p p' hu, SeqAt.RcNeAt.tuple_list p p' hu⟩
    | _ => cases hy
  | lsv xs =>
    obtain ⟨a, its, rfl, p⟩ := lst rx ru
    cases y with
    | non => cases (show w = .non from ry); cases rz; exact ⟨SeqAt.EqAt.list_none p hu, SeqAt.RcAt.list_none p hu, SeqAt.RcNeAt.list_none p hu⟩
    | bl b => cases (show w = .bl b from ry); cases rz; exact ⟨SeqAt.EqAt.list_bool _ p hu, SeqAt.RcAt.list_bool _ p hu, SeqAt.RcNeAt.list_bool _ p hu⟩
    | int b => cases (show w = .int b from ry); obtain ⟨t, rfl⟩ := rz; exact ⟨SeqAt.EqAt.list_int _ _ p hu, SeqAt.RcAt.list_int _ _ p hu, SeqAt.RcNeAt.list_int _ _ p hu⟩
    | str b => cases (show w = .str b from ry); obtain ⟨t, rfl⟩ := rz; exact ⟨SeqAt.EqAt.list_str _ _ p hu, SeqAt.RcAt.list_str _ _ p hu, SeqAt.RcNeAt.list_str _ _ p hu⟩
    | tup ys => obtain ⟨b, its', rfl, p'⟩ := tup ry rz; exact ⟨SeqAt.EqAt.list_tuple p p' hu, SeqAt.RcAt.list_tuple p p' hu, SeqAt.RcNeAt.list_tuple p p' hu⟩
    | lsv ys => exact (hl _ _ rfl rfl).elim
    | _ => cases hy
  | _ => cases hx
/-- items of two rows, compared one by one -/
theorem cmp_items (I : Inv X pins σ H s) {A : Around} {n : Nat} (ih : ∀ (x y : Dv) (v w : V) (u z : Value), eqOk n x y = true → Rep X.K H x v → Rep X.K H y w → RelV v u → RelV w z → Cmp A s u z (eqv x y))
    {xs ys : List Dv} {vs ws : List V} {us zs : List Value} (hk : ((xs.zip ys).all fun p => eqOk n p.1 p.2) = true) (rx : RepL X.K H xs vs) (ry : RepL X.K H ys ws) (ru : Vals vs us) (rz : Vals ws zs) :
    ∀ j (h1 : j < us.toArray.size) (h2 : j < zs.toArray.size), SeqAt.EqAt A s us.toArray[j] zs.toArray[j] (pairV xs ys j) := by
  intro j h1 h2
  have h1' : j < us.length := by simpa using h1
  have h2' : j < zs.length := by simpa using h2
  have l1 : xs.length = us.length := rx.length.trans ru.length
  have l2 : ys.length = zs.length := ry.length.trans rz.length
  have ex : xs[j]? = some xs[j] := List.getElem?_eq_getElem (by omega)
  have ey : ys[j]? = some ys[j] := List.getElem?_eq_getElem (by omega)
  obtain ⟨v, ev, rv⟩ := rx.get ex
  obtain ⟨w, ew, rw'⟩ := ry.get ey
  obtain ⟨u, eu, qu⟩ := ru.get ev
  obtain ⟨z, ez, qz⟩ := rz.get ew
  have du : us.toArray[j] = u := by
    have := List.getElem?_eq_getElem h1'
    rw [eu] at this
    simpa using (Option.some.inj this).symm
  have dz : zs.toArray[j] = z := by
    have := List.getElem?_eq_getElem h2'
    rw [ez] at this
    simpa using (Option.some.inj this).symm
  have ep : pairV xs ys j = eqv xs[j] ys[j] := by unfold pairV; rw [ex, ey]
  rw [du, dz, ep]
  refine (ih _ _ v w u z ?_ rv rw' qu qz).eq
  have mem : (xs[j], ys[j]) ∈ xs.zip ys := by
    have : (xs.zip ys)[j]? = some (xs[j], ys[j]) := by rw [List.getElem?_zip_eq_some]; exact ⟨ex, ey⟩
    exact List.mem_of_getElem? this
  exact List.all_eq_true.mp hk _ mem
theorem cmp_data (I : Inv X pins σ H s) : ∀ (n : Nat) (A : Around), A.units + n < cLine → ∀ (x y : Dv) (v w : V) (u z : Value), eqOk n x y = true → Rep X.K H x v → Rep X.K H y w → RelV v u → RelV w z → Cmp A s u z (eqv x y) := by
  intro n
  induction n with
  | zero =>
    intro A hu x y v w u z hk rx ry ru rz
    exact cmp_scal I (eqOk_scal hk).1 (eqOk_scal hk).2 (fun xs ys e1 e2 => by subst e1 e2; cases hk) (fun xs ys e1 e2 => by subst e1 e2; cases hk) rx ry ru rz (by omega)
  | succ n ih =>
    intro A hu x y v w u z hk rx ry ru rz
    have hu0 : A.units < cLine := by omega
    have whole := rep_eqv (K := X.K) (H := H) (fun h h' => I.tuple_inj h h') (fun h h' => I.list_inj h.sq h'.sq) (fun {a xs ys} h h' => by
      obtain ⟨its, _, ⟨o, e, c, _⟩, _⟩ := I.tuple h
      obtain ⟨its', _, ⟨o', n', e', c', _⟩, _⟩ := I.list h'.sq
      rw [e] at e'
      cases e'
      rw [c] at c'
      exact absurd c' (by decide)) (n + 1) x y
    by_cases ht : ∃ xs ys, x = .tup xs ∧ y = .tup ys
    · obtain ⟨xs, ys, rfl, rfl⟩ := ht
      have whole' := fun q => whole v hk rx q
      obtain ⟨a, vs, rfl, h1, g1⟩ := rx
      have ry' := ry
      obtain ⟨b, ws, rfl, h2, g2⟩ := ry
      cases ru
      cases rz
      obtain ⟨us, r1, p1, _⟩ := I.tuple h1
      obtain ⟨zs, r2, p2, _⟩ := I.tuple h2
      have items := cmp_items (A := A.in1) I (fun x y v w u z => ih A.in1 (by show A.units + 1 + n < cLine; omega) x y v w u z) hk g1 g2 r1 r2
      have l1 : us.toArray.size = xs.length := by rw [List.size_toArray]; exact (g1.length.trans r1.length).symm
      have l2 : zs.toArray.size = ys.length := by rw [List.size_toArray]; exact (g2.length.trans r2.length).symm
      have rc := SeqAt.RcAt.tuples (A := A) p1 p2 hu0 items
      have ne := SeqAt.RcNeAt.tuples (A := A) p1 p2 hu0 items
      rw [l1, l2, eqvL_range xs ys] at rc ne
      refine ⟨?_, rc, ne⟩
      by_cases hab : a = b
      · subst hab
        rw [whole' ry']
        exact SeqAt.EqAt.same _
      · exact SeqAt.EqAt.of_refs hab rc
    · by_cases hl : ∃ xs ys, x = .lsv xs ∧ y = .lsv ys
      · obtain ⟨xs, ys, rfl, rfl⟩ := hl
        have whole' := fun q => whole v hk rx q
        obtain ⟨a, vs, rfl, h1, g1⟩ := rx
        have ry' := ry
        obtain ⟨b, ws, rfl, h2, g2⟩ := ry
        cases ru
        cases rz
        obtain ⟨us, r1, p1, _⟩ := I.list h1.sq
        obtain ⟨zs, r2, p2, _⟩ := I.list h2.sq
        have l1 : us.toArray.size = xs.length := by rw [List.size_toArray]; exact (g1.length.trans r1.length).symm
        have l2 : zs.toArray.size = ys.length := by rw [List.size_toArray]; exact (g2.length.trans r2.length).symm
        have both : SeqAt.RcAt A s (.ref a) (.ref b) (eqvL xs ys) ∧ SeqAt.RcNeAt A s (.ref a) (.ref b) (!eqvL xs ys) := by
          by_cases hlen : xs.length = ys.length
          · have hk' : ((xs.length != ys.length) || (xs.zip ys).all fun p => eqOk n p.1 p.2) = true := hk
            rw [hlen, bne_self_eq_false, Bool.false_or] at hk'
            have items := cmp_items (A := A.in1) I (fun x y v w u z => ih A.in1 (by show A.units + 1 + n < cLine; omega) x y v w u z) hk' g1 g2 r1 r2
            have e := eqvL_range xs ys
            rw [hlen, Nat.min_self, beq_self_eq_true, Bool.and_true] at e
            have rc := SeqAt.RcAt.lists (A := A) p1.isList p2.isList (by rw [l1, l2, hlen]) hu0 items
            have ne := SeqAt.RcNeAt.lists (A := A) p1.isList p2.isList (by rw [l1, l2, hlen]) hu0 items
            rw [l1, hlen, e] at rc ne
            exact ⟨rc, ne⟩
          · have f : eqvL xs ys = false := by
              cases e : eqvL xs ys with
              | false => rfl
              | true => exact absurd (eqvL_len e) hlen
            have sz : (us.toArray.size != zs.toArray.size) = true := by rw [l1, l2]; simpa using hlen
            rw [f]
            exact ⟨SeqAt.RcAt.lists_lengths p1.isList p2.isList sz hu0, SeqAt.RcNeAt.lists_lengths p1.isList p2.isList sz hu0⟩
        refine ⟨?_, both.1, both.2⟩
        by_cases hab : a = b
        · subst hab
          show SeqAt.EqAt A s (.ref a) (.ref a) (eqv (.lsv xs) (.lsv ys))
          rw [whole' ry']
          exact SeqAt.EqAt.same _
        · exact SeqAt.EqAt.of_refs hab both.1
      · exact cmp_scal I (eqOk_scal hk).1 (eqOk_scal hk).2 (fun xs ys e1 e2 => ht ⟨xs, ys, e1, e2⟩) (fun xs ys e1 e2 => hl ⟨xs, ys, e1, e2⟩) rx ry ru rz hu0
end
end DL

set_option maxHeartbeats 4000000
namespace DL
open PySem PySem.Spec L2
open PyProof.Rows hiding St
/-- a reading by values as a rule below -/
def lR (K : PySem.W.Frag) (f : D2) : R2 := fun x y H Q => ∃ dx dy Hd Qd, RepH K H Hd ∧ Rep K H dx x ∧ Rep K H dy y ∧ f dx dy Hd Qd ∧ KE K H Hd Qd Q
theorem lR_ok {K : PySem.W.Frag} {f : D2} : R2Ok K (lR K f) f := fun H Hd x y dx dy Q Qd rh rx ry q k => ⟨dx, dy, Hd, Qd, rh, rx, ry, q, k⟩
def fEq (g : Bool → Bool) : D2 := fun x y H Q => match x, y with
  | .ref p, .ref q => ∃ xs ys, H p = some (.lst xs) ∧ H q = some (.lst ys) ∧ (xs.length = ys.length → ((xs.zip ys).all fun r => eqOk 59 r.1 r.2) = true) ∧ Q (.bl (g (eqvL xs ys))) H
  | .ref p, .lsv ys => ∃ xs, H p = some (.lst xs) ∧ (xs.length = ys.length → ((xs.zip ys).all fun r => eqOk 59 r.1 r.2) = true) ∧ Q (.bl (g (eqvL xs ys))) H
  | .lsv xs, .ref q => ∃ ys, H q = some (.lst ys) ∧ (xs.length = ys.length → ((xs.zip ys).all fun r => eqOk 59 r.1 r.2) = true) ∧ Q (.bl (g (eqvL xs ys))) H
  | x, y => eqOk 60 x y = true ∧ Q (.bl (g (eqv x y))) H
section
variable {X : Cx} {a b c : Expr} {ta tb tc : DTE} {pos : Pos}
theorem list_cmp {pins : List (Addr × Obj)} {σ : St} {H : Hp} {s : Shared} (I : Inv X pins σ H s) (hu : X.A.units + 64 < cLine) {p q : Addr} {vs ws : List V} {xs ys : List Dv} (e1 : SqL X.K H p vs) (e2 : SqL X.K H q ws) (l1 : RepL X.K H xs vs) (l2 : RepL X.K H ys ws)
    (hk : xs.length = ys.length → ((xs.zip ys).all fun r => eqOk 59 r.1 r.2) = true) : SeqAt.RcAt X.A s (.ref p) (.ref q) (eqvL xs ys) ∧ SeqAt.RcNeAt X.A s (.ref p) (.ref q) (!eqvL xs ys) := by
  obtain ⟨us, r1, p1, _⟩ := I.list e1
  obtain ⟨zs, r2, p2, _⟩ := I.list e2
  have n1 : us.toArray.size = xs.length := by rw [List.size_toArray]; exact (l1.length.trans r1.length).symm
  have n2 : zs.toArray.size = ys.length := by rw [List.size_toArray]; exact (l2.length.trans r2.length).symm
  have hu0 : X.A.units < cLine := by omega
  by_cases hl : xs.length = ys.length
  · have items := cmp_items (A := X.A.in1) I (fun x y v w u z => cmp_data I 59 X.A.in1 (by show X.A.units + 1 + 59 < cLine; omega) x y v w u z) (hk hl) l1 l2 r1 r2
    have e := eqvL_range xs ys
    have sz : us.toArray.size = zs.toArray.size := by rw [n1, n2, hl]
    have rc := SeqAt.RcAt.lists (A := X.A) p1.isList p2.isList sz hu0 items
    have ne := SeqAt.RcNeAt.lists (A := X.A) p1.isList p2.isList sz hu0 items
    have e3 : (List.range us.toArray.size).all (pairV xs ys) = eqvL xs ys := by
      rw [← e, n1, hl, Nat.min_self, beq_self_eq_true, Bool.and_true]
    rw [e3] at rc ne
    exact ⟨rc, ne⟩
  · have f : eqvL xs ys = false := by
      cases e : eqvL xs ys with
      | false => rfl
      | true => exact absurd (eqvL_len e) hl
    have sz : (us.toArray.size != zs.toArray.size) = true := by rw [n1, n2]; simpa using hl
    rw [f]
    exact ⟨SeqAt.RcAt.lists_lengths p1.isList p2.isList sz hu0, SeqAt.RcNeAt.lists_lengths p1.isList p2.isList sz hu0⟩
theorem op_eqAny (hu : X.A.units + 64 < cLine) : OpR X (compareOp .Eq) (lR X.K (fEq fun k => k)) := by
  intro pins s σ H x y v u Q I rx ry ⟨dx, dy, Hd, Qd, rh, px, py, q, k⟩
  have fin : ∀ b, Qd (.bl b) Hd → EP X pins σ Q (.bool b) s := fun b z => ⟨.bl b, H, I, rfl, k _ H (.bl b) Hd .refl rh rfl z⟩
  unfold fEq at q
  split at q
  · obtain ⟨xs, ys, h1, h2, hk, q⟩ := q
    obtain ⟨vs, e1, l1⟩ := rh _ _ h1
    obtain ⟨ws, e2, l2⟩ := rh _ _ h2
    cases (show x = .ref _ from px)
    cases (show y = .ref _ from py)
    cases rx
    cases ry
    exact (list_cmp I hu (.of e1) (.of e2) l1 l2 hk).1 X.prog X.w X.xe _ (fin _ q)
  · obtain ⟨xs, h1, hk, q⟩ := q
    obtain ⟨vs, e1, l1⟩ := rh _ _ h1
    obtain ⟨b, ws, rfl, e2, l2⟩ := py
    cases (show x = .ref _ from px)
    cases rx
    cases ry
    exact (list_cmp I hu (.of e1) e2.sq l1 l2 hk).1 X.prog X.w X.xe _ (fin _ q)
  · obtain ⟨ys, h1, hk, q⟩ := q
    obtain ⟨ws, e2, l2⟩ := rh _ _ h1
    obtain ⟨b, vs, rfl, e1, l1⟩ := px
    cases (show y = .ref _ from py)
    cases rx
    cases ry
    exact (list_cmp I hu e1.sq (.of e2) l1 l2 hk).1 X.prog X.w X.xe _ (fin _ q)
  · exact (cmp_data I 60 X.A (by omega) dx dy x y v u q.1 px py rx ry).rc X.prog X.w X.xe _ (fin _ q.2)
theorem op_neAny (hu : X.A.units + 64 < cLine) : OpR X (compareOp .NotEq) (lR X.K (fEq fun k => !k)) := by
  intro pins s σ H x y v u Q I rx ry ⟨dx, dy, Hd, Qd, rh, px, py, q, k⟩
  have fin : ∀ b, Qd (.bl b) Hd → EP X pins σ Q (.bool b) s := fun b z => ⟨.bl b, H, I, rfl, k _ H (.bl b) Hd .refl rh rfl z⟩
  unfold fEq at q
  split at q
  · obtain ⟨xs, ys, h1, h2, hk, q⟩ := q
    obtain ⟨vs, e1, l1⟩ := rh _ _ h1
    obtain ⟨ws, e2, l2⟩ := rh _ _ h2
    cases (show x = .ref _ from px)
    cases (show y = .ref _ from py)
    cases rx
    cases ry
    exact (list_cmp I hu (.of e1) (.of e2) l1 l2 hk).2 X.prog X.w X.xe _ (fin _ q)
  · obtain ⟨xs, h1, hk, q⟩ := q
    obtain ⟨vs, e1, l1⟩ := rh _ _ h1
    obtain ⟨b, ws, rfl, e2, l2⟩ := py
    cases (show x = .ref _ from px)
    cases rx
    cases ry
    exact (list_cmp I hu (.of e1) e2.sq l1 l2 hk).2 X.prog X.w X.xe _ (fin _ q)
  · obtain ⟨ys, h1, hk, q⟩ := q
    obtain ⟨ws, e2, l2⟩ := rh _ _ h1
    obtain ⟨b, vs, rfl, e1, l1⟩ := px
    cases (show y = .ref _ from py)
    cases rx
    cases ry
    exact (list_cmp I hu e1.sq (.of e2) l1 l2 hk).2 X.prog X.w X.xe _ (fin _ q)
  · exact (cmp_data I 60 X.A (by omega) dx dy x y v u q.1 px py rx ry).ne X.prog X.w X.xe _ (fin _ q.2)
/-! in, not in -/
def fIn (g : Bool → Bool) : D2 := fun x y H Q => match y with
  | .tup ds => (ds.all fun d => eqOk 59 d x) = true ∧ Q (.bl (g (ds.any fun d => eqv d x))) H
  | .lsv ds => (ds.all fun d => eqOk 59 d x) = true ∧ Q (.bl (g (ds.any fun d => eqv d x))) H
  | .ref p => ∃ ds, H p = some (.lst ds) ∧ (ds.all fun d => eqOk 59 d x) = true ∧ Q (.bl (g (ds.any fun d => eqv d x))) H
  | _ => False
theorem in_items {pins : List (Addr × Obj)} {σ : St} {H : Hp} {s : Shared} (I : Inv X pins σ H s) (hu : X.A.units + 64 < cLine) {x : V} {v : Value} {dx : Dv} (px : Rep X.K H dx x) (rx : RelV x v) {ds : List Dv} {vs : List V} {us : List Value} (l : RepL X.K H ds vs) (r : Vals vs us)
    (hk : (ds.all fun d => eqOk 59 d dx) = true) : ∃ e : Value → Bool, us.toArray.any e = (ds.any fun d => eqv d dx) ∧ ∀ y, y ∈ us.toArray → SeqAt.EqAt X.A.in1 s y v (e y) := by
  classical
  have n : ds.length = us.length := l.length.trans r.length
  have pair : ∀ (j : Nat) (d : Dv) (u : Value), ds[j]? = some d → us[j]? = some u → SeqAt.EqAt X.A.in1 s u v (eqv d dx) := fun j d u e1 e2 => by
    obtain ⟨w, ew, rw'⟩ := l.get e1
    obtain ⟨u', eu, qu⟩ := r.get ew
    rw [e2] at eu
    cases eu
    exact (cmp_data I 59 X.A.in1 (by show X.A.units + 1 + 59 < cLine; omega) d dx w x u v (List.all_eq_true.mp hk d (List.mem_of_getElem? e1)) rw' px qu rx).eq
  refine ⟨fun y => decide (∃ (j : Nat) (d : Dv), us[j]? = some y ∧ ds[j]? = some d ∧ eqv d dx = true), ?_, fun y hy => ?_⟩
  · rw [Bool.eq_iff_iff]
    simp only [List.any_toArray, List.any_eq_true, decide_eq_true_eq]
    constructor
    · rintro ⟨y, _, j, d, _, e2, e3⟩
      exact ⟨d, List.mem_of_getElem? e2, e3⟩
    · rintro ⟨d, hd, e3⟩
      obtain ⟨j, hj, ed⟩ := List.getElem_of_mem hd
      have hj' : j < us.length := by omega
      exact ⟨us[j], List.getElem_mem hj', j, d, List.getElem?_eq_getElem hj', by rw [List.getElem?_eq_getElem hj, ed], e3⟩
  · show SeqAt.EqAt X.A.in1 s y v (decide (∃ (j : Nat) (d : Dv), us[j]? = some y ∧ ds[j]? = some d ∧ eqv d dx = true))
    by_cases h : ∃ (j : Nat) (d : Dv), us[j]? = some y ∧ ds[j]? = some d ∧ eqv d dx = true
    · rw [decide_eq_true h]
      obtain ⟨j, d, e1, e2, e3⟩ := h
      have := pair j d y e2 e1
      rw [e3] at this
      exact this
    · rw [decide_eq_false h]
      obtain ⟨j, hj, ey⟩ := List.getElem_of_mem (show y ∈ us by simpa using hy)
      have e1 : us[j]? = some y := by rw [List.getElem?_eq_getElem hj, ey]
      have e2 : ds[j]? = some ds[j] := List.getElem?_eq_getElem (by omega)
      have := pair j _ y e2 e1
      have f : eqv ds[j] dx = false := by
        cases e : eqv ds[j] dx with
        | false => rfl
        | true => exact absurd ⟨j, _, e1, e2, e⟩ h
      rw [f] at this
      exact this
theorem op_inAny (hu : X.A.units + 64 < cLine) : OpR X (compareOp .In) (lR X.K (fIn fun k => k)) := by
  intro pins s σ H x y v u Q I rx ry ⟨dx, dy, Hd, Qd, rh, px, py, q, k⟩
  have fin : ∀ b, Qd (.bl b) Hd → EP X pins σ Q (.bool b) s := fun b z => ⟨.bl b, H, I, rfl, k _ H (.bl b) Hd .refl rh rfl z⟩
  unfold fIn at q
  split at q
  · obtain ⟨a, vs, rfl, h, l⟩ := py
    cases ry
    obtain ⟨us, r, p, _⟩ := I.tuple h
    obtain ⟨e, e1, e2⟩ := in_items I hu px rx l r q.1
    exact SeqAt.in_tupleAt e p e2 (by rw [e1]; exact fin _ q.2)
  · obtain ⟨a, vs, rfl, h, l⟩ := py
    cases ry
    obtain ⟨us, r, p, _⟩ := I.list h.sq
    obtain ⟨e, e1, e2⟩ := in_items I hu px rx l r q.1
    exact SeqAt.in_listAt e p.isList e2 (by rw [e1]; exact fin _ q.2)
  · obtain ⟨ds, h1, hk, q⟩ := q
    obtain ⟨vs, e1, l⟩ := rh _ _ h1
    cases (show y = .ref _ from py)
    cases ry
    obtain ⟨us, r, p, _⟩ := I.list (.of e1)
    obtain ⟨e, e1, e2⟩ := in_items I hu px rx l r hk
    exact SeqAt.in_listAt e p.isList e2 (by rw [e1]; exact fin _ q)
  · exact q.elim
theorem op_notInAny (hu : X.A.units + 64 < cLine) : OpR X (compareOp .NotIn) (lR X.K (fIn fun k => !k)) := by
  intro pins s σ H x y v u Q I rx ry ⟨dx, dy, Hd, Qd, rh, px, py, q, k⟩
  have fin : ∀ b, Qd (.bl b) Hd → EP X pins σ Q (.bool b) s := fun b z => ⟨.bl b, H, I, rfl, k _ H (.bl b) Hd .refl rh rfl z⟩
  unfold fIn at q
  split at q
  · obtain ⟨a, vs, rfl, h, l⟩ := py
    cases ry
    obtain ⟨us, r, p, _⟩ := I.tuple h
    obtain ⟨e, e1, e2⟩ := in_items I hu px rx l r q.1
    exact SeqAt.notIn_tupleAt e p e2 (by rw [e1]; exact fin _ q.2)
  · obtain ⟨a, vs, rfl, h, l⟩ := py
    cases ry
    obtain ⟨us, r, p, _⟩ := I.list h.sq
    obtain ⟨e, e1, e2⟩ := in_items I hu px rx l r q.1
    exact SeqAt.notIn_listAt e p.isList e2 (by rw [e1]; exact fin _ q.2)
  · obtain ⟨ds, h1, hk, q⟩ := q
    obtain ⟨vs, e1, l⟩ := rh _ _ h1
    cases (show y = .ref _ from py)
    cases ry
    obtain ⟨us, r, p, _⟩ := I.list (.of e1)
    obtain ⟨e, e1, e2⟩ := in_items I hu px rx l r hk
    exact SeqAt.notIn_listAt e p.isList e2 (by rw [e1]; exact fin _ q)
  · exact q.elim
/-! is None, the order of ints -/
def isNonD : Dv → Bool
  | .non => true
  | _ => false
def fIsN (g : Bool → Bool) : D2 := fun x y H Q => match y with
  | .non => Q (.bl (g (isNonD x))) H
  | _ => False
theorem rep_non {K : PySem.W.Frag} {H : Hp} {d : Dv} {v : V} (r : Rep K H d v) : decide (v = .non) = isNonD d := by
  cases d with
  | tup ds => obtain ⟨a, vs, rfl, _⟩ := r; rfl
  | lsv ds => obtain ⟨a, vs, rfl, _⟩ := r; rfl
  | _ => cases (show v = _ from r); rfl
abbrev fLt : D2 := dI20 fun i j => .bl (decide (i < j))
abbrev fLe : D2 := dI20 fun i j => .bl (decide (i ≤ j))
abbrev fGt : D2 := dI20 fun i j => .bl (decide (j < i))
abbrev fGe : D2 := dI20 fun i j => .bl (decide (j ≤ i))
abbrev fEqA : D2 := fEq fun k => k
abbrev fNeA : D2 := fEq fun k => !k
abbrev fInA : D2 := fIn fun k => k
abbrev fNotInA : D2 := fIn fun k => !k
abbrev fIsA : D2 := fIsN fun k => k
abbrev fIsNotA : D2 := fIsN fun k => !k
/-- a comparison's operator, its rule below, its reading -/
structure CmpOk (X : Cx) (op : CmpOp) (f : D2) : Prop where
  ex : ∃ r : R2, OpR X (compareOp op) r ∧ R2Ok X.K r f
theorem c_lt : CmpOk X .Lt fLt := ⟨_, op_lt, i20 fun _ _ _ => rfl⟩
theorem c_le : CmpOk X .LtE fLe := ⟨_, op_le, i20 fun _ _ _ => rfl⟩
theorem c_gt : CmpOk X .Gt fGt := ⟨_, op_gt, i20 fun _ _ _ => rfl⟩
theorem c_ge : CmpOk X .GtE fGe := ⟨_, op_ge, i20 fun _ _ _ => rfl⟩
theorem c_eq (hu : X.A.units + 64 < cLine) : CmpOk X .Eq fEqA := ⟨_, op_eqAny hu, lR_ok⟩
theorem c_ne (hu : X.A.units + 64 < cLine) : CmpOk X .NotEq fNeA := ⟨_, op_neAny hu, lR_ok⟩
theorem c_in (hu : X.A.units + 64 < cLine) : CmpOk X .In fInA := ⟨_, op_inAny hu, lR_ok⟩
theorem c_notIn (hu : X.A.units + 64 < cLine) : CmpOk X .NotIn fNotInA := ⟨_, op_notInAny hu, lR_ok⟩
theorem c_is : CmpOk X .Is fIsA := ⟨_, op_isN, by
  intro H Hd x y dx dy Q Qd rh rx ry q k
  simp only [fIsA, fIsNotA, fIsN] at q
  split at q
  · exact ⟨ry, by rw [rep_non rx]; exact k _ H (.bl _) Hd .refl rh rfl q⟩
  · exact q.elim⟩
theorem c_isNot : CmpOk X .IsNot fIsNotA := ⟨_, op_notN, by
  intro H Hd x y dx dy Q Qd rh rx ry q k
  simp only [fIsA, fIsNotA, fIsN] at q
  split at q
  · exact ⟨ry, by rw [rep_non rx]; exact k _ H (.bl _) Hd .refl rh rfl q⟩
  · exact q.elim⟩
theorem de_cmp {op : CmpOp} {f : D2} (ho : CmpOk X op f) (ha : DE X a ta) (hb : DE X b tb) (hm : behindInMarks op b = false) : DE X (.Compare a [op] [b] pos) (dOp f ta tb) := by
  obtain ⟨r, h1, h2⟩ := ho.ex
  exact pe_mono (pe_cmpR h1 ha hb hm) fun _ _ _ h => op2 h2 h
/-- a value as a truth value -/
def dTest (t : DTE) : DTT := fun σ H Q => t σ H fun d H1 => match d with
  | .bl k => Q k H1
  | _ => False
theorem test_of {t : TE} {td : DTE} (h : ∀ σ H Q, lE X.K td σ H Q → t σ H Q) (σ : St) (H : Hp) (Q : Bool → Hp → Prop) (q : lT X.K (dTest td) σ H Q) : t σ H fun x H1 => ∃ k, x = .bl k ∧ Q k H1 := by
  obtain ⟨σd, Hd, Qd, rs, rh, q, k⟩ := q
  refine h σ H _ ⟨σd, Hd, _, rs, rh, q, fun v H1 d Hd1 s1 r1 rv q1 => ?_⟩
  cases d with
  | bl b => exact ⟨b, rv, k b H1 Hd1 s1 r1 q1⟩
  | _ => exact q1.elim
theorem dt_cmp {op : CmpOp} {f : D2} (ho : CmpOk X op f) (ha : DE X a ta) (hb : DE X b tb) (hm : behindInMarks op b = false) : DT X (.Compare a [op] [b] pos) (dTest (dOp f ta tb)) := by
  obtain ⟨r, h1, h2⟩ := ho.ex
  exact pt_mono (pt_cmpR h1 ha hb hm) fun σ H Q h => test_of (fun _ _ _ z => op2 h2 z) σ H Q h
def dChain (f g : D2) (ta tb tc : DTE) : DTE := fun σ H Q => ta σ H fun x H1 => tb σ H1 fun y H2 => f x y H2 fun z H3 => match z with
  | .bl k => (k = true → tc σ H3 fun w H4 => g y w H4 Q) ∧ (k = false → Q (.bl false) H3)
  | _ => False
theorem chain2 {r r' : R2} {f g : D2} (hf : R2Ok X.K r f) (hg : R2Ok X.K r' g) (σ : St) (H : Hp) (Q : VK) (h : lE X.K (dChain f g ta tb tc) σ H Q) : tChain r r' (lE X.K ta) (lE X.K tb) (lE X.K tc) σ H Q := by
  obtain ⟨σd, Hd, Qd, rs, rh, q, k⟩ := h
  refine ⟨σd, Hd, _, rs, rh, q, fun v H1 d Hd1 s1 r1 rv q1 => ⟨σd, Hd1, _, s1.repS rh rs, r1, q1, fun u H2 d2 Hd2 s2 r2 ru q2 => ?_⟩⟩
  refine hf H2 Hd2 v u d d2 _ _ r2 (s2.rep r1 rv) ru q2 fun z H3 dz Hd3 s3 r3 rz q3 => ?_
  cases dz with
  | bl b =>
    refine ⟨b, rz, ?_⟩
    have st := (s1.trans s2).trans s3
    cases b with
    | false => rw [if_neg Bool.false_ne_true]; exact k _ H3 (.bl false) Hd3 st r3 rfl (q3.2 rfl)
    | true =>
      rw [if_pos rfl]
      exact ⟨σd, Hd3, _, st.repS rh rs, r3, q3.1 rfl, fun w H4 dw Hd4 s4 r4 rw' q4 => hg H4 Hd4 u w d2 dw Q Qd r4 ((s3.trans s4).rep r2 ru) rw' q4 (k.at (st.trans s4))⟩
  | _ => exact q3.elim
theorem de_chain {op op' : CmpOp} {f g : D2} (ho : CmpOk X op f) (ho' : CmpOk X op' g) (ha : DE X a ta) (hb : DE X b tb) (hc : DE X c tc) (hm : lastMarks [op, op'] [b, c] = false := by with_unfolding_all rfl) :
    DE X (.Compare a [op, op'] [b, c] pos) (dChain f g ta tb tc) := by
  obtain ⟨r, h1, h2⟩ := ho.ex
  obtain ⟨r', h3, h4⟩ := ho'.ex
  exact pe_mono (pe_chain h1 h3 ha hb hc hm) (chain2 h2 h4)
theorem dt_chain {op op' : CmpOp} {f g : D2} (ho : CmpOk X op f) (ho' : CmpOk X op' g) (ha : DE X a ta) (hb : DE X b tb) (hc : DE X c tc) (hm : lastMarks [op, op'] [b, c] = false := by with_unfolding_all rfl) :
    DT X (.Compare a [op, op'] [b, c] pos) (dTest (dChain f g ta tb tc)) := by
  obtain ⟨r, h1, h2⟩ := ho.ex
  obtain ⟨r', h3, h4⟩ := ho'.ex
  exact pt_mono (pt_chain h1 h3 ha hb hc hm) (test_of (chain2 h2 h4))
end
end DL

set_option maxHeartbeats 4000000
namespace DL
open PySem PySem.Spec L2
open PyProof.Rows hiding St
/-! ## truth, and, or, not -/
section
variable {X : Cx} {a b c e : Expr} {rest : List Expr} {ta tb tc : DTE} {tt uu : DTT} {pos : Pos}
def fTru (d : Dv) (H : DH) (k : Bool → Prop) : Prop := match d with
  | .non => k false
  | .bl b => k b
  | .int i => k (i != 0)
  | .str y => y.length ≤ sizeLine ∧ k ((y.length : Int) != 0)
  | .tup ds => k (!ds.isEmpty)
  | .lsv ds => k (!ds.isEmpty)
  | .ref p => ∃ ds, H p = some (.lst ds) ∧ k (!ds.isEmpty)
  | .ty _ => False
theorem RepL.empty {K : PySem.W.Frag} {H : Hp} {ds : List Dv} {vs : List V} (h : RepL K H ds vs) : (!ds.isEmpty) = !vs.isEmpty := by
  cases ds with
  | nil => rw [show vs = [] from h]; rfl
  | cons d ds => obtain ⟨v, t, rfl, _⟩ := h; rfl
theorem tru_of {K : PySem.W.Frag} {H : Hp} {Hd : DH} {d : Dv} {v : V} {k : Bool → Prop} (rh : RepH K H Hd) (r : Rep K H d v) (q : fTru d Hd k) : ∃ b, TruV K v H b ∧ k b := by
  cases d with
  | non => cases (show v = _ from r); exact ⟨_, rfl, q⟩
  | bl b => cases (show v = _ from r); exact ⟨_, rfl, q⟩
  | int i => cases (show v = _ from r); exact ⟨_, rfl, q⟩
  | str y => cases (show v = _ from r); exact ⟨_, ⟨q.1, rfl⟩, q.2⟩
  | tup ds => obtain ⟨p, vs, rfl, h, l⟩ := r; exact ⟨_, .inr (.inl ⟨vs, h, rfl⟩), by rw [← l.empty]; exact q⟩
  | lsv ds => obtain ⟨p, vs, rfl, h, l⟩ := r; exact ⟨_, .inl ⟨vs, h.sq, rfl⟩, by rw [← l.empty]; exact q⟩
  | ref p =>
    cases (show v = _ from r)
    obtain ⟨ds, h, q⟩ := q
    obtain ⟨vs, e, l⟩ := rh _ _ h
    exact ⟨_, .inl ⟨vs, .of e, rfl⟩, by rw [← l.empty]; exact q⟩
  | ty n => exact q.elim
def dTruth (t : DTE) : DTT := fun σ H Q => t σ H fun d H1 => fTru d H1 fun k => Q k H1
theorem dt_truth (ha : DE X a ta) (he : ∀ whole, isTrue a X.env whole = (do let v ← whole; standAt a.pos; holding [v] (truthy v)) := by intro _; rfl) : DT X a (dTruth ta) :=
  dt_of (pt_truth ha he) fun σ H Q σd Hd Qd rs rh q k => ⟨σd, Hd, _, rs, rh, q, fun v H1 d Hd1 s1 r1 rv q1 => by
    obtain ⟨b, t, q⟩ := tru_of r1 rv q1
    exact ⟨b, t, k b H1 Hd1 s1 r1 q⟩⟩
/-! tests -/
def dAndT (t u : DTT) : DTT := fun σ H Q => t σ H fun c H1 => (c = true → u σ H1 Q) ∧ (c = false → Q false H1)
def dOrT (t u : DTT) : DTT := fun σ H Q => t σ H fun c H1 => (c = true → Q true H1) ∧ (c = false → u σ H1 Q)
def dNotT (t : DTT) : DTT := fun σ H Q => t σ H fun c H1 => Q (!c) H1
theorem dw_and1 (h : DT X a tt) : DW X (.BoolOp .And [a] pos) tt := pw_and1 h
theorem dw_or1 (h : DT X a tt) : DW X (.BoolOp .Or [a] pos) tt := pw_or1 h
theorem dw_and (h : DT X a tt) (h' : DW X (.BoolOp .And (b :: rest) pos) uu) : DW X (.BoolOp .And (a :: b :: rest) pos) (dAndT tt uu) :=
  dw_of (pw_and h h') fun σ H Q σd Hd Qd rs rh q k => ⟨σd, Hd, _, rs, rh, q, fun c H1 Hd1 s1 r1 q1 => by
    cases c with
    | true => rw [if_pos rfl]; exact ⟨σd, Hd1, Qd, s1.repS rh rs, r1, q1.1 rfl, k.at s1⟩
    | false => rw [if_neg Bool.false_ne_true]; exact k _ _ _ s1 r1 (q1.2 rfl)⟩
theorem dw_or (h : DT X a tt) (h' : DW X (.BoolOp .Or (b :: rest) pos) uu) : DW X (.BoolOp .Or (a :: b :: rest) pos) (dOrT tt uu) :=
  dw_of (pw_or h h') fun σ H Q σd Hd Qd rs rh q k => ⟨σd, Hd, _, rs, rh, q, fun c H1 Hd1 s1 r1 q1 => by
    cases c with
    | true => rw [if_pos rfl]; exact k _ _ _ s1 r1 (q1.1 rfl)
    | false => rw [if_neg Bool.false_ne_true]; exact ⟨σd, Hd1, Qd, s1.repS rh rs, r1, q1.2 rfl, k.at s1⟩⟩
theorem dt_w (h : DW X e tt) : DT X e tt := h.pt
theorem dt_not (h : DT X a tt) : DT X (.UnaryOp .Not a pos) (dNotT tt) :=
  dt_of (pt_not h) fun σ H Q σd Hd Qd rs rh q k => ⟨σd, Hd, _, rs, rh, q, fun c H1 Hd1 s1 r1 q1 => k _ _ _ s1 r1 q1⟩
/-! values -/
def dAndV (ta tb : DTE) : DTE := fun σ H Q => ta σ H fun d H1 => fTru d H1 fun c => (c = true → tb σ H1 Q) ∧ (c = false → Q d H1)
def dOrV (ta tb : DTE) : DTE := fun σ H Q => ta σ H fun d H1 => fTru d H1 fun c => (c = true → Q d H1) ∧ (c = false → tb σ H1 Q)
def dNotV (ta : DTE) : DTE := fun σ H Q => ta σ H fun d H1 => fTru d H1 fun c => Q (.bl (!c)) H1
theorem de_one {op} (h : DE X a ta) : DE X (.BoolOp op [a] pos) ta := pe_one h
theorem de_and (h : DE X a ta) (h' : DE X (.BoolOp .And (b :: rest) pos) tb) : DE X (.BoolOp .And (a :: b :: rest) pos) (dAndV ta tb) :=
  de_of (pe_andT h h') fun σ H Q σd Hd Qd rs rh q k => ⟨σd, Hd, _, rs, rh, q, fun v H1 d Hd1 s1 r1 rv q1 => by
    obtain ⟨c, t, q2⟩ := tru_of r1 rv q1
    refine ⟨c, t, ?_⟩
    cases c with
    | true => rw [if_pos rfl]; exact ⟨σd, Hd1, Qd, s1.repS rh rs, r1, q2.1 rfl, k.at s1⟩
    | false => rw [if_neg Bool.false_ne_true]; exact k _ _ _ _ s1 r1 rv (q2.2 rfl)⟩
theorem de_or (h : DE X a ta) (h' : DE X (.BoolOp .Or (b :: rest) pos) tb) : DE X (.BoolOp .Or (a :: b :: rest) pos) (dOrV ta tb) :=
  de_of (pe_orT h h') fun σ H Q σd Hd Qd rs rh q k => ⟨σd, Hd, _, rs, rh, q, fun v H1 d Hd1 s1 r1 rv q1 => by
    obtain ⟨c, t, q2⟩ := tru_of r1 rv q1
    refine ⟨c, t, ?_⟩
    cases c with
    | true => rw [if_pos rfl]; exact k _ _ _ _ s1 r1 rv (q2.1 rfl)
    | false => rw [if_neg Bool.false_ne_true]; exact ⟨σd, Hd1, Qd, s1.repS rh rs, r1, q2.2 rfl, k.at s1⟩⟩
theorem de_not (h : DE X a ta) : DE X (.UnaryOp .Not a pos) (dNotV ta) :=
  de_of (pe_notT h) fun σ H Q σd Hd Qd rs rh q k => ⟨σd, Hd, _, rs, rh, q, fun v H1 d Hd1 s1 r1 rv q1 => by
    obtain ⟨c, t, q2⟩ := tru_of r1 rv q1
    exact ⟨c, t, k _ _ (.bl (!c)) _ s1 r1 rfl q2⟩⟩
def dIfE (t : DTT) (ta tb : DTE) : DTE := fun σ H Q => t σ H fun c H1 => (c = true → ta σ H1 Q) ∧ (c = false → tb σ H1 Q)
theorem de_if (h : DT X c tt) (ha : DE X a ta) (hb : DE X b tb) : DE X (.IfExp c a b pos) (dIfE tt ta tb) :=
  de_of (pe_ifExp h ha hb) fun σ H Q σd Hd Qd rs rh q k => ⟨σd, Hd, _, rs, rh, q, fun c H1 Hd1 s1 r1 q1 => by
    cases c with
    | true => rw [if_pos rfl]; exact ⟨σd, Hd1, Qd, s1.repS rh rs, r1, q1.1 rfl, k.at s1⟩
    | false => rw [if_neg Bool.false_ne_true]; exact ⟨σd, Hd1, Qd, s1.repS rh rs, r1, q1.2 rfl, k.at s1⟩⟩

/-! ## subscripts -/
def fIx : D2 := fun x y H Q => match x, y with
  | .tup ds, .int i => ∃ d, atI ds i = some d ∧ Q d H
  | .lsv ds, .int i => ∃ d, atI ds i = some d ∧ Q d H
  | .ref p, .int i => ∃ ds d, H p = some (.lst ds) ∧ atI ds i = some d ∧ Q d H
  | .str z, .int i => ∃ c, z.length ≤ sizeLine ∧ atI z.cps.toList i = some c ∧ Q (.str ⟨#[c]⟩) H
  | _, _ => False
theorem RepL.atI {K : PySem.W.Frag} {H : Hp} {ds : List Dv} {vs : List V} (h : RepL K H ds vs) {i : Int} {d : Dv} (e : L2.atI ds i = some d) : ∃ v, L2.atI vs i = some v ∧ Rep K H d v := by
  unfold L2.atI at e ⊢
  rw [← h.length]
  cases q : ixN ds.length i with
  | none => rw [q] at e; cases e
  | some j =>
    rw [q] at e
    exact h.get e
theorem de_ix (ha : DE X a ta) (hb : DE X b tb) (hs : PlainIx b := by exact fun _ _ => rfl) : DE X (.Subscript a b pos) (dOp fIx ta tb) :=
  pe_mono (pe_ix ix_seq ha hb hs) fun _ _ _ h => op2 (by
    intro H Hd x y dx dy Q Qd rh rx ry q k
    unfold fIx at q
    split at q
    · obtain ⟨d, e, q⟩ := q
      obtain ⟨p, vs, rfl, h, l⟩ := rx
      obtain ⟨v, e2, r⟩ := l.atI e
      exact .inr (.inl ⟨p, vs, _, v, rfl, ry, h, e2, k v H d Hd .refl rh r q⟩)
    · obtain ⟨d, e, q⟩ := q
      obtain ⟨p, vs, rfl, h, l⟩ := rx
      obtain ⟨v, e2, r⟩ := l.atI e
      exact .inl ⟨p, vs, _, v, rfl, ry, h.sq, e2, k v H d Hd .refl rh r q⟩
    · obtain ⟨ds, d, h, e, q⟩ := q
      obtain ⟨vs, e1, l⟩ := rh _ _ h
      obtain ⟨v, e2, r⟩ := l.atI e
      exact .inl ⟨_, vs, _, v, rx, ry, .of e1, e2, k v H d Hd .refl rh r q⟩
    · obtain ⟨c, z, e, q⟩ := q
      exact .inr (.inr ⟨_, _, c, rx, ry, z, e, k _ H (.str ⟨#[c]⟩) Hd .refl rh rfl q⟩)
    · exact q.elim) h
/-! slices -/
abbrev DTO := DS → DH → (Option Int → DH → Prop) → Prop
def lO (K : PySem.W.Frag) (t : DTO) : TO := fun σ H Q => ∃ σd Hd Qd, RepS K H σd σ ∧ RepH K H Hd ∧ t σd Hd Qd ∧ ∀ o H' Hd', Stp H Hd H' Hd' → RepH K H' Hd' → Qd o Hd' → Q o H'
abbrev DOp (X : Cx) (e : Option Expr) (t : DTO) : Prop := PO X e (lO X.K t)
def dNoPart : DTO := fun _ H Q => Q none H
def dPart (t : DTE) : DTO := fun σ H Q => t σ H fun d H1 => match d with
  | .int i => Q (some i) H1
  | _ => False
theorem do_none : DOp X none dNoPart := ⟨fun p s σ H Q I ⟨σd, Hd, Qd, rs, rh, q, k⟩ => po_none.run p s σ H Q I (k none H Hd .refl rh q)⟩
theorem do_some (h : DE X e ta) : DOp X (some e) (dPart ta) := ⟨fun p s σ H Q I ⟨σd, Hd, Qd, rs, rh, q, k⟩ => (po_some h).run p s σ H Q I
  ⟨σd, Hd, _, rs, rh, q, fun v H1 d Hd1 s1 r1 rv q1 => by
    cases d with
    | int i => exact ⟨i, rv, k _ _ _ s1 r1 q1⟩
    | _ => exact q1.elim⟩⟩
def cutD {α : Type} (ds : List α) (lo hi : Option Int) : List α := (ds.drop (HT.sIx ds.length 0 lo)).take (HT.sIx ds.length ds.length hi - HT.sIx ds.length 0 lo)
theorem RepL.cut {K : PySem.W.Frag} {H : Hp} {ds : List Dv} {vs : List V} (h : RepL K H ds vs) (lo hi : Option Int) : RepL K H (cutD ds lo hi) (cutV vs lo hi) := by
  unfold cutD cutV
  rw [← h.length]
  exact (h.drop _).take _
def fSl (d : Dv) (lo hi : Option Int) (H : DH) (Q : DVK) : Prop := match d with
  | .tup ds => Q (.tup (cutD ds lo hi)) H
  | .lsv ds => ∀ r, H r = none → Q (.ref r) (upD H r (.lst (cutD ds lo hi)))
  | .ref p => ∃ ds, H p = some (.lst ds) ∧ ∀ r, H r = none → Q (.ref r) (upD H r (.lst (cutD ds lo hi)))
  | _ => False
def dSl (t : DTE) (tl th : DTO) : DTE := fun σ H Q => t σ H fun d H1 => tl σ H1 fun l H2 => th σ H2 fun u H3 => fSl d l u H3 Q
theorem de_slice {lo hi : Option Expr} {tl th : DTO} {p2 : Pos} (he : DE X e ta) (hl : DOp X lo tl) (hu : DOp X hi th) : DE X (.Subscript e (.Slice lo hi none p2) pos) (dSl ta tl th) :=
  de_of (pe_slice (SlR.or sl_tupA sl_list) he hl hu) fun σ H Q σd Hd Qd rs rh q k => ⟨σd, Hd, _, rs, rh, q, fun v H1 d Hd1 s1 r1 rv q1 =>
    ⟨σd, Hd1, _, s1.repS rh rs, r1, q1, fun l H2 Hd2 s2 r2 q2 => ⟨σd, Hd2, _, (s1.trans s2).repS rh rs, r2, q2, fun u H3 Hd3 s3 r3 q3 => by
      have st := (s1.trans s2).trans s3
      have rv3 := (s2.trans s3).rep r1 rv
      unfold fSl at q3
      split at q3
      · obtain ⟨p, vs, rfl, h, w⟩ := rv3
        refine .inl ⟨p, vs, rfl, h, fun z => ?_, fun _ r hr => ?_⟩
        · refine k _ _ (.tup _) Hd3 st r3 ⟨p, vs, rfl, h, ?_⟩ q3
          unfold cutD
          rw [w.length, z.1, z.2, List.drop_zero, Nat.sub_zero, ← w.length, List.take_length]
          exact w
        · exact k _ _ (.tup _) Hd3 (st.trans (.lay hr)) (r3.lay hr) ⟨r, _, rfl, .of upd_same, (Stp.lay (Hd := Hd3) hr).repL r3 (w.cut l u)⟩ q3
      · obtain ⟨p, vs, rfl, h, w⟩ := rv3
        exact .inr ⟨p, vs, rfl, h.sq, fun r hr => k _ _ (.ref r) (upD Hd3 r (.lst _)) (st.trans (.layL hr)) (r3.layL hr (w.cut l u)) rfl (q3 r (r3.free hr))⟩
      · obtain ⟨ds, h, q3⟩ := q3
        obtain ⟨vs, e, w⟩ := r3 _ _ h
        exact .inr ⟨_, vs, rv3, .of e, fun r hr => k _ _ (.ref r) (upD Hd3 r (.lst _)) (st.trans (.layL hr)) (r3.layL hr (w.cut l u)) rfl (q3 r (r3.free hr))⟩
      · exact q3.elim⟩⟩⟩
end

/-! [::-1] -/
theorem fm_some {α β : Type} {f : α → Option β} {g : α → β} : ∀ l : List α, (∀ m ∈ l, f m = some (g m)) → l.filterMap f = l.map g
  | [], _ => rfl
  | x :: l, h => by
    rw [List.filterMap_cons, h x List.mem_cons_self, List.map_cons, fm_some l fun m hm => h m (List.mem_cons_of_mem _ hm)]
theorem back_pick (xs : Array Value) : ((List.range xs.size).filterMap fun (m : Nat) => xs[((xs.size : Int) - 1 + (m : Int) * -1).toNat]?).toArray = xs.toList.reverse.toArray := by
  congr 1
  rw [fm_some (g := fun m => (xs.toList.reverse[m]?).getD .none) (List.range xs.size) fun m hm => ?_]
  · apply List.ext_getElem?
    intro i
    by_cases h : i < xs.size
    · rw [List.getElem?_map, List.getElem?_range h]
      have h' : i < xs.toList.reverse.length := by simpa using h
      rw [List.getElem?_eq_getElem h', Option.map_some, List.getElem?_eq_getElem h', Option.getD_some]
    · rw [List.getElem?_eq_none (by simpa using h), List.getElem?_eq_none (by simpa using h)]
  · have h1 : m < xs.size := List.mem_range.mp hm
    have h2 : ((xs.size : Int) - 1 + (m : Int) * -1).toNat = xs.size - 1 - m := by omega
    have h3 : m < xs.toList.reverse.length := by simpa using h1
    rw [h2, Array.getElem?_eq_getElem (by omega), List.getElem?_eq_getElem h3, Option.getD_some, List.getElem_reverse]
    simp
section
variable {prog : Program} {w : World} {A : Around} {E : Value → Shared → Prop} {s : Shared}
theorem sliceApplied_back {sl : Addr} {tk : Tok} {n : Nat} {Q : Int × Int × Nat → Shared → Prop} (hs : s.heap.IsSliceOf sl .none .none (.int (-1) tk)) (h : Q ((n : Int) - 1, -1, n) s) :
    wpAny (model prog w) A (Builtin.Slice.sliceApplied (.ref sl) (pure (n : Int))) Q E s := by
  obtain ⟨os, hos, hcs, hds⟩ := id hs
  unfold Builtin.Slice.sliceApplied Builtin.Slice.sliceFields
  have f0 : os.data = .fields #[.none, .none, .int (-1) tk] := hds
  refine wpAny_bind (wpAny_bind (wpAny_field hos hds (x := .none) rfl ?_))
  refine wpAny_bind (wpAny_field hos hds (x := .none) rfl ?_)
  refine wpAny_bind (wpAny_field hos hds (x := .int (-1) tk) rfl (wpAny_pure ?_))
  refine wpAny_bind (slicePart_int ?_)
  show wpAny _ _ (if ((-1 : Int) == 0) = true then _ else _) _ _ s
  rw [if_neg (by decide)]
  refine wpAny_bind (slicePart_none (wpAny_bind (slicePart_none ?_)))
  refine wpAny_bind (wpAny_pure ?_)
  have adj : Builtin.Slice.sliceAdjust none none (-1) (n : Int) = ((n : Int) - 1, -1) := by
    unfold Builtin.Slice.sliceAdjust
    simp
  have pl : Builtin.Slice.slicePlaces ((n : Int) - 1) (-1) (-1) = n := by
    unfold Builtin.Slice.slicePlaces
    rw [if_neg (by decide)]
    by_cases z : (n : Int) - 1 > -1
    · rw [if_pos z]
      have : -(-1 : Int) = 1 := by decide
      rw [this, Int.ediv_one]
      omega
    · rw [if_neg z]
      omega
  show wpAny _ _ (match Builtin.Slice.sliceAdjust none none (-1) (n : Int) with | (lo, hi) => pure (lo, (-1 : Int), Builtin.Slice.slicePlaces lo hi (-1))) _ _ s
  rw [adj]
  show wpAny _ _ (pure ((n : Int) - 1, (-1 : Int), Builtin.Slice.slicePlaces ((n : Int) - 1) (-1) (-1))) _ _ s
  rw [pl]
  exact wpAny_pure h
theorem getItem_tuple_back {t sl : Addr} {items : Array Value} {tk : Tok} {Q : Value → Shared → Prop} (ht : IsTup s.heap t items) (hs : s.heap.IsSliceOf sl .none .none (.int (-1) tk)) (hsz : items.size ≤ sizeLine)
    (h : Q (.ref s.heap.objs.size) { s with heap := s.heap.push { cls := .type "tuple", data := .seq items.toList.reverse.toArray } }) : wpAny (model prog w) A (getItem (.ref t) (.ref sl)) Q E s := by
  obtain ⟨os, hos, hcs, hds⟩ := id hs
  have isSlice : s.TypeIs (.ref sl) "slice" := ⟨os, hos, hcs⟩
  have ok : sizeOk (.seq items.toList.reverse.toArray) := by
    show items.toList.reverse.toArray.size ≤ sizeLine
    simpa using hsz
  unfold getItem
  try with_reducible refine wpAny_holding ?_
  first | refine wpAny_bind (wpAny_pure ?_) | skip
  refine wpAny_bind (wpAny_sequenceKey ht.typeIs (by decide) (wpAny_bind ?_))
  refine wpAny_callSpecial?_slot (name := Str.ofString "__getitem__") ht.typeIs PyProof.Rows.slot_tuple_getitem ?_
  refine wpAny_call_entry PyProof.Rows.slot_tuple_getitem ht.typeIs entry_tuple_getitem ?_ (args_tuple_getitem _ _)
  show wpAny _ _ (Builtin.Tuple.tupleItemsOf (.ref t) >>= _) _ _ s
  refine wpAny_bind (tupleItemsOf_ ht (wpAny_bind (wpAny_typeOf isSlice ?_)))
  rw [if_pos (by decide)]
  refine wpAny_bind (sliceApplied_back hs ?_)
  have no : ¬ ((((items.size : Int) - 1 == 0) && ((-1 : Int) == 1) && (items.size == items.size)) = true) := by simp
  show wpAny _ _ (if (((items.size : Int) - 1 == 0) && ((-1 : Int) == 1) && (items.size == items.size)) = true then _ else _) _ _ s
  rw [if_neg no, back_pick]
  first
    | exact wpAny_bind (m := Builtin.Tuple.tupleExact _) (wpAny_newObj_type (wpAny_pure ⟨_, rfl, wpAny_pure h⟩) ok)
    | exact wpAny_bind (m := Builtin.Tuple.tupleExact _) (wpAny_newObj_type (wpAny_bind (wpAny_pure (wpAny_pure ⟨_, rfl, wpAny_pure h⟩))) ok)
    | exact wpAny_bind (wpAny_bind (m := Builtin.Tuple.tupleExact _) (wpAny_newObj_type (wpAny_pure (wpAny_pure ⟨_, rfl, wpAny_pure h⟩)) ok))
    | exact wpAny_bind (wpAny_bind (m := Builtin.Tuple.tupleExact _) (wpAny_newObj_type (wpAny_pure ⟨_, rfl, wpAny_pure h⟩) ok))
end
section
variable {X : Cx} {e : Expr} {ta : DTE} {pos : Pos}
def fBack (d : Dv) (H : DH) (Q : DVK) : Prop := match d with
  | .tup ds => Q (.tup ds.reverse) H
  | .lsv ds => ∀ r, H r = none → Q (.ref r) (upD H r (.lst ds.reverse))
  | .ref p => ∃ ds, H p = some (.lst ds) ∧ ∀ r, H r = none → Q (.ref r) (upD H r (.lst ds.reverse))
  | _ => False
def dBack (t : DTE) : DTE := fun σ H Q => t σ H fun d H1 => fBack d H1 Q
theorem de_back {k : Nat} {p1 p2 p3 : Pos} (he : DE X e ta) : DE X (.Subscript e (.Slice none none (some (.UnaryOp .USub (.Constant (.int 1) k p1) p2)) p3) pos) (dBack ta) := by
  refine ⟨fun pins s σ H Q I ⟨σd, Hd, Qd, rs, rh, q, kk⟩ => ?_⟩
  refine Subscript_ (thn (he.run pins s σ H (fun v H1 => ∃ d Hd1, Stp H Hd H1 Hd1 ∧ RepH X.K H1 Hd1 ∧ Rep X.K H1 d v ∧ fBack d Hd1 Qd) I ⟨σd, Hd, _, rs, rh, q, fun v H1 d Hd1 s1 r1 rv q1 => ⟨d, Hd1, s1, r1, rv, q1⟩⟩)
    fun v s1 ⟨x, H1, I1, rx, d, Hd1, st, r1, rv, q1⟩ => ?_)
  have hst : PO X (some (.UnaryOp .USub (.Constant (.int 1) k p1) p2)) (tPart (tUn (rU fun i => .int (-i)) (tC (.int 1)))) := po_some (pe_un un_neg pe_int)
  refine wpAny_Slice (thn (po_none.run pins s1 σ H1 (fun o H2 => o = none ∧ H2 = H1) I1 ⟨rfl, rfl⟩) fun vl s2 ⟨l, H2, I2, pl, el, e2⟩ => ?_)
  subst el e2
  refine thn (po_none.run pins s2 σ H2 (fun o H3 => o = none ∧ H3 = H2) I2 ⟨rfl, rfl⟩) fun vu s3 ⟨u, H3, I3, pu, eu, e3⟩ => ?_
  subst eu e3
  refine thn (hst.run pins s3 σ H3 (fun o H4 => o = some (-1) ∧ H4 = H3) I3 ⟨1, rfl, -1, rfl, rfl, rfl⟩) fun vs s4 ⟨o, H4, I4, ps, eo, e4⟩ => ?_
  subst eo e4
  have I5 : Inv X pins σ H4 { s4 with heap := s4.heap.push { cls := .type "slice", data := .fields #[vl, vu, vs] } } := I4.kept (t' := s4.toks) fun b ob q => Heap.get?_push_of_some _ q
  have fresh := I5.hok.fresh (Nat.le_refl _)
  have tuple : ∀ {a : Addr} {ws : List V}, x = .ref a → SqT X.K H4 a ws → (∀ p, H4 p = none → Q (.ref p) (upd H4 p (.tup ws.reverse))) →
      wpAny (model X.prog X.w) X.A (subscriptTail e (.Slice none none (some (.UnaryOp .USub (.Constant (.int 1) k p1) p2)) p3) v (.ref s4.heap.objs.size)) (EP X pins σ Q) X.xe { s4 with heap := s4.heap.push { cls := .type "slice", data := .fields #[vl, vu, vs] } } := fun {a ws} ex hx qq => by
    subst ex
    cases rx
    cases pl
    cases pu
    obtain ⟨its, r, ht, hz⟩ := I5.tuple hx
    cases ps
    refine tail_any (ops := [.ref a, .ref s4.heap.objs.size]) ht.typeIs (PyProof.Rows.slot_tuple_getitem.lookup) ?_ (by with_unfolding_all rfl)
    refine getItem_tuple_back ht (Heap.IsSliceOf.new _ _ _ _) (by rw [List.size_toArray, ← r.length]; exact hz) ?_
    refine ⟨.ref _, _, I5.laid (t' := s4.toks) (o := .tup ws.reverse) (fun b ob q => Heap.get?_push_of_some _ q) (Nat.le_refl _) ?_, rfl, qq _ fresh⟩
    exact ⟨by rw [List.length_reverse]; exact hz, _, r.reverse, ⟨_, Heap.get?_push_size _ rfl, rfl, _, rfl⟩⟩
  have list : ∀ {a : Addr} {ws : List V}, x = .ref a → SqL X.K H4 a ws → (∀ p, H4 p = none → Q (.ref p) (upd H4 p (.lst ws.reverse))) →
      wpAny (model X.prog X.w) X.A (subscriptTail e (.Slice none none (some (.UnaryOp .USub (.Constant (.int 1) k p1) p2)) p3) v (.ref s4.heap.objs.size)) (EP X pins σ Q) X.xe { s4 with heap := s4.heap.push { cls := .type "slice", data := .fields #[vl, vu, vs] } } := fun {a ws} ex hx qq => by
    subst ex
    cases rx
    obtain ⟨its, r, ht, hz⟩ := I5.list hx
    refine tail_any (ops := [.ref a, .ref s4.heap.objs.size]) ht.isList.typeIs (PySem.slot_list_getitem.lookup) ?_ (by with_unfolding_all rfl)
    refine wpAny_getItem_list_slice ht.isList (Heap.IsSliceOf.new _ vl vu vs) pl pu ps (by decide) ?_ (by rw [List.size_toArray, ← r.length]; exact hz)
    rw [PySem.W.krv_pick]
    refine ⟨.ref _, _, I5.laid (t' := s4.toks) (o := .lst ws.reverse) (fun b ob q => Heap.get?_push_of_some _ q) (Nat.le_refl _) ?_, rfl, qq _ fresh⟩
    exact ⟨by rw [List.length_reverse]; exact hz, _, 0, r.reverse, Heap.get?_push_size _ rfl⟩
  unfold fBack at q1
  split at q1
  · obtain ⟨a, ws, ex, h, w⟩ := rv
    exact tuple ex h fun p hp => kk _ _ (.tup _) Hd1 (st.trans (.lay hp)) (r1.lay hp) ⟨p, _, rfl, .of upd_same, (Stp.lay (Hd := Hd1) hp).repL r1 w.reverse⟩ q1
  · obtain ⟨a, ws, ex, h, w⟩ := rv
    exact list ex h.sq fun p hp => kk _ _ (.ref p) (upD Hd1 p (.lst _)) (st.trans (.layL hp)) (r1.layL hp w.reverse) rfl (q1 p (r1.free hp))
  · obtain ⟨ds, h, q1⟩ := q1
    obtain ⟨ws, e1, w⟩ := r1 _ _ h
    exact list rv (.of e1) fun p hp => kk _ _ (.ref p) (upD Hd1 p (.lst _)) (st.trans (.layL hp)) (r1.layL hp w.reverse) rfl (q1 p (r1.free hp))
  · exact q1.elim
end
end DL

set_option maxHeartbeats 4000000
namespace DL
open PySem PySem.Spec L2
open PyProof.Rows hiding St
/-! ## statements -/
section
variable {X : Cx} {st : Stmt} {rest body : List Stmt} {e c tg : Expr} {te : DTE} {tc : DTT} {t u tb : DTS} {g : DTG} {pos : Pos}
theorem ds_of {t : TS} {td : DTS} (h : PS X st t) (i : ∀ D σ H σd Hd Dd, RepS X.K H σd σ → RepH X.K H Hd → td Dd σd Hd → KS X.K H Hd Dd.nx D.nx → KE X.K H Hd Dd.rt D.rt → KS X.K H Hd Dd.bk D.bk → KS X.K H Hd Dd.ct D.ct → t D σ H) : DSt X st td :=
  ps_mono h fun D σ H ⟨σd, Hd, Dd, rs, rh, q, k1, k2, k3, k4⟩ => i D σ H σd Hd Dd rs rh q k1 k2 k3 k4
def dNext : DTS := fun D σ H => D.nx σ H
def dSeq (t u : DTS) : DTS := fun D σ H => t { D with nx := u D } σ H
theorem dss_nil : DSs X [] dNext := pss_mono pss_nil fun D σ H ⟨σd, Hd, Dd, rs, rh, q, k1, _⟩ => k1 σ H σd Hd .refl rh rs q
theorem dss_cons (h : DSt X st t) (h' : DSs X rest u) : DSs X (st :: rest) (dSeq t u) :=
  pss_mono (pss_cons h h') fun D σ H ⟨σd, Hd, Dd, rs, rh, q, k1, k2, k3, k4⟩ =>
    ⟨σd, Hd, { Dd with nx := u Dd }, rs, rh, q, fun σ' H' σd' Hd' s' r' rs' q' => ⟨σd', Hd', Dd, rs', r', q', k1.at s', k2.at s', k3.at s', k4.at s'⟩, k2, k3, k4⟩
theorem dss_one (h : DSt X st t) : DSs X [st] t := pss_one h
def dBreak : DTS := fun D σ H => D.bk σ H
def dCont : DTS := fun D σ H => D.ct σ H
theorem ds_pass : DSt X (.Pass pos) dNext := ds_of ps_pass fun D σ H σd Hd Dd rs rh q k1 _ _ _ => k1 σ H σd Hd .refl rh rs q
theorem ds_break : DSt X (.Break pos) dBreak := ds_of ps_break fun D σ H σd Hd Dd rs rh q _ _ k3 _ => k3 σ H σd Hd .refl rh rs q
theorem ds_continue : DSt X (.Continue pos) dCont := ds_of ps_continue fun D σ H σd Hd Dd rs rh q _ _ _ k4 => k4 σ H σd Hd .refl rh rs q
theorem ds_doc {x j pos pos'} : DSt X (.Expr (.Constant (.str x) j pos) pos') dNext := ds_of ps_doc fun D σ H σd Hd Dd rs rh q k1 _ _ _ => k1 σ H σd Hd .refl rh rs q
def dDrop (te : DTE) : DTS := fun D σ H => te σ H fun _ H1 => D.nx σ H1
theorem ds_expr (he : DE X e te) (hs : swapsWith e none pos.line X.env = pure false := by rfl) : DSt X (.Expr e pos) (dDrop te) :=
  ds_of (ps_expr he hs) fun D σ H σd Hd Dd rs rh q k1 _ _ _ => ⟨σd, Hd, _, rs, rh, q, fun v H1 d Hd1 s1 r1 _ q1 => k1 σ H1 σd Hd1 s1 r1 (s1.repS rh rs) q1⟩
def dRet (te : DTE) : DTS := fun D σ H => te σ H D.rt
theorem ds_ret (he : DE X e te) : DSt X (.Return (some e) pos) (dRet te) :=
  ds_of (ps_ret he) fun D σ H σd Hd Dd rs rh q _ k2 _ _ => ⟨σd, Hd, _, rs, rh, q, k2⟩
def dRetN : DTS := fun D _ H => D.rt .non H
theorem ds_retN : DSt X (.Return none pos) dRetN := ds_of ps_retN fun D σ H σd Hd Dd rs rh q _ k2 _ _ => k2 _ _ .non _ .refl rh rfl q
def dIf (c : DTT) (t u : DTS) : DTS := fun D σ H => c σ H fun b H1 => (b = true → t D σ H1) ∧ (b = false → u D σ H1)
theorem ds_if {a b : List Stmt} (hc : DT X c tc) (ha : DSs X a t) (hb : DSs X b u) : DSt X (.If c a b pos) (dIf tc t u) :=
  ds_of (ps_if hc ha hb) fun D σ H σd Hd Dd rs rh q k1 k2 k3 k4 => ⟨σd, Hd, _, rs, rh, q, fun k H1 Hd1 s1 r1 q1 => by
    cases k with
    | true => rw [if_pos rfl]; exact ⟨σd, Hd1, Dd, s1.repS rh rs, r1, q1.1 rfl, k1.at s1, k2.at s1, k3.at s1, k4.at s1⟩
    | false => rw [if_neg Bool.false_ne_true]; exact ⟨σd, Hd1, Dd, s1.repS rh rs, r1, q1.2 rfl, k1.at s1, k2.at s1, k3.at s1, k4.at s1⟩⟩
/-- ways joined: what holds behind the statement is said -/
def dCut (t u : DTS) : DTS := fun D σ H => ∃ M : DS → DH → Prop, t { D with nx := M } σ H ∧ ∀ σ' H', M σ' H' → u D σ' H'
theorem dss_cut (h : DSt X st t) (h' : DSs X rest u) : DSs X (st :: rest) (dCut t u) :=
  pss_mono (pss_cons h h') fun D σ H ⟨σd, Hd, Dd, rs, rh, ⟨M, q, m⟩, k1, k2, k3, k4⟩ =>
    ⟨σd, Hd, { Dd with nx := M }, rs, rh, q, fun σ' H' σd' Hd' s' r' rs' q' => ⟨σd', Hd', Dd, rs', r', m _ _ q', k1.at s', k2.at s', k3.at s', k4.at s'⟩, k2, k3, k4⟩
/-- a way that is not gone -/
def dNever : DTS := fun _ _ _ => False
theorem ds_never : DSt X st dNever := ds_of ps_never fun D σ H σd Hd Dd rs rh q _ _ _ _ => q
theorem dss_never {sts : List Stmt} : DSs X sts dNever := pss_mono pss_never fun D σ H ⟨σd, Hd, Dd, rs, rh, q, _⟩ => q

/-! ## targets -/
theorem dg_of {t : TG} {td : DTG} (h : PG X tg t) (i : ∀ v σ H Q d σd Hd Qd, Rep X.K H d v → RepS X.K H σd σ → RepH X.K H Hd → td d σd Hd Qd → KS X.K H Hd Qd Q → t v σ H Q) : DG X tg td :=
  pg_mono h fun v σ H Q ⟨d, σd, Hd, Qd, r, rs, rh, q, k⟩ => i v σ H Q d σd Hd Qd r rs rh q k
def dgName (i : Nat) : DTG := fun d σ H Q => Q (σ.set i (some d)) H
theorem dg_name {i : Nat} (h : PG X tg (gName i)) : DG X tg (dgName i) := dg_of h fun v σ H Q d σd Hd Qd r rs rh q k => k _ H _ Hd .refl rh (rs.set i r) q
abbrev DTGs := List Dv → DS → DH → (DS → DH → Prop) → Prop
def lGs (K : PySem.W.Frag) (g : DTGs) : TGs := fun vs σ H Q => ∃ ds σd Hd Qd, RepL K H ds vs ∧ RepS K H σd σ ∧ RepH K H Hd ∧ g ds σd Hd Qd ∧ KS K H Hd Qd Q
abbrev DGs (X : Cx) (es : List Expr) (t : DTGs) : Prop := PGs X es (lGs X.K t)
theorem pgs_mono {es : List Expr} {t t' : TGs} (h : PGs X es t) (i : ∀ vs σ H Q, t' vs σ H Q → t vs σ H Q) : PGs X es t' := ⟨fun p s σ H v u Q I r q => h.run p s σ H v u Q I r (i v σ H Q q)⟩
def dgNil : DTGs := fun ds σ H Q => ds = [] ∧ Q σ H
def dgCons (t : DTG) (u : DTGs) : DTGs := fun ds σ H Q => match ds with
  | d :: r => t d σ H fun σ' H' => u r σ' H' Q
  | [] => False
theorem dgs_nil : DGs X [] dgNil := pgs_mono pgs_nil fun vs σ H Q ⟨ds, σd, Hd, Qd, rl, rs, rh, ⟨e, q⟩, k⟩ => by
  subst e
  exact ⟨rl, k _ _ _ _ .refl rh rs q⟩
theorem dgs_cons {es : List Expr} {u : DTGs} (h : DG X e g) (h' : DGs X es u) (hs : (assignEach (e :: es) X.env).map (·.2) = assign e X.env :: (assignEach es X.env).map (·.2) := by rfl) : DGs X (e :: es) (dgCons g u) :=
  pgs_mono (pgs_cons h h' hs) fun vs σ H Q ⟨ds, σd, Hd, Qd, rl, rs, rh, q, k⟩ => by
    cases ds with
    | nil => exact q.elim
    | cons d ds =>
      obtain ⟨v, r, rfl, r1, r2⟩ := rl
      exact ⟨v, r, rfl, d, σd, Hd, _, r1, rs, rh, q, fun σ1 H1 σd1 Hd1 s1 rh1 rs1 q1 => ⟨ds, σd1, Hd1, Qd, s1.repL rh r2, rs1, rh1, q1, k.at s1⟩⟩
def dgTup (n : Nat) (u : DTGs) : DTG := fun d σ H Q => match d with
  | .tup ds => ds.length = n ∧ u ds σ H Q
  | _ => False
theorem dg_tup {es : List Expr} {k : Nat} {u : DTGs} {n : Nat} (hc : X.calm = true) (h : DGs X es u) (hn : (assignEach es X.env).length = n := by rfl) (hst : (assignEach es X.env).findIdx? (·.1) = none := by rfl) : DG X (.Tuple es k pos) (dgTup n u) :=
  dg_of (pg_tup hc h hn hst) fun v σ H Q d σd Hd Qd r rs rh q k => by
    cases d with
    | tup ds =>
      obtain ⟨a, vs, rfl, hq, rl⟩ := r
      exact ⟨a, vs, rfl, hq, by rw [← rl.length]; exact q.1, ds, σd, Hd, Qd, rl, rs, rh, q.2, k⟩
    | _ => exact q.elim
/-- l[i] = .. -/
def dgSub (to ti : DTE) : DTG := fun d σ H Q => to σ H fun o H1 => ti σ H1 fun i H2 => match o, i with
  | .ref p, .int k => ∃ ds j, H2 p = some (.lst ds) ∧ ixN ds.length k = some j ∧ Q σ (upD H2 p (.lst (ds.set j d)))
  | _, _ => False
theorem dg_sub {o i : Expr} {to ti : DTE} (ho : DE X o to) (hi : DE X i ti) (ha : ∀ v, assign (.Subscript o i pos) X.env v = (do
      let ov ← holding [v] (eval o X.env)
      let iv ← holding [v, ov] (eval i X.env)
      standAt pos
      holding [v, ov, iv] (setItem ov iv v)
      release [v, ov, iv] []) := by intro _; rfl) : DG X (.Subscript o i pos) (dgSub to ti) :=
  dg_of (pg_sub ho hi set_list ha) fun v σ H Q d σd Hd Qd r rs rh q k => ⟨σd, Hd, _, rs, rh, q, fun x H1 dx Hd1 s1 r1 rx q1 => ⟨σd, Hd1, _, s1.repS rh rs, r1, q1, fun y H2 dy Hd2 s2 r2 ry q2 => by
    have st := s1.trans s2
    split at q2
    · obtain ⟨ds, j, h, hj, q2⟩ := q2
      obtain ⟨vs, e1, l⟩ := r2 _ _ h
      refine ⟨_, vs, _, j, rx, ry, e1, by rw [← l.length]; exact hj, ?_⟩
      have sp : Stp H2 Hd2 (upd H2 _ (.lst (vs.set j v))) (upD Hd2 _ (.lst (ds.set j d))) := Stp.put h
      exact k _ _ _ _ (st.trans sp) (r2.put h (l.set j (st.rep rh r))) ((st.trans sp).repS rh rs) q2
    · exact q2.elim⟩⟩
def dAsg (te : DTE) (g : DTG) : DTS := fun D σ H => te σ H fun d H1 => g d σ H1 D.nx
theorem asg_of {te : DTE} {g : DTG} {D : Ends} {σ : St} {H : Hp} (h : lS X.K (dAsg te g) D σ H) : tAsg (lE X.K te) (lG X.K g) D σ H := by
  obtain ⟨σd, Hd, Dd, rs, rh, q, k1, _⟩ := h
  exact ⟨σd, Hd, _, rs, rh, q, fun v H1 d Hd1 s1 r1 rv q1 => ⟨d, σd, Hd1, _, rv, s1.repS rh rs, r1, q1, k1.at s1⟩⟩
theorem ds_asg (he : DE X e te) (hg : DG X tg g) (hs : swapsWithSole [tg] e pos.line X.env = pure false := by rfl) (hw : swappedStores [tg] e X.env = pure none := by rfl) (h1 : (assignEach [tg] X.env).map (·.2) = [assign tg X.env] := by rfl) :
    DSt X (.Assign [tg] e pos) (dAsg te g) := ps_mono (ps_asg he hg hs hw h1) fun _ _ _ h => asg_of h
def dSet (i : Nat) (te : DTE) : DTS := fun D σ H => te σ H fun d H1 => D.nx (σ.set i (some d)) H1
theorem ds_setOf {i : Nat} {st : Stmt} (h : PS X st (tAsg (lE X.K te) (gName i))) : DSt X st (dSet i te) :=
  ds_of h fun D σ H σd Hd Dd rs rh q k1 _ _ _ => ⟨σd, Hd, _, rs, rh, q, fun v H1 d Hd1 s1 r1 rv q1 => k1 _ _ _ _ s1 r1 ((s1.repS rh rs).set i rv) q1⟩
theorem ds_set {i : Nat} {x : Str} {pos' : Pos} (hN : X.N.Nodup) (hi : X.N[i]? = some x) (hx : Loc X.env.scope x) (he : DE X e te) (hs : swapsWith e (some (.Name x pos')) pos.line X.env = pure false := by rfl)
    (hf : X.fn x = true ∨ X.env.scope.names.lookup x = some .local := by first | exact .inl rfl | exact .inr rfl | assumption) : DSt X (.Assign [.Name x pos'] e pos) (dSet i te) := ds_setOf (ps_set hN hi hx he hs hf)
/-- a, b = x, y; a, b, c = x, y, z with plain local names -/
def dPar (ix : List Nat) (t : DTA) : DTS := fun D σ H => t σ H fun ds H1 => ds.length = ix.length ∧ D.nx ((ix.zip ds).foldl (fun s p => s.set p.1 (some p.2)) σ) H1
theorem ds_par {i j : Nat} {x y : Str} {a b : Expr} {ta : DTA} {px py pt : Pos} {kt k2 pt2} (hc : X.calm = true) (hN : X.N.Nodup) (hi : X.N[i]? = some x) (hj : X.N[j]? = some y) (hij : i ≠ j)
    (hx : X.env.scope.names.lookup x = some .local) (hy : X.env.scope.names.lookup y = some .local) (ha : DA X [a, b] ta)
    (hw : swappedStores [.Tuple [.Name x px, .Name y py] kt pt] (.Tuple [a, b] k2 pt2) X.env = pure (some [x, y]) := by rfl)
    (hs : swapsWithSole [.Tuple [.Name x px, .Name y py] kt pt] (.Tuple [a, b] k2 pt2) pos.line X.env = pure false := by rfl) :
    DSt X (.Assign [.Tuple [.Name x px, .Name y py] kt pt] (.Tuple [a, b] k2 pt2) pos) (dPar [i, j] ta) :=
  ds_of (ps_par hc hN hi hj hij hx hy ha hw hs) fun D σ H σd Hd Dd rs rh q k1 _ _ _ => ⟨σd, Hd, _, rs, rh, q, fun vs H1 ds Hd1 s1 r1 rl ⟨n, q1⟩ => by
    match ds, n, q1, rl with
    | [d1, d2], _, q1, rl =>
      obtain ⟨v, r, rfl, g1, w, r', rfl, g2, g3⟩ := rl
      have g3' : r' = [] := g3
      subst g3'
      exact ⟨v, w, rfl, k1 _ _ _ _ s1 r1 (((s1.repS rh rs).set i g1).set j g2) q1⟩⟩
theorem ds_par3 {i j l : Nat} {x y z : Str} {a b c : Expr} {ta : DTA} {px py pz pt pos : Pos} {kt k2 pt2} (hc : X.calm = true) (hN : X.N.Nodup) (hi : X.N[i]? = some x) (hj : X.N[j]? = some y) (hl : X.N[l]? = some z) (hij : i ≠ j) (hil : i ≠ l) (hjl : j ≠ l)
    (hx : X.env.scope.names.lookup x = some .local) (hy : X.env.scope.names.lookup y = some .local) (hz : X.env.scope.names.lookup z = some .local) (ha : DA X [a, b, c] ta)
    (hw : swappedStores [.Tuple [.Name x px, .Name y py, .Name z pz] kt pt] (.Tuple [a, b, c] k2 pt2) X.env = pure (some [x, y, z]) := by rfl)
    (hs : swapsWithSole [.Tuple [.Name x px, .Name y py, .Name z pz] kt pt] (.Tuple [a, b, c] k2 pt2) pos.line X.env = pure false := by rfl) :
    DSt X (.Assign [.Tuple [.Name x px, .Name y py, .Name z pz] kt pt] (.Tuple [a, b, c] k2 pt2) pos) (dPar [i, j, l] ta) :=
  ds_of (ps_par3 hc hN hi hj hl hij hil hjl hx hy hz ha hw hs) fun D σ H σd Hd Dd rs rh q k1 _ _ _ => ⟨σd, Hd, _, rs, rh, q, fun vs H1 ds Hd1 s1 r1 rl ⟨n, q1⟩ => by
    match ds, n, q1, rl with
    | [d1, d2, d3], _, q1, rl =>
      obtain ⟨u, r, rfl, g1, v, r', rfl, g2, w, r'', rfl, g3, g4⟩ := rl
      have g4' : r'' = [] := g4
      subst g4'
      exact ⟨u, v, w, rfl, k1 _ _ _ _ s1 r1 ((((s1.repS rh rs).set i g1).set j g2).set l g3) q1⟩⟩
/-- x op= e -/
def dAug (i : Nat) (te : DTE) (f : D2) : DTS := fun D σ H => ∃ d, σ[i]? = some (some d) ∧ te σ H fun y H1 => f d y H1 fun z H2 => D.nx (σ.set i (some z)) H2
theorem ds_aug {i : Nat} {x : Str} {op : Operator} {r : R2} {f : D2} {pos' : Pos} (ho : OpR X (inplaceOp op) r) (hf : R2Ok X.K r f) (hN : X.N.Nodup) (hi : X.N[i]? = some x) (hx : Loc X.env.scope x) (he : DE X e te)
    (hl : X.fn x = true ∨ X.env.scope.names.lookup x = some .local := by first | exact .inl rfl | exact .inr rfl | assumption) : DSt X (.AugAssign (.Name x pos') op e pos) (dAug i te f) :=
  ds_of (ps_aug (ti := r) hN hi hx he (fun pins s σ H x y v u Q I rx ry q => ho pins s σ H x y v u Q I rx ry q) hl) fun D σ H σd Hd Dd rs rh ⟨d, e1, q⟩ k1 _ _ _ => by
    obtain ⟨v, e2, r⟩ := rs.2 i d e1
    refine ⟨v, e2, σd, Hd, _, rs, rh, q, fun y H1 dy Hd1 s1 r1 ry q1 => ?_⟩
    exact hf H1 Hd1 v y d dy _ _ r1 (s1.rep rh r) ry q1 fun z H2 dz Hd2 s2 r2 rz q2 => k1 _ _ _ _ (s1.trans s2) r2 (((s1.trans s2).repS rh rs).set i rz) q2
end

/-! ## loops -/
/-- what is walked: n turns, the i-th thing, what must stand meanwhile -/
structure DIt where
  n : Nat
  f : Nat → Dv
  G : DH → Prop
abbrev DTI := DS → DH → (DIt → DH → Prop) → Prop
structure JW (K : PySem.W.Frag) (H0 : Hp) (Hd0 : DH) (J : It) (D : DIt) : Prop where
  go : ∀ H Hd, Stp H0 Hd0 H Hd → RepH K H Hd → D.G Hd → ∀ i, i < D.n → J.go i H
  stop : ∀ H Hd, Stp H0 Hd0 H Hd → RepH K H Hd → D.G Hd → J.stop D.n H
  yld : ∀ H Hd, Stp H0 Hd0 H Hd → RepH K H Hd → D.G Hd → ∀ i x H', i < D.n → J.yld i H x H' → Stp H Hd H' Hd ∧ RepH K H' Hd ∧ Rep K H' (D.f i) x
def lI (K : PySem.W.Frag) (t : DTI) : TI := fun σ H R => ∃ σd Hd Rd, RepS K H σd σ ∧ RepH K H Hd ∧ t σd Hd Rd ∧ ∀ J H' D Hd', Stp H Hd H' Hd' → RepH K H' Hd' → JW K H' Hd' J D → Rd D Hd' → R J H'
abbrev DI (X : Cx) (tg e : Expr) (t : DTI) : Prop := PI X tg e (lI X.K t)
theorem pi_mono {X : Cx} {tg e : Expr} {t t' : TI} (h : PI X tg e t) (i : ∀ σ H R, t' σ H R → t σ H R) : PI X tg e t' := ⟨fun p s σ H R I q => h.run p s σ H R I (i σ H R q)⟩
def dFor (it : DTI) (g : DTG) (tb : DTS) : DTS := fun D σ H => it σ H fun I H1 => ∃ Pv : Nat → DS → DH → Prop, Pv 0 σ H1 ∧ (∀ i σ H, i ≤ I.n → Pv i σ H → I.G H) ∧
  (∀ i σ H, i < I.n → Pv i σ H → g (I.f i) σ H fun σ2 H2 => tb { D with nx := Pv (i + 1), ct := Pv (i + 1), bk := D.nx } σ2 H2) ∧ ∀ σ H, Pv I.n σ H → D.nx σ H
section
variable {X : Cx} {body : List Stmt} {iter tg c : Expr} {it : DTI} {g : DTG} {tb : DTS} {tc : DTT} {pos : Pos}
theorem ds_for (hp : PassesOwn (model X.prog X.w) X.A X.env X.xe) (hc : X.calm = true) (hi : DI X tg iter it) (hg : DG X tg g) (hb : DSs X body tb) (hs : ∀ x, foldedSetIterable iter X.env x = pure x := by intro _; rfl) :
    DSt X (.For tg iter body [] pos) (dFor it g tb) :=
  ds_of (ps_for hp hc hi hg hb hs) fun D σ H σd Hd Dd rs rh q k1 k2 k3 k4 => ⟨σd, Hd, _, rs, rh, q, fun J H1 I Hd1 s1 r1 w ⟨Pv, p0, hG, step, fin⟩ => by
    have base : RepS X.K H1 σd σ := s1.repS rh rs
    refine ⟨fun i m σ' H' => ∃ σd' Hd', m = I.n - i ∧ i ≤ I.n ∧ Stp H1 Hd1 H' Hd' ∧ RepH X.K H' Hd' ∧ RepS X.K H' σd' σ' ∧ Pv i σd' Hd', ⟨_, σd, Hd1, rfl, Nat.zero_le _, .refl, r1, base, p0⟩, ?_⟩
    rintro i m σ' H' ⟨σd', Hd', rfl, hi, s', r', rs', p⟩
    have gg := hG i σd' Hd' hi p
    by_cases hlt : i < I.n
    · refine .inr ⟨w.go H' Hd' s' r' gg i hlt, fun σ2 H2 => ∃ σd2 Hd2, Stp H1 Hd1 H2 Hd2 ∧ RepH X.K H2 Hd2 ∧ RepS X.K H2 σd2 σ2 ∧ Pv (i + 1) σd2 Hd2, ?_, fun x H2 y => ?_⟩
      · rintro σ2 H2 ⟨σd2, Hd2, s2, r2, rs2, p2⟩
        exact ⟨I.n - (i + 1), by omega, σd2, Hd2, rfl, hlt, s2, r2, rs2, p2⟩
      · obtain ⟨s2, r2, rx⟩ := w.yld H' Hd' s' r' gg i x H2 hlt y
        refine ⟨I.f i, σd', Hd', _, rx, s2.repS r' rs', r2, step i σd' Hd' hlt p, fun σ3 H3 σd3 Hd3 s3 r3 rs3 q3 => ?_⟩
        have st : Stp H1 Hd1 H3 Hd3 := (s'.trans s2).trans s3
        have st0 := s1.trans st
        refine ⟨σd3, Hd3, _, rs3, r3, q3, ?_, k2.at st0, k1.at st0, ?_⟩
        · exact fun σ4 H4 σd4 Hd4 s4 r4 rs4 q4 => ⟨σd4, Hd4, st.trans s4, r4, rs4, q4⟩
        · exact fun σ4 H4 σd4 Hd4 s4 r4 rs4 q4 => ⟨σd4, Hd4, st.trans s4, r4, rs4, q4⟩
    · have e : i = I.n := by omega
      subst e
      exact .inl ⟨w.stop H' Hd' s' r' gg, k1 _ _ _ _ (s1.trans s') r' rs' (fin _ _ p)⟩⟩
def dWhile (c : DTT) (tb : DTS) : DTS := fun D σ H => ∃ (Pv : DS → DH → Prop) (μ : DS → DH → Nat), Pv σ H ∧ ∀ σ H, Pv σ H →
  c σ H fun b H1 => (b = true → tb { D with nx := fun σ' H' => Pv σ' H' ∧ μ σ' H' < μ σ H, ct := fun σ' H' => Pv σ' H' ∧ μ σ' H' < μ σ H, bk := D.nx } σ H1) ∧ (b = false → D.nx σ H1)
theorem ds_while (hp : PassesOwn (model X.prog X.w) X.A X.env X.xe) (hc : DT X c tc) (hb : DSs X body tb) : DSt X (.While c body [] pos) (dWhile tc tb) :=
  ds_of (ps_while hp hc hb) fun D σ H σd Hd Dd rs rh ⟨Pv, μ, p0, step⟩ k1 k2 k3 k4 => by
    refine ⟨fun m σ' H' => ∃ σd' Hd', m = μ σd' Hd' ∧ Stp H Hd H' Hd' ∧ RepH X.K H' Hd' ∧ RepS X.K H' σd' σ' ∧ Pv σd' Hd', ⟨_, σd, Hd, rfl, .refl, rh, rs, p0⟩, ?_⟩
    rintro m σ' H' ⟨σd', Hd', rfl, s', r', rs', p⟩
    refine ⟨σd', Hd', _, rs', r', step σd' Hd' p, fun b H1 Hd1 s1 r1 q1 => ?_⟩
    have st := s'.trans s1
    cases b with
    | false => exact iteF (k1 _ _ _ _ st r1 (s1.repS r' rs') (q1.2 rfl))
    | true =>
      refine iteT ⟨fun σ2 H2 => ∃ σd2 Hd2, μ σd2 Hd2 < μ σd' Hd' ∧ Stp H Hd H2 Hd2 ∧ RepH X.K H2 Hd2 ∧ RepS X.K H2 σd2 σ2 ∧ Pv σd2 Hd2, ?_, ?_⟩
      · rintro σ2 H2 ⟨σd2, Hd2, hm, s2, r2, rs2, p2⟩
        exact ⟨_, hm, σd2, Hd2, rfl, s2, r2, rs2, p2⟩
      · refine ⟨σd', Hd1, _, s1.repS r' rs', r1, q1.1 rfl, ?_, k2.at st, k1.at st, ?_⟩
        · exact fun σ4 H4 σd4 Hd4 s4 r4 rs4 q4 => ⟨σd4, Hd4, q4.2, st.trans s4, r4, rs4, q4.1⟩
        · exact fun σ4 H4 σd4 Hd4 s4 r4 rs4 q4 => ⟨σd4, Hd4, q4.2, st.trans s4, r4, rs4, q4.1⟩
end
/-! ## comprehensions -/
def dYes : DTT := fun _ H Q => Q true H
def lTs (K : PySem.W.Frag) (t : DTT) : TT := lT K t
abbrev DTs (X : Cx) (ifs : List Expr) (t : DTT) : Prop := PTs X ifs (lT X.K t)
theorem dts_nil {X : Cx} : DTs X [] dYes := ⟨fun p s σ H Q I ⟨σd, Hd, Qd, rs, rh, q, k⟩ => pts_nil.run p s σ H Q I (k true H Hd .refl rh q)⟩
theorem dts_one {X : Cx} {c : Expr} {t : DTT} (h : DT X c t) : DTs X [c] t := pts_one h
def wipeD (σ : DS) : List Nat → DS
  | [] => σ
  | v :: vs => (wipeD σ vs).set v none
theorem RepS.wipe {K : PySem.W.Frag} {H : Hp} {σd : DS} {σ : St} (h : RepS K H σd σ) : ∀ vs : List Nat, RepS K H (wipeD σd vs) (L2.wipe σ vs)
  | [] => h
  | v :: vs => by
    have ih := h.wipe vs
    refine ⟨by show ((wipeD σd vs).set v none).length = ((L2.wipe σ vs).set v none).length; rw [List.length_set, List.length_set]; exact ih.1, fun i d e => ?_⟩
    have e' : ((wipeD σd vs).set v none)[i]? = some (some d) := e
    by_cases hv : v = i
    · subst hv
      by_cases hl : v < (wipeD σd vs).length
      · rw [List.getElem?_set_self hl] at e'; cases e'
      · rw [List.getElem?_eq_none (by rw [List.length_set]; omega)] at e'; cases e'
    · rw [List.getElem?_set_ne hv] at e'
      obtain ⟨w, q1, q2⟩ := ih.2 i d e'
      exact ⟨w, by show ((L2.wipe σ vs).set v none)[i]? = _; rw [List.getElem?_set_ne hv]; exact q1, q2⟩
/-- the target of a comprehension: only the places vs are stored to -/
def lGc (K : PySem.W.Frag) (vs : List Nat) (g : DTG) : TG := fun v σ H Q => ∃ d σd Hd Qd, Rep K H d v ∧ RepS K H σd σ ∧ RepH K H Hd ∧ g d σd Hd Qd ∧
  ∀ σ' H' σd' Hd', L2.wipe σ' vs = L2.wipe σ vs → Stp H Hd H' Hd' → RepH K H' Hd' → RepS K H' σd' σ' → Qd σd' Hd' → Q σ' H'
def lGcs (K : PySem.W.Frag) (vs : List Nat) (g : DTGs) : TGs := fun xs σ H Q => ∃ ds σd Hd Qd, RepL K H ds xs ∧ RepS K H σd σ ∧ RepH K H Hd ∧ g ds σd Hd Qd ∧
  ∀ σ' H' σd' Hd', L2.wipe σ' vs = L2.wipe σ vs → Stp H Hd H' Hd' → RepH K H' Hd' → RepS K H' σd' σ' → Qd σd' Hd' → Q σ' H'
theorem wipe_at (σ : St) : ∀ (vs : List Nat) (j : Nat), (L2.wipe σ vs)[j]? = if j ∈ vs then σ[j]?.map (fun _ => none) else σ[j]?
  | [], j => by rw [if_neg (List.not_mem_nil)]; rfl
  | v :: vs, j => by
    have ih := wipe_at σ vs j
    show ((L2.wipe σ vs).set v none)[j]? = _
    by_cases h : v = j
    · subst h
      rw [if_pos List.mem_cons_self]
      by_cases hl : v < σ.length
      · rw [List.getElem?_set_self (by rw [wipe_length]; exact hl), List.getElem?_eq_getElem hl]; rfl
      · rw [List.getElem?_eq_none (by rw [List.length_set, wipe_length]; omega), List.getElem?_eq_none (by omega)]; rfl
    · rw [List.getElem?_set_ne h, ih]
      by_cases m : j ∈ vs
      · rw [if_pos m, if_pos (List.mem_cons_of_mem _ m)]
      · rw [if_neg m, if_neg (by simp only [List.mem_cons, not_or]; exact ⟨fun e => h e.symm, m⟩)]
theorem wipe_set (σ : St) {vs : List Nat} {i : Nat} (x : Option V) (h : i ∈ vs) : L2.wipe (σ.set i x) vs = L2.wipe σ vs := by
  apply List.ext_getElem?
  intro j
  rw [wipe_at, wipe_at]
  by_cases e : i = j
  · subst e
    rw [if_pos h, if_pos h]
    by_cases hl : i < σ.length
    · rw [List.getElem?_set_self hl, List.getElem?_eq_getElem hl]; rfl
    · rw [List.getElem?_eq_none (by rw [List.length_set]; omega), List.getElem?_eq_none (by omega)]
  · rw [List.getElem?_set_ne e]
section
variable {X : Cx} {vs : List Nat} {e tg : Expr} {g : DTG} {pos : Pos}
theorem dgc_name {i : Nat} (h : PG X tg (gName i)) (hi : i ∈ vs := by decide) : PG X tg (lGc X.K vs (dgName i)) := pg_mono h fun v σ H Q ⟨d, σd, Hd, Qd, r, rs, rh, q, k⟩ => k _ H _ Hd (wipe_set σ (some v) hi) .refl rh (rs.set i r) q
theorem dgcs_nil : PGs X [] (lGcs X.K vs dgNil) := pgs_mono pgs_nil fun xs σ H Q ⟨ds, σd, Hd, Qd, rl, rs, rh, ⟨e, q⟩, k⟩ => by
  subst e
  exact ⟨rl, k _ _ _ _ rfl .refl rh rs q⟩
theorem dgcs_cons {es : List Expr} {u : DTGs} (h : PG X e (lGc X.K vs g)) (h' : PGs X es (lGcs X.K vs u)) (hs : (assignEach (e :: es) X.env).map (·.2) = assign e X.env :: (assignEach es X.env).map (·.2) := by rfl) : PGs X (e :: es) (lGcs X.K vs (dgCons g u)) :=
  pgs_mono (pgs_cons h h' hs) fun xs σ H Q ⟨ds, σd, Hd, Qd, rl, rs, rh, q, k⟩ => by
    cases ds with
    | nil => exact q.elim
    | cons d ds =>
      obtain ⟨v, r, rfl, r1, r2⟩ := rl
      exact ⟨v, r, rfl, d, σd, Hd, _, r1, rs, rh, q, fun σ1 H1 σd1 Hd1 w1 s1 rh1 rs1 q1 => ⟨ds, σd1, Hd1, Qd, s1.repL rh r2, rs1, rh1, q1, fun σ2 H2 σd2 Hd2 w2 s2 => k σ2 H2 σd2 Hd2 (w2.trans w1) (s1.trans s2)⟩⟩
theorem dgc_tup {es : List Expr} {k : Nat} {u : DTGs} {n : Nat} (hc : X.calm = true) (h : PGs X es (lGcs X.K vs u)) (hn : (assignEach es X.env).length = n := by rfl) (hst : (assignEach es X.env).findIdx? (·.1) = none := by rfl) : PG X (.Tuple es k pos) (lGc X.K vs (dgTup n u)) :=
  pg_mono (pg_tup hc h hn hst) fun v σ H Q ⟨d, σd, Hd, Qd, r, rs, rh, q, k⟩ => by
    cases d with
    | tup ds =>
      obtain ⟨a, vs, rfl, hq, rl⟩ := r
      exact ⟨a, vs, rfl, hq, by rw [← rl.length]; exact q.1, ds, σd, Hd, Qd, rl, rs, rh, q.2, k⟩
    | _ => exact q.elim
end
/-- a comprehension; fin: what comes of the items at the end -/
def dLcG (fin : List Dv → DH → DVK → Prop) (it : DTI) (vs : List Nat) (g : DTG) (tt : DTT) (te : DTE) : DTE := fun σ H Q => it σ H fun I H1 => ∃ Pv : Nat → List Dv → DH → Prop, Pv 0 [] H1 ∧ (∀ i acc H, i ≤ I.n → Pv i acc H → I.G H) ∧
  (∀ i acc H, i < I.n → Pv i acc H → g (I.f i) (wipeD σ vs) H fun σ2 H2 => tt σ2 H2 fun b H3 =>
    (b = true → te σ2 H3 fun y H4 => acc.length < sizeLine ∧ Pv (i + 1) (acc ++ [y]) H4) ∧ (b = false → Pv (i + 1) acc H3)) ∧
  ∀ acc H, Pv I.n acc H → fin acc H Q
abbrev dLc := dLcG fun acc H Q => ∀ p, H p = none → Q (.ref p) (upD H p (.lst acc))
abbrev dLcF := dLcG fun acc H Q => Q (.lsv acc) H
theorem lc_gen {K : PySem.W.Frag} {fn : List Dv → DH → DVK → Prop} {it : DTI} {vs : List Nat} {g : DTG} {tt : DTT} {te : DTE} {σ : St} {H : Hp} {Q : VK} {σd : DS} {Hd : DH} {Qd : DVK} (rs : RepS K H σd σ) (rh : RepH K H Hd) (q : dLcG fn it vs g tt te σd Hd Qd)
    (last : ∀ H' Hd' D acc ws, Stp H Hd H' Hd' → H D = none → RepH K H' Hd' → H' D = some (.lst ws) → Hd' D = none → RepL K H' acc ws → fn acc Hd' Qd → Q (.ref D) H') : tLc (lI K it) (lGc K vs g) (lT K tt) (lE K te) vs σ H Q := by
  refine ⟨σd, Hd, _, rs, rh, q, fun J H1 I Hd1 s1 r1 w ⟨Pv, p0, hG, step, fin⟩ D hD => ?_⟩
  have dD : Hd1 D = none := r1.free hD
  have hD0 : H D = none := by
    cases e : H D with
    | none => rfl
    | some o => exact absurd hD (s1.dom D (by rw [e]; exact fun z => nomatch z))
  refine ⟨fun i m H' => ∃ acc ws Hd', m = I.n - i ∧ i ≤ I.n ∧ Stp H1 Hd1 H' Hd' ∧ RepH K H' Hd' ∧ H' D = some (.lst ws) ∧ Hd' D = none ∧ RepL K H' acc ws ∧ Pv i acc Hd',
    ⟨_, [], [], Hd1, rfl, Nat.zero_le _, .lay hD, r1.lay hD, upd_same, dD, rfl, p0⟩, ?_⟩
  rintro i m H' ⟨acc, ws, Hd', rfl, hi, s', r', eD, nD, rl, p⟩
  have gg := hG i acc Hd' hi p
  -- behind a step from here the list is as it was
  have stay : ∀ {H2 : Hp} {Hd2 : DH}, Stp H' Hd' H2 Hd2 → H2 D = some (.lst ws) ∧ Hd2 D = none := fun {H2 Hd2} s2 => by
    refine ⟨s2.frame D _ eD nD, ?_⟩
    cases e : Hd2 D with
    | none => rfl
    | some o =>
      rcases s2.new D (by rw [e]; exact fun z => nomatch z) with z | z
      · exact absurd nD z
      · rw [eD] at z; cases z
  by_cases hlt : i < I.n
  · refine .inr ⟨w.go H' Hd' s' r' gg i hlt, fun H2 => ∃ acc ws Hd2, Stp H1 Hd1 H2 Hd2 ∧ RepH K H2 Hd2 ∧ H2 D = some (.lst ws) ∧ Hd2 D = none ∧ RepL K H2 acc ws ∧ Pv (i + 1) acc Hd2, ?_, fun x H2 y => ?_⟩
    · rintro H2 ⟨acc2, ws2, Hd2, s2, r2, e2, n2, l2, p2⟩
      exact ⟨I.n - (i + 1), by omega, acc2, ws2, Hd2, rfl, hlt, s2, r2, e2, n2, l2, p2⟩
    · obtain ⟨s2, r2, rx⟩ := w.yld H' Hd' s' r' gg i x H2 hlt y
      have rsw : RepS K H2 (wipeD σd vs) (L2.wipe σ vs) := ((s1.trans (s'.trans s2)).repS rh rs).wipe vs
      refine ⟨I.f i, wipeD σd vs, Hd', _, rx, rsw, r2, step i acc Hd' hlt p, fun σ3 H3 σd3 Hd3 wp s3 r3 rs3 q3 => ⟨?_, σd3, Hd3, _, rs3, r3, q3, fun b H4 Hd4 s4 r4 q4 => ?_⟩⟩
      · rw [wp]
        apply List.ext_getElem?
        intro j
        rw [wipe_at, wipe_at]
        by_cases m : j ∈ vs
        · rw [if_pos m, if_pos m]
          cases σ[j]? <;> rfl
        · rw [if_neg m, if_neg m]
      · have st4 : Stp H' Hd' H4 Hd4 := (s2.trans s3).trans s4
        cases b with
        | false =>
          refine iteF ⟨acc, ws, Hd4, s'.trans st4, r4, (stay st4).1, (stay st4).2, st4.repL r' rl, q4.2 rfl⟩
        | true =>
          refine iteT ⟨σd3, Hd4, _, s4.repS r3 rs3, r4, q4.1 rfl, fun v H5 d Hd5 s5 r5 rv q5 => ?_⟩
          have st5 : Stp H' Hd' H5 Hd5 := st4.trans s5
          have l5 : RepL K H5 acc ws := st5.repL r' rl
          refine ⟨ws, (stay st5).1, by rw [← rl.length]; exact q5.1, ?_⟩
          have r5' : RepH K H5 (upD Hd5 D (.lst acc)) := fun a o e => by
            by_cases z : a = D
            · subst z
              rw [upD_same] at e
              cases e
              exact ⟨ws, (stay st5).1, l5⟩
            · rw [upD_ne z] at e
              exact r5 a o e
          have sp : Stp H5 (upD Hd5 D (.lst acc)) (upd H5 D (.lst (ws ++ [v]))) (upD (upD Hd5 D (.lst acc)) D (.lst (acc ++ [d]))) := Stp.put upD_same
          have l6 : RepL K (upd H5 D (.lst (ws ++ [v]))) (acc ++ [d]) (ws ++ [v]) := (sp.repL r5' l5).append (.one (sp.rep r5' rv))
          refine ⟨acc ++ [d], ws ++ [v], Hd5, ?_, ?_, upd_same, (stay st5).2, l6, q5.2⟩
          · have a := s'.trans st5
            refine ⟨fun b o e n => ?_, fun b e => ?_, a.new⟩
            · rw [upd_ne (ne_of_none e hD)]
              exact a.frame b o e n
            · by_cases z : b = D
              · rw [z, upd_same]; exact fun q => nomatch q
              · rw [upd_ne z]; exact a.dom b e
          · intro b o e
            have z : b ≠ D := fun z => by rw [z, (stay st5).2] at e; cases e
            exact (r5 b o e).keep (Hd := upD Hd5 D (.lst acc)) sp r5' (upd_ne z)
  · have e : i = I.n := by omega
    subst e
    exact .inl ⟨w.stop H' Hd' s' r' gg, last H' Hd' D acc ws (s1.trans s') hD0 r' eD nD rl (fin acc Hd' p)⟩
theorem lc_of {K : PySem.W.Frag} {it : DTI} {vs : List Nat} {g : DTG} {tt : DTT} {te : DTE} {σ : St} {H : Hp} {Q : VK} (h : lE K (dLc it vs g tt te) σ H Q) : tLc (lI K it) (lGc K vs g) (lT K tt) (lE K te) vs σ H Q := by
  obtain ⟨σd, Hd, Qd, rs, rh, q, k⟩ := h
  refine lc_gen rs rh q fun H' Hd' D acc ws st hD r' eD nD rl z => ?_
  refine k (.ref D) H' (.ref D) (upD Hd' D (.lst acc)) ⟨st.frame, st.dom, fun b e => ?_⟩ (fun b o e => ?_) rfl (z D nD)
  · by_cases y : b = D
    · exact .inr (by rw [y]; exact hD)
    · rw [upD_ne y] at e
      exact st.new b e
  · by_cases y : b = D
    · subst y
      rw [upD_same] at e
      cases e
      exact ⟨ws, eD, rl⟩
    · rw [upD_ne y] at e
      exact r' b o e
section
variable {X : Cx} {elt tg iter : Expr} {ifs : List Expr} {scope : Scope} {own : List (Str × Nat)} {it : DTI} {g : DTG} {tt : DTT} {te : DTE} {pos spos : Pos}
theorem de_lc (hc : X.calm = true) (hN : X.N.Nodup) (hi : DI X tg iter it) (ok : BlkOk X.N X.env.scope scope own)
    (hg : ∀ (s : Shared) (H : Hp) (C : Addr) (cl : List (Str × Addr)) (fp : List Addr), PG (X.blk s H scope (compEnvC scope cl C X.env) fp) tg (lGc X.K (own.map (·.2)) g))
    (ht : ∀ (s : Shared) (H : Hp) (C : Addr) (cl : List (Str × Addr)) (fp : List Addr), PTs (X.blk s H scope (compEnvC scope cl C X.env) fp) ifs (lT X.K tt))
    (he : ∀ (s : Shared) (H : Hp) (C : Addr) (cl : List (Str × Addr)) (fp : List Addr), PE (X.blk s H scope (compEnvC scope cl C X.env) fp) elt (lE X.K te)) (hs : ∀ x, foldedSetIterable iter X.env x = pure x := by intro _; rfl) :
    DE X (.ListComp elt [⟨tg, iter, ifs, 0⟩] scope pos) (dLc it (own.map (·.2)) g tt te) := pe_mono (pe_lc hc hN hi ok hg ht he hs) fun _ _ _ h => lc_of h
theorem ds_setLc {i : Nat} {y : Str} {py : Pos} (hc : X.calm = true) (hN : X.N.Nodup) (hy : X.N[i]? = some y) (hyl : X.env.scope.names.lookup y = some .local)
    (hsw : swapsWith (.ListComp elt [⟨tg, iter, ifs, 0⟩] scope pos) (some (.Name y py)) spos.line X.env = pure true) (hi : DI X tg iter it) (ok : BlkOk X.N X.env.scope scope own)
    (hg : ∀ (s : Shared) (H : Hp) (C : Addr) (cl : List (Str × Addr)) (fp : List Addr), PG (X.blk s H scope (compEnvC scope cl C X.env) fp) tg (lGc X.K (own.map (·.2)) g))
    (ht : ∀ (s : Shared) (H : Hp) (C : Addr) (cl : List (Str × Addr)) (fp : List Addr), PTs (X.blk s H scope (compEnvC scope cl C X.env) fp) ifs (lT X.K tt))
    (he : ∀ (s : Shared) (H : Hp) (C : Addr) (cl : List (Str × Addr)) (fp : List Addr), PE (X.blk s H scope (compEnvC scope cl C X.env) fp) elt (lE X.K te)) (hs : ∀ x, foldedSetIterable iter X.env x = pure x := by intro _; rfl) :
    DSt X (.Assign [.Name y py] (.ListComp elt [⟨tg, iter, ifs, 0⟩] scope pos) spos) (dSet i (dLc it (own.map (·.2)) g tt te)) :=
  ds_of (ps_setLc hc hN hy hyl hsw hi ok hg ht he hs) fun D σ H σd Hd Dd rs rh q k1 _ _ _ => lc_of ⟨σd, Hd, fun d H1 => Dd.nx (σd.set i (some d)) H1, rs, rh, q, fun v H1 d Hd1 s1 r1 rv q1 => k1 _ _ _ _ s1 r1 ((s1.repS rh rs).set i rv) q1⟩
end
end DL

set_option maxHeartbeats 4000000
namespace DL
open PySem PySem.Spec L2
open PyProof.Rows hiding St
/-! ## what is walked -/
section
variable {X : Cx} {tg e a b c : Expr} {te : DTE} {t : DTA} {p pos : Pos}
theorem di_of {w : TI} {td : DTI} (h : PI X tg e w) (i : ∀ σ H R σd Hd Rd, RepS X.K H σd σ → RepH X.K H Hd → td σd Hd Rd → (∀ J H' D Hd', Stp H Hd H' Hd' → RepH X.K H' Hd' → JW X.K H' Hd' J D → Rd D Hd' → R J H') → w σ H R) : DI X tg e td :=
  pi_mono h fun σ H R ⟨σd, Hd, Rd, rs, rh, q, k⟩ => i σ H R σd Hd Rd rs rh q k
/-- the i-th item, told for every i -/
def nth (ds : List Dv) (i : Nat) : Dv := ds.getD i .non
theorem nth_at {ds : List Dv} {i : Nat} (h : i < ds.length) : ds[i]? = some (nth ds i) := by
  unfold nth
  rw [List.getD_eq_getElem?_getD, List.getElem?_eq_getElem h]; rfl
/-- a tuple, a list -/
def walkD (d : Dv) (H : DH) (R : DIt → DH → Prop) : Prop := match d with
  | .tup ds => R ⟨ds.length, nth ds, fun _ => True⟩ H
  | .lsv ds => R ⟨ds.length, nth ds, fun _ => True⟩ H
  | .ref p => ∃ ds, H p = some (.lst ds) ∧ R ⟨ds.length, nth ds, fun H' => H' p = some (.lst ds)⟩ H
  | _ => False
def dWalk (t : DTE) : DTI := fun σ H R => t σ H fun d H1 => walkD d H1 R
theorem jw_tup {K : PySem.W.Frag} {H : Hp} {Hd : DH} {a : Addr} {ds : List Dv} {vs : List V} (rh : RepH K H Hd) (h : SqT K H a vs) (l : RepL K H ds vs) : JW K H Hd (Itt K a) ⟨ds.length, nth ds, fun _ => True⟩ where
  go := fun H' Hd' s r _ i hi => by
    obtain ⟨v, e, _⟩ := l.get (nth_at hi)
    exact ⟨vs, v, s.sqT rh h, e⟩
  stop := fun H' Hd' s r _ => ⟨vs, s.sqT rh h, by show vs.length ≤ ds.length; rw [l.length]; exact Nat.le_refl _⟩
  yld := fun H' Hd' s r _ i x H2 hi y => by
    obtain ⟨v, e, q⟩ := l.get (nth_at hi)
    obtain ⟨rfl, y⟩ := y
    have ex : x = v := Option.some.inj ((y vs (s.sqT rh h)).symm.trans e)
    subst ex
    exact ⟨.refl, r, s.rep rh q⟩
theorem jw_fix {K : PySem.W.Frag} {H : Hp} {Hd : DH} {a : Addr} {ds : List Dv} {vs : List V} (rh : RepH K H Hd) (h : FxL K H a vs) (l : RepL K H ds vs) : JW K H Hd (Itl K a) ⟨ds.length, nth ds, fun _ => True⟩ where
  go := fun H' Hd' s r _ i hi => by
    obtain ⟨v, e, _⟩ := l.get (nth_at hi)
    exact ⟨vs, v, (s.fxL rh h).sq, e⟩
  stop := fun H' Hd' s r _ => ⟨vs, (s.fxL rh h).sq, by show vs.length ≤ ds.length; rw [l.length]; exact Nat.le_refl _⟩
  yld := fun H' Hd' s r _ i x H2 hi y => by
    obtain ⟨v, e, q⟩ := l.get (nth_at hi)
    obtain ⟨rfl, y⟩ := y
    have ex : x = v := Option.some.inj ((y vs (s.fxL rh h).sq).symm.trans e)
    subst ex
    exact ⟨.refl, r, s.rep rh q⟩
theorem jw_lst {K : PySem.W.Frag} {H : Hp} {Hd : DH} {a : Addr} {ds : List Dv} : JW K H Hd (Itl K a) ⟨ds.length, nth ds, fun H' => H' a = some (.lst ds)⟩ where
  go := fun H' Hd' s r g i hi => by
    obtain ⟨vs, e1, l⟩ := r _ _ g
    obtain ⟨v, e, _⟩ := l.get (nth_at hi)
    exact ⟨vs, v, .of e1, e⟩
  stop := fun H' Hd' s r g => by
    obtain ⟨vs, e1, l⟩ := r _ _ g
    exact ⟨vs, .of e1, by show vs.length ≤ ds.length; rw [l.length]; exact Nat.le_refl _⟩
  yld := fun H' Hd' s r g i x H2 hi y => by
    obtain ⟨vs, e1, l⟩ := r _ _ g
    obtain ⟨v, e, q⟩ := l.get (nth_at hi)
    obtain ⟨rfl, y⟩ := y
    have ex : x = v := Option.some.inj ((y vs (.of e1)).symm.trans e)
    subst ex
    exact ⟨.refl, r, q⟩
theorem di_walk (he : DE X e te) : DI X tg e (dWalk te) := by
  have both : PI X tg e (fun σ H R => lE X.K te σ H fun x H1 => (∃ a, x = .ref a ∧ (∃ xs, SqL X.K H1 a xs) ∧ R (Itl X.K a) H1) ∨ ∃ a, x = .ref a ∧ (∃ xs, SqT X.K H1 a xs) ∧ R (Itt X.K a) H1) := by
    refine ⟨fun pins s σ H R I h => ?_⟩
    refine thn (he.run pins s σ H _ I h) fun v s1 ⟨x, H1, I1, r1, q1⟩ => ?_
    rcases q1 with ⟨a, rfl, ⟨xs, hq⟩, q⟩ | ⟨a, rfl, ⟨xs, hq⟩, q⟩
    · cases r1
      obtain ⟨its, rv, pl, hz⟩ := I1.list hq
      refine wpAny_pyIter_list pl.isList ⟨s1.heap.objs.size, [s1.heap.objs.size], _, _, H1, rfl, I1.kept (t' := s1.toks) fun b o e => Heap.get?_push_of_some _ e, turn_list a _, ⟨_, Heap.get?_push_size _ rfl, rfl, rfl⟩, fun b hb => ?_, q⟩
      cases (show b = s1.heap.objs.size by simpa using hb)
      exact I1.fpOk (Nat.le_refl _) (I1.hok.fresh (Nat.le_refl _))
    · cases r1
      obtain ⟨its, rv, pl, hz⟩ := I1.tuple hq
      refine wpAny_pyIter_tuple pl ⟨s1.heap.objs.size, [s1.heap.objs.size], _, _, H1, rfl, I1.kept (t' := s1.toks) fun b o e => Heap.get?_push_of_some _ e, turn_tuple a _, ⟨_, Heap.get?_push_size _ rfl, rfl, rfl⟩, fun b hb => ?_, q⟩
      cases (show b = s1.heap.objs.size by simpa using hb)
      exact I1.fpOk (Nat.le_refl _) (I1.hok.fresh (Nat.le_refl _))
  refine di_of both fun σ H R σd Hd Rd rs rh q k => ⟨σd, Hd, _, rs, rh, q, fun v H1 d Hd1 s1 r1 rv q1 => ?_⟩
  cases d with
  | tup ds =>
    obtain ⟨a, vs, rfl, h, l⟩ := rv
    exact .inr ⟨a, rfl, ⟨vs, h⟩, k _ H1 _ Hd1 s1 r1 (jw_tup r1 h l) q1⟩
  | lsv ds =>
    obtain ⟨a, vs, rfl, h, l⟩ := rv
    exact .inl ⟨a, rfl, ⟨vs, h.sq⟩, k _ H1 _ Hd1 s1 r1 (jw_fix r1 h l) q1⟩
  | ref a =>
    obtain ⟨ds, h, q1⟩ := q1
    obtain ⟨vs, e1, l⟩ := r1 _ _ h
    exact .inl ⟨a, rv, ⟨vs, .of e1⟩, k _ H1 _ Hd1 s1 r1 jw_lst q1⟩
  | _ => exact q1.elim
/-! range -/
def rngD (lo : Int) (n : Nat) (c : Int) : DIt := ⟨n, fun i => .int (lo + (i : Nat) * c), fun _ => True⟩
theorem jw_rng {K : PySem.W.Frag} {H : Hp} {Hd : DH} {lo : Int} {n : Nat} : JW K H Hd (Itr lo n) (rngD lo n 1) where
  go := fun _ _ _ _ _ i hi => hi
  stop := fun _ _ _ _ _ => Nat.le_refl _
  yld := fun H' Hd' s r _ i x H2 hi y => by
    obtain ⟨rfl, rfl⟩ := y
    exact ⟨.refl, r, by show V.int _ = V.int _; rw [Int.mul_one]⟩
theorem jw_rngC {K : PySem.W.Frag} {H : Hp} {Hd : DH} {lo c : Int} {n : Nat} : JW K H Hd (Itc lo c n) (rngD lo n c) where
  go := fun _ _ _ _ _ i hi => hi
  stop := fun _ _ _ _ _ => Nat.le_refl _
  yld := fun H' Hd' s r _ i x H2 hi y => by
    obtain ⟨rfl, rfl⟩ := y
    exact ⟨.refl, r, rfl⟩
def dRng1 (te : DTE) : DTI := fun σ H R => te σ H fun d H1 => match d with
  | .int j => (-(2 ^ 62) ≤ j ∧ j < 2 ^ 62) ∧ R (rngD 0 j.toNat 1) H1
  | _ => False
def dRng2 (ta tb : DTE) : DTI := fun σ H R => ta σ H fun d H1 => tb σ H1 fun d' H2 => match d, d' with
  | .int i, .int j => (-(2 ^ 62) ≤ i ∧ i < 2 ^ 62 ∧ -(2 ^ 62) ≤ j ∧ j < 2 ^ 62) ∧ R (rngD i (j - i).toNat 1) H2
  | _, _ => False
def dRng3 (ta tb tc : DTE) : DTI := fun σ H R => ta σ H fun d H1 => tb σ H1 fun d' H2 => tc σ H2 fun d'' H3 => match d, d', d'' with
  | .int i, .int j, .int c => ∃ n, RgC i j c n ∧ R (rngD i n c) H3
  | _, _, _ => False
variable {ta tb tc : DTE}
theorem di_range1 (hg : Gl X "range") (hm : X.mg "range" = none) (ha : DE X a ta) (hs : starEach [a] X.env = [(false, eval a X.env)] := by rfl) : DI X tg (.Call (.Name "range" p) [a] [] pos) (dRng1 ta) :=
  di_of (pi_range1 hg hm (pa_cons ha pa_nil hs) hs) fun σ H R σd Hd Rd rs rh q k => ⟨σd, Hd, _, rs, rh, q, fun v H1 d Hd1 s1 r1 rv q1 => by
    split at q1
    · exact ⟨_, by rw [show v = _ from rv], q1.1.1, q1.1.2, k _ H1 _ Hd1 s1 r1 jw_rng q1.2⟩
    · exact q1.elim⟩
theorem di_range2 (hg : Gl X "range") (hm : X.mg "range" = none) (ha : DE X a ta) (hb : DE X b tb) (hs : starEach [a, b] X.env = [(false, eval a X.env), (false, eval b X.env)] := by rfl) (hs2 : starEach [b] X.env = [(false, eval b X.env)] := by rfl) :
    DI X tg (.Call (.Name "range" p) [a, b] [] pos) (dRng2 ta tb) :=
  di_of (pi_range2 hg hm (pa_cons ha (pa_cons hb pa_nil hs2) (by rw [hs, hs2])) hs hs2) fun σ H R σd Hd Rd rs rh q k => ⟨σd, Hd, _, rs, rh, q, fun v H1 d Hd1 s1 r1 rv q1 =>
    ⟨σd, Hd1, _, s1.repS rh rs, r1, q1, fun u H2 d2 Hd2 s2 r2 ru q2 => by
      split at q2
      · exact ⟨_, _, by rw [show v = _ from rv, show u = _ from ru], q2.1, k _ H2 _ Hd2 (s1.trans s2) r2 jw_rng q2.2⟩
      · exact q2.elim⟩⟩
theorem di_range3 (hg : Gl X "range") (hm : X.mg "range" = none) (ha : DE X a ta) (hb : DE X b tb) (hc : DE X c tc) (hs : starEach [a, b, c] X.env = (false, eval a X.env) :: starEach [b, c] X.env := by rfl)
    (hs2 : starEach [b, c] X.env = (false, eval b X.env) :: starEach [c] X.env := by rfl) (hs3 : starEach [c] X.env = [(false, eval c X.env)] := by rfl) (hpl : (backTo pos (starEach [b, c] X.env)).any (·.1) = false := by rfl) :
    DI X tg (.Call (.Name "range" p) [a, b, c] [] pos) (dRng3 ta tb tc) :=
  di_of (pi_range3 hg hm (pa_cons ha (pa_cons hb (pa_cons hc pa_nil hs3) hs2) hs) hs hpl) fun σ H R σd Hd Rd rs rh q k => ⟨σd, Hd, _, rs, rh, q, fun v H1 d Hd1 s1 r1 rv q1 =>
    ⟨σd, Hd1, _, s1.repS rh rs, r1, q1, fun u H2 d2 Hd2 s2 r2 ru q2 => ⟨σd, Hd2, _, (s1.trans s2).repS rh rs, r2, q2, fun w H3 d3 Hd3 s3 r3 rw' q3 => by
      split at q3
      · obtain ⟨n, q4, q5⟩ := q3
        exact ⟨_, _, _, n, by rw [show v = _ from rv, show u = _ from ru, show w = _ from rw'], q4, k _ H3 _ Hd3 ((s1.trans s2).trans s3) r3 jw_rngC q5⟩
      · exact q3.elim⟩⟩⟩
end
/-! ## enumerate, zip: over a tuple or a list -/
section
variable {prog : Program} {w : World} {A : Around} {E : Value → Shared → Prop} {s : Shared}
set_option maxHeartbeats 4000000 in
theorem meets_enum_of {v : Value} {o : Obj} {H : Heap → Prop} (B : Begins v o H) :
    Meets (Builtin.«enumerate.__new__» ⟨[.type "enumerate", v], []⟩) (fun _ R s => H s.heap ∧
      R (.ok (.ret (.ref (s.heap.push o).objs.size))) { s with heap := (s.heap.push o).push { cls := .type "enumerate", data := .fields #[.none, .bool false, .ref s.heap.objs.size, rawInt 0, .none, .none] } }) :=
  .of_wp fun prog w A R s h => by
    obtain ⟨hp, g, d, tk, os⟩ := s
    obtain ⟨h1, h⟩ := h
    have sub := sub_enumerate
    have begin_ : ∀ {A' : Around} {E : Value → Shared → Prop} {Q : Value → Shared → Prop}, Q (.ref hp.objs.size) ⟨hp.push o, g, d, tk, os⟩ → wpAny (model prog w) A' (pyIter v) Q E ⟨hp, g, d, tk, os⟩ := fun q => B.iter prog w _ _ ⟨hp, g, d, tk, os⟩ _ h1 q
    wp_walk using begin_
    refine wpAny_stack_any fun st => wpAny_pure ?_
    split
    · rename_i c _ _ _ _ _
      cases (c == Value.type "enumerate") <;> (wp_walk using begin_; exact ⟨_, rfl, h⟩)
    · wp_walk using begin_
      exact ⟨_, rfl, h⟩
theorem enum_of {v : Value} {o : Obj} {H : Heap → Prop} {Q : Value → Shared → Prop} (B : Begins v o H) (h1 : H s.heap)
    (h : ∀ h', IsEnum h' (s.heap.objs.size + 1) s.heap.objs.size 0 .none → h'.get? s.heap.objs.size = some o → (∀ b o, s.heap.get? b = some o → h'.get? b = some o) → Q (.ref (s.heap.objs.size + 1)) { s with heap := h' }) :
    wpAny (model prog w) A (call (.type "enumerate") [v]) Q E s := by
  refine callType_new F.called_enumerate (by decide) (F.typeCall_enumerate_1 _) (F.newCall_enumerate_1 _) (fun obj => F.args_object_init_2 obj _) F.entry_enumerate_new (meets_enum_of B) ⟨h1, ?_⟩
  have size : (s.heap.push o).objs.size = s.heap.objs.size + 1 := Heap.size_push ..
  show _ ∧ _
  rw [size]
  have there : IsEnum ((s.heap.push o).push { cls := .type "enumerate", data := .fields #[.none, .bool false, .ref s.heap.objs.size, rawInt 0, .none, .none] }) (s.heap.objs.size + 1) s.heap.objs.size 0 .none := by
    have z := Heap.get?_push_size (s.heap.push o) (o := { cls := .type "enumerate", data := .fields #[.none, .bool false, .ref s.heap.objs.size, rawInt 0, .none, .none] }) rfl
    rw [size] at z
    exact z
  exact ⟨⟨_, there, rfl⟩, h _ there (Heap.get?_push_of_some _ (Heap.get?_push_size _ B.free)) fun b ob x => Heap.get?_push_of_some _ (Heap.get?_push_of_some _ x)⟩
end
/-- the tuple at a, its items in new pairs with their numbers -/
def IteT (K : PySem.W.Frag) (a : Addr) : It :=
  ⟨fun i H => ∃ (xs : List V) (x : V), SqT K H a xs ∧ xs[i]? = some x, fun i H v H' => ∃ T x, v = .ref T ∧ H T = none ∧ H' = upd H T (.tup [.int (i : Nat), x]) ∧ ∀ xs, SqT K H a xs → xs[i]? = some x, fun i H => ∃ xs : List V, SqT K H a xs ∧ xs.length = i⟩
theorem turn_enumT {P : Program} {w : World} {K : PySem.W.Frag} {elts : List Expr} {kk : Nat} {tpos : Pos} (a e it : Addr) (hit : it ≠ a) (hea : e ≠ a) :
    Turn P w K (.Tuple elts kk tpos) (IteT K a) [e, it] e (fun i h => (∃ old, IsEnum h e it ((i : Nat) : Int) old) ∧ h.IsTupleIter it a i ∧ e ≠ it) where
  mem := by simp
  obj := fun i h st b hb => by
    obtain ⟨⟨old, he⟩, ⟨o, ho, hc, hd⟩, _⟩ := st
    rcases (show b = e ∨ b = it by simpa using hb) with z | z
    · exact ⟨_, by rw [z]; exact he, fun v q => by cases (show Data.fields _ = Data.cell v from q)⟩
    · exact ⟨o, by rw [z]; exact ho, fun v q => by rw [hd] at q; cases q⟩
  keep := fun i h h' st k => by
    obtain ⟨⟨old, he⟩, hi, hne⟩ := st
    exact ⟨⟨old, k e (by simp) _ he⟩, hi.at fun o q => k it (by simp) o q, hne⟩
  item := by
    intro X hP hw hK hc i pins s σ H E I hf st hg
    subst hP hw hK
    obtain ⟨⟨old, he⟩, hti, hne⟩ := st
    obtain ⟨xs, x, hq, hx⟩ := hg
    obtain ⟨its, rv, pt, hz⟩ := I.tuple hq
    obtain ⟨u, hu, ru⟩ := rv.get hx
    have hil : i < its.toArray.size := by
      have := (List.getElem?_eq_some_iff.mp hu).1
      simpa using this
    have lt_e : e < s.heap.objs.size := Heap.lt_size he
    have lt_i : it < s.heap.objs.size := by obtain ⟨_, q, _⟩ := hti; exact Heap.lt_size q
    have D : Draws X.prog X.w X.A.in1 it [it, a] its.toArray.size _ _ := Draws.tuple (A := X.A.in1) (I.ok.hd hc) it a (Ne.symm hit) its.toArray
    refine wpAny_pyNext_enum_itemD D he ⟨hti, pt⟩ hil hne (by simp [hne, hea]) fun y h' tk hy ho st' hT hsz hk => ?_
    have ey : y = u := by
      have z : its.toArray[i]? = some u := by simpa using hu
      exact Option.some.inj (hy.symm.trans z)
    subst ey
    refine ⟨_, rfl, wpAny_letOwnedTupleGo_enum (s := { s with heap := h', toks := tk + 1 }) ho fun h'' he' sb => ?_⟩
    have hT2 : h''.get? s.heap.objs.size = some { cls := .type "tuple", data := .seq #[.int i tk, y] } := (sb.2 _ (Nat.ne_of_gt lt_e)).trans hT
    have new : ObjOk X.prog X.w (upd H s.heap.objs.size (.tup [.int (i : Nat), x])) h'' s.heap.objs.size (.tup [.int (i : Nat), x]) :=
      ⟨by show 2 ≤ sizeLine; decide, [.int i tk, y], .cons ⟨_, rfl⟩ (.cons ru .nil), ⟨_, hT2, rfl, _, rfl⟩⟩
    have I1 : Inv X pins σ (upd H s.heap.objs.size (.tup [.int (i : Nat), x])) { s with heap := h'', toks := tk + 1 } :=
      I.turnedNew (ch := [e, it]) (fun b ob hb q => (sb.2 b (fun z => hb (by simp [z]))).trans (hk b ob (fun z => hb (by simp [z])) (fun z => hb (by simp [z])) q)) hf (Nat.le_refl _) new
    refine ⟨.ref s.heap.objs.size, _, I1, rfl, ⟨_, x, rfl, I.hok.fresh (Nat.le_refl _), rfl, fun ys hy => by rw [I.tuple_inj hy hq]; exact hx⟩, ⟨⟨y, ?_⟩, st'.1.at fun o q => (sb.2 it (Ne.symm hne)).trans q, hne⟩, fun b hb => ?_⟩
    · have e1 : ((i + 1 : Nat) : Int) = (i : Int) + 1 := by omega
      rw [e1]; exact he'
    · have hb' : b < s.heap.objs.size := by
        rcases (show b = e ∨ b = it by simpa using hb) with z | z
        · rw [z]; exact lt_e
        · rw [z]; exact lt_i
      rw [upd_ne (Nat.ne_of_lt hb')]
      exact (hf b hb).1
  done := by
    intro X hP hw hK hc i pins s σ H E I hf st hg
    subst hP hw hK
    obtain ⟨⟨old, he⟩, hti, hne⟩ := st
    obtain ⟨xs, hq, hx⟩ := hg
    obtain ⟨its, rv, pt, hz⟩ := I.tuple hq
    obtain ⟨f0, f1, f2, f3, f4, f5⟩ := hf it (by simp)
    have hl := rv.length
    have hn : its.toArray.size = i := by rw [List.size_toArray, ← hl]; exact hx
    have D : Draws X.prog X.w X.A.in1 it [it, a] its.toArray.size _ _ := Draws.tuple (A := X.A.in1) (I.ok.hd hc) it a (Ne.symm hit) its.toArray
    rw [hn] at D
    exact wpAny_pyNext_enum_endD D he ⟨hti, pt⟩ fun h' eb => ⟨rfl, I.turned (t' := s.toks) (fun b o hb q => eb b o hb q) f0 f1 f3 f4 f5⟩
  self := fun A i s Q E st h => by
    obtain ⟨⟨_, he⟩, _⟩ := st
    exact wpAny_pyIter_enum he h
end DL

set_option maxHeartbeats 4000000
namespace DL
open PySem PySem.Spec L2
open PyProof.Rows hiding St
/-! ## enumerate as what is walked -/
section
variable {X : Cx} {e : Expr} {te : DTE} {p pos tpos : Pos} {elts : List Expr} {kk : Nat}
def iEnumA (K : PySem.W.Frag) (ta : TA) : TI := fun σ H R => ta σ H fun vs H1 => ∃ a, vs = [.ref a] ∧ ((∃ xs, SqL K H1 a xs ∧ R (Ite K a) H1) ∨ ∃ xs, SqT K H1 a xs ∧ R (IteT K a) H1)
theorem pi_enumA {ta : TA} (hg : Gl X "enumerate") (hm : X.mg "enumerate" = none) (ha : PA X [e] ta) (hs : starEach [e] X.env = [(false, eval e X.env)] := by rfl) : PI X (.Tuple elts kk tpos) (.Call (.Name "enumerate" p) [e] [] pos) (iEnumA X.K ta) := by
  refine ⟨fun pins s σ H R I h => Call_ (ld_blt I hg hm boot_enumerate (PyProof.Rows.callWith_type1 (thn (ha.run pos pins s σ H _ I h) fun us s1 h1 => ?_) hs rfl))⟩
  obtain ⟨vs, H1, I1, r1, a, ex, q⟩ := h1
  subst ex
  obtain ⟨u, eu, r⟩ := vals1 r1
  subst eu
  cases r
  have two : ∀ {b : Addr}, b ∈ [s1.heap.objs.size + 1, s1.heap.objs.size] → s1.heap.objs.size ≤ b := fun {b} hb => by
    rcases (show b = s1.heap.objs.size + 1 ∨ b = s1.heap.objs.size by simpa using hb) with z | z
    · rw [z]; exact Nat.le_add_right _ _
    · rw [z]; exact Nat.le_refl _
  rcases q with ⟨xs, hq, q⟩ | ⟨xs, hq, q⟩
  · obtain ⟨its, rv, pl, hz⟩ := I1.list hq
    refine enum_of (begins_list a its.toArray) pl.isList fun h' he hit hk => wpAny_pyIter_enum he ?_
    have I2 : Inv X pins σ H1 { s1 with heap := h' } := I1.kept (t' := s1.toks) hk
    exact ⟨s1.heap.objs.size + 1, [s1.heap.objs.size + 1, s1.heap.objs.size], _, _, H1, rfl, I2, turn_enum a _ _, ⟨⟨.none, he⟩, ⟨_, hit, rfl, rfl⟩, Nat.succ_ne_self _⟩, fun b hb => I1.fpOk (two hb) (I1.hok.fresh (two hb)), q⟩
  · obtain ⟨its, rv, pl, hz⟩ := I1.tuple hq
    have lt : a < s1.heap.objs.size := pl.lt
    refine enum_of (begins_tuple a its.toArray) pl fun h' he hit hk => wpAny_pyIter_enum he ?_
    have I2 : Inv X pins σ H1 { s1 with heap := h' } := I1.kept (t' := s1.toks) hk
    exact ⟨s1.heap.objs.size + 1, [s1.heap.objs.size + 1, s1.heap.objs.size], _, _, H1, rfl, I2, turn_enumT a _ _ (Nat.ne_of_gt lt) (Nat.ne_of_gt (Nat.lt_succ_of_lt lt)), ⟨⟨.none, he⟩, ⟨_, hit, rfl, rfl⟩, Nat.succ_ne_self _⟩, fun b hb => I1.fpOk (two hb) (I1.hok.fresh (two hb)), q⟩
/-- the pairs of numbers and items -/
def enD (ds : List Dv) (G : DH → Prop) : DIt := ⟨ds.length, fun i => .tup [.int (i : Nat), nth ds i], G⟩
def enumD (d : Dv) (H : DH) (R : DIt → DH → Prop) : Prop := match d with
  | .tup ds => R (enD ds fun _ => True) H
  | .lsv ds => R (enD ds fun _ => True) H
  | .ref p => ∃ ds, H p = some (.lst ds) ∧ R (enD ds fun H' => H' p = some (.lst ds)) H
  | _ => False
def dEnum (t : DTE) : DTI := fun σ H R => t σ H fun d H1 => enumD d H1 R
theorem pair_new {K : PySem.W.Frag} {H : Hp} {Hd : DH} {T : Addr} {x y : V} {dx dy : Dv} (rh : RepH K H Hd) (hT : H T = none) (rx : Rep K H dx x) (ry : Rep K H dy y) :
    Stp H Hd (upd H T (.tup [x, y])) Hd ∧ RepH K (upd H T (.tup [x, y])) Hd ∧ Rep K (upd H T (.tup [x, y])) (.tup [dx, dy]) (.ref T) :=
  ⟨.lay hT, rh.lay hT, T, [x, y], rfl, .of upd_same, x, [y], rfl, (Stp.lay (Hd := Hd) hT).rep rh rx, y, [], rfl, (Stp.lay (Hd := Hd) hT).rep rh ry, rfl⟩
theorem jw_enT {K : PySem.W.Frag} {H : Hp} {Hd : DH} {a : Addr} {ds : List Dv} {vs : List V} (rh : RepH K H Hd) (h : SqT K H a vs) (l : RepL K H ds vs) : JW K H Hd (IteT K a) (enD ds fun _ => True) where
  go := fun H' Hd' s r _ i hi => by
    obtain ⟨v, e, _⟩ := l.get (nth_at hi)
    exact ⟨vs, v, s.sqT rh h, e⟩
  stop := fun H' Hd' s r _ => ⟨vs, s.sqT rh h, l.length.symm⟩
  yld := fun H' Hd' s r _ i x H2 hi y => by
    obtain ⟨v, e, q⟩ := l.get (nth_at hi)
    obtain ⟨T, z, rfl, hT, rfl, y⟩ := y
    have ez : z = v := Option.some.inj ((y vs (s.sqT rh h)).symm.trans e)
    subst ez
    exact pair_new r hT (show Rep K H' (.int (i : Nat)) (.int (i : Nat)) from rfl) (s.rep rh q)
theorem jw_enF {K : PySem.W.Frag} {H : Hp} {Hd : DH} {a : Addr} {ds : List Dv} {vs : List V} (rh : RepH K H Hd) (h : FxL K H a vs) (l : RepL K H ds vs) : JW K H Hd (Ite K a) (enD ds fun _ => True) where
  go := fun H' Hd' s r _ i hi => by
    obtain ⟨v, e, _⟩ := l.get (nth_at hi)
    exact ⟨vs, v, (s.fxL rh h).sq, e⟩
  stop := fun H' Hd' s r _ => ⟨vs, (s.fxL rh h).sq, Nat.le_of_eq l.length.symm⟩
  yld := fun H' Hd' s r _ i x H2 hi y => by
    obtain ⟨v, e, q⟩ := l.get (nth_at hi)
    obtain ⟨T, z, rfl, hT, rfl, y⟩ := y
    have ez : z = v := Option.some.inj ((y vs (s.fxL rh h).sq).symm.trans e)
    subst ez
    exact pair_new r hT (show Rep K H' (.int (i : Nat)) (.int (i : Nat)) from rfl) (s.rep rh q)
theorem jw_enL {K : PySem.W.Frag} {H : Hp} {Hd : DH} {a : Addr} {ds : List Dv} : JW K H Hd (Ite K a) (enD ds fun H' => H' a = some (.lst ds)) where
  go := fun H' Hd' s r g i hi => by
    obtain ⟨vs, e1, l⟩ := r _ _ g
    obtain ⟨v, e, _⟩ := l.get (nth_at hi)
    exact ⟨vs, v, .of e1, e⟩
  stop := fun H' Hd' s r g => by
    obtain ⟨vs, e1, l⟩ := r _ _ g
    exact ⟨vs, .of e1, Nat.le_of_eq l.length.symm⟩
  yld := fun H' Hd' s r g i x H2 hi y => by
    obtain ⟨vs, e1, l⟩ := r _ _ g
    obtain ⟨v, e, q⟩ := l.get (nth_at hi)
    obtain ⟨T, z, rfl, hT, rfl, y⟩ := y
    have ez : z = v := Option.some.inj ((y vs (.of e1)).symm.trans e)
    subst ez
    exact pair_new r hT (show Rep K H' (.int (i : Nat)) (.int (i : Nat)) from rfl) q
theorem di_enum (hg : Gl X "enumerate") (hm : X.mg "enumerate" = none) (he : DE X e te) (hs : starEach [e] X.env = [(false, eval e X.env)] := by rfl) : DI X (.Tuple elts kk tpos) (.Call (.Name "enumerate" p) [e] [] pos) (dEnum te) :=
  di_of (pi_enumA hg hm (pa_cons he pa_nil hs) hs) fun σ H R σd Hd Rd rs rh q k => ⟨σd, Hd, _, rs, rh, q, fun v H1 d Hd1 s1 r1 rv q1 => by
    cases d with
    | tup ds =>
      obtain ⟨a, vs, rfl, h, l⟩ := rv
      exact ⟨a, rfl, .inr ⟨vs, h, k _ H1 _ Hd1 s1 r1 (jw_enT r1 h l) q1⟩⟩
    | lsv ds =>
      obtain ⟨a, vs, rfl, h, l⟩ := rv
      exact ⟨a, rfl, .inl ⟨vs, h.sq, k _ H1 _ Hd1 s1 r1 (jw_enF r1 h l) q1⟩⟩
    | ref a =>
      obtain ⟨ds, h, q1⟩ := q1
      obtain ⟨vs, e1, l⟩ := r1 _ _ h
      exact ⟨a, by rw [show v = _ from rv], .inl ⟨vs, .of e1, k _ H1 _ Hd1 s1 r1 jw_enL q1⟩⟩
    | _ => exact q1.elim⟩
end

/-! ## built-ins by name -/
theorem len_one {K : PySem.W.Frag} {H : Hp} {d : Dv} {vs : List V} (h : RepL K H [d] vs) : ∃ v, vs = [v] ∧ Rep K H d v := by
  obtain ⟨v, r, rfl, h1, h2⟩ := h
  have : r = [] := h2
  subst this
  exact ⟨v, rfl, h1⟩
theorem len_two {K : PySem.W.Frag} {H : Hp} {d d' : Dv} {vs : List V} (h : RepL K H [d, d'] vs) : ∃ v w, vs = [v, w] ∧ Rep K H d v ∧ Rep K H d' w := by
  obtain ⟨v, r, rfl, h1, h2⟩ := h
  obtain ⟨w, rfl, h3⟩ := len_one h2
  exact ⟨v, w, rfl, h1, h3⟩
theorem len_three {K : PySem.W.Frag} {H : Hp} {d d' d'' : Dv} {vs : List V} (h : RepL K H [d, d', d''] vs) : ∃ v w z, vs = [v, w, z] ∧ Rep K H d v ∧ Rep K H d' w ∧ Rep K H d'' z := by
  obtain ⟨v, r, rfl, h1, h2⟩ := h
  obtain ⟨w, z, rfl, h3, h4⟩ := len_two h2
  exact ⟨v, w, z, rfl, h1, h3, h4⟩
abbrev DF := List Dv → DH → DVK → Prop
def CallOk (K : PySem.W.Frag) (r : List V → Hp → VK → Prop) (f : DF) : Prop := ∀ H Hd vs ds Q Qd, RepH K H Hd → RepL K H ds vs → f ds Hd Qd → KE K H Hd Qd Q → r vs H Q
def dFn (f : DF) (t : DTA) : DTE := fun σ H Q => t σ H fun ds H1 => f ds H1 Q
section
variable {X : Cx} {x : Str} {p pos : Pos} {e : Expr} {es : List Expr} {t : DTA} {bid T : String} {r : List V → Hp → VK → Prop} {f : DF}
theorem de_callB (hc : CallR X (.builtin bid) r) (hf : CallOk X.K r f) (hg : Gl X x) (hm : X.mg x = none) (hv : bootBuiltins x = some (.builtin bid)) (ha : DA X (e :: es) t) (hn : x ≠ "__name__" := by decide) (hdb : (x == ("__debug__" : Str)) = false := by decide)
    (he : starEach (e :: es) X.env = (false, eval e X.env) :: starEach es X.env := by rfl) (hpl : (backTo pos (starEach es X.env)).any (·.1) = false := by rfl) : DE X (.Call (.Name x p) (e :: es) [] pos) (dFn f t) :=
  de_of (pe_callB hc hg hm hv ha hn hdb he hpl) fun σ H Q σd Hd Qd rs rh q k => ⟨σd, Hd, _, rs, rh, q, fun vs H1 ds Hd1 s1 r1 rl q1 => hf H1 Hd1 vs ds Q Qd r1 rl q1 (k.at s1)⟩
theorem de_callTy (hc : CallR X (.type T) r) (hf : CallOk X.K r f) (hg : Gl X x) (hm : X.mg x = none) (hv : bootBuiltins x = some (.type T)) (ha : DA X (e :: es) t) (hn : x ≠ "__name__" := by decide) (hdb : (x == ("__debug__" : Str)) = false := by decide)
    (he : starEach (e :: es) X.env = (false, eval e X.env) :: starEach es X.env := by rfl) (hpl : (backTo pos (starEach es X.env)).any (·.1) = false := by rfl) : DE X (.Call (.Name x p) (e :: es) [] pos) (dFn f t) :=
  de_of (pe_callTy hc hg hm hv ha hn hdb he hpl) fun σ H Q σd Hd Qd rs rh q k => ⟨σd, Hd, _, rs, rh, q, fun vs H1 ds Hd1 s1 r1 rl q1 => hf H1 Hd1 vs ds Q Qd r1 rl q1 (k.at s1)⟩
/-! len, abs, isinstance -/
def fLen : DF := fun ds H Q => match ds with
  | [.tup xs] => Q (.int xs.length) H
  | [.lsv xs] => Q (.int xs.length) H
  | [.ref a] => ∃ xs, H a = some (.lst xs) ∧ Q (.int xs.length) H
  | [.str z] => z.length ≤ sizeLine ∧ Q (.int z.length) H
  | _ => False
theorem ok_len {K : PySem.W.Frag} : CallOk K (fun xs H Q => ∃ x n, xs = [x] ∧ LenV K x H n ∧ Q (.int n) H) fLen := by
  intro H Hd vs ds Q Qd rh rl q k
  unfold fLen at q
  split at q
  · obtain ⟨v, rfl, r⟩ := len_one rl
    obtain ⟨a, ws, rfl, h, l⟩ := r
    exact ⟨_, ws.length, rfl, .inr ⟨ws, h, rfl⟩, by rw [← l.length]; exact k _ H (.int _) Hd .refl rh rfl q⟩
  · obtain ⟨v, rfl, r⟩ := len_one rl
    obtain ⟨a, ws, rfl, h, l⟩ := r
    exact ⟨_, ws.length, rfl, .inl ⟨ws, h.sq, rfl⟩, by rw [← l.length]; exact k _ H (.int _) Hd .refl rh rfl q⟩
  · obtain ⟨v, rfl, r⟩ := len_one rl
    obtain ⟨xs, h, q⟩ := q
    obtain ⟨ws, e1, l⟩ := rh _ _ h
    cases (show v = _ from r)
    exact ⟨_, ws.length, rfl, .inl ⟨ws, .of e1, rfl⟩, by rw [← l.length]; exact k _ H (.int _) Hd .refl rh rfl q⟩
  · obtain ⟨v, rfl, r⟩ := len_one rl
    cases (show v = _ from r)
    exact ⟨_, _, rfl, ⟨q.1, rfl⟩, k _ H (.int _) Hd .refl rh rfl q.2⟩
  · exact q.elim
def fAbs : DF := fun ds H Q => match ds with
  | [.int i] => Q (.int i.natAbs) H
  | _ => False
theorem ok_abs {K : PySem.W.Frag} : CallOk K (fun xs H Q => ∃ i, xs = [.int i] ∧ Q (.int (if i < 0 then -i else i)) H) fAbs := by
  intro H Hd vs ds Q Qd rh rl q k
  unfold fAbs at q
  split at q
  · rename_i i
    obtain ⟨v, rfl, r⟩ := len_one rl
    cases (show v = _ from r)
    refine ⟨i, rfl, ?_⟩
    have e : (if i < 0 then -i else i) = ((i.natAbs : Nat) : Int) := by
      split <;> omega
    rw [e]
    exact k _ H (.int _) Hd .refl rh rfl q
  · exact q.elim
/-- by kind -/
def isI (n : String) : Dv → Bool
  | .bl _ => n == "bool" || n == "int"
  | .int _ => n == "int"
  | .str _ => n == "str"
  | .tup _ => n == "tuple"
  | .lsv _ => n == "list"
  | .ref _ => n == "list"
  | _ => false
def fIsi : DF := fun ds H Q => match ds with
  | [.ref a, .ty n] => (n == "bool" || n == "int" || n == "str" || n == "tuple" || n == "list") = true ∧ ∃ xs, H a = some (.lst xs) ∧ Q (.bl (isI n (.ref a))) H
  | [.ty _, _] => False
  | [d, .ty n] => (n == "bool" || n == "int" || n == "str" || n == "tuple" || n == "list") = true ∧ Q (.bl (isI n d)) H
  | _ => False
theorem ok_isi {K : PySem.W.Frag} : CallOk K (rIsi K) fIsi := by
  intro H Hd vs ds Q Qd rh rl q k
  have fin : ∀ {x : V} {n : String} {t : String} {b : Bool}, (n == "bool" || n == "int" || n == "str" || n == "tuple" || n == "list") = true → TyX K H x (.type t) → (∀ n, n = "bool" ∨ n = "int" ∨ n = "str" ∨ n = "tuple" ∨ n = "list" → kitB t n = some (match t with | "bool" => n == "bool" || n == "int" | t => n == t)) →
      b = (match t with | "bool" => n == "bool" || n == "int" | t => n == t) → Q (.bl b) H → rIsi K [x, .ty n] H Q := fun {x n t b} hn ty kk e qq => by
    have hn' : n = "bool" ∨ n = "int" ∨ n = "str" ∨ n = "tuple" ∨ n = "list" := by
      simp only [Bool.or_eq_true, beq_iff_eq] at hn
      rcases hn with (((h | h) | h) | h) | h
      · exact .inl h
      · exact .inr (.inl h)
      · exact .inr (.inr (.inl h))
      · exact .inr (.inr (.inr (.inl h)))
      · exact .inr (.inr (.inr (.inr h)))
    exact ⟨x, .ty n, .type t, .type n, b, rfl, .ty n, ty, by rw [e]; exact kit_ty (kk n hn'), qq⟩
  have tab : ∀ t : String, t = "NoneType" ∨ t = "bool" ∨ t = "int" ∨ t = "str" ∨ t = "tuple" ∨ t = "list" → ∀ n, n = "bool" ∨ n = "int" ∨ n = "str" ∨ n = "tuple" ∨ n = "list" → kitB t n = some (match t with | "bool" => n == "bool" || n == "int" | t => n == t) := by
    intro t ht n hn
    rcases ht with rfl | rfl | rfl | rfl | rfl | rfl <;> rcases hn with rfl | rfl | rfl | rfl | rfl <;> decide +kernel
  unfold fIsi at q
  split at q
  · obtain ⟨v, w, rfl, rv, rw'⟩ := len_two rl
    obtain ⟨hn, xs, h, q⟩ := q
    cases (show v = _ from rv)
    cases (show w = _ from rw')
    obtain ⟨ws, e1, l⟩ := rh _ _ h
    exact fin hn (.base (.lst e1)) (tab "list" (by simp)) rfl (k _ H (.bl _) Hd .refl rh rfl q)
  · exact q.elim
  · rename_i d n nr nt
    obtain ⟨v, w, rfl, rv, rw'⟩ := len_two rl
    obtain ⟨hn, q⟩ := q
    cases (show w = _ from rw')
    have q' := k _ H (.bl (isI n d)) Hd .refl rh rfl q
    cases d with
    | non =>
      cases (show v = _ from rv)
      refine fin hn (.base .non) (tab "NoneType" (by simp)) ?_ q'
      simp only [Bool.or_eq_true, beq_iff_eq] at hn
      rcases hn with (((h | h) | h) | h) | h <;> subst h <;> decide
    | bl b => cases (show v = _ from rv); exact fin hn (.base (.bl _)) (tab "bool" (by simp)) rfl q'
    | int b => cases (show v = _ from rv); exact fin hn (.base (.int _)) (tab "int" (by simp)) rfl q'
    | str b => cases (show v = _ from rv); exact fin hn (.base (.str _)) (tab "str" (by simp)) rfl q'
    | tup xs =>
      obtain ⟨a, ws, rfl, h, l⟩ := rv
      have ty : TyX K H (.ref a) (.type "tuple") := by
        rcases h with (h | ⟨o, h⟩) | ⟨o, its, m, h1, h2, _⟩
        · exact .base (.tup h)
        · exact .fTuple h
        · exact .kTuple h1 h2
      exact fin hn ty (tab "tuple" (by simp)) rfl q'
    | lsv xs =>
      obtain ⟨a, ws, rfl, h, l⟩ := rv
      have ty : TyX K H (.ref a) (.type "list") := by
        rcases h with ⟨o, h⟩ | ⟨o, its, m, h1, h2, _⟩
        · exact .base (.frz h)
        · exact .kList h1 h2
      exact fin hn ty (tab "list" (by simp)) rfl q'
    | ref a => exact absurd rfl (nr a)
    | ty m => exact absurd rfl (nt m)
  · exact q.elim
/-! int(..), list(..), tuple(..) -/
def fInt : DF := fun ds H Q => match ds with
  | [.int i] => Q (.int i) H
  | [.bl b] => Q (.int (if b then 1 else 0)) H
  | _ => False
theorem ok_int {K : PySem.W.Frag} : CallOk K (fun xs H Q => (∃ i, xs = [.int i] ∧ Q (.int i) H) ∨ ∃ k, xs = [.bl k] ∧ Q (.int (if k then 1 else 0)) H) fInt := by
  intro H Hd vs ds Q Qd rh rl q k
  unfold fInt at q
  split at q
  · obtain ⟨v, rfl, r⟩ := len_one rl
    cases (show v = _ from r)
    exact .inl ⟨_, rfl, k _ H (.int _) Hd .refl rh rfl q⟩
  · obtain ⟨v, rfl, r⟩ := len_one rl
    cases (show v = _ from r)
    exact .inr ⟨_, rfl, k _ H (.int _) Hd .refl rh rfl q⟩
  · exact q.elim
def fList : DF := fun ds H Q => match ds with
  | [.tup xs] => ∀ p, H p = none → Q (.ref p) (upD H p (.lst xs))
  | [.lsv xs] => ∀ p, H p = none → Q (.ref p) (upD H p (.lst xs))
  | [.ref a] => ∃ xs, H a = some (.lst xs) ∧ ∀ p, H p = none → Q (.ref p) (upD H p (.lst xs))
  | _ => False
theorem ok_list {K : PySem.W.Frag} : CallOk K (fun xs H Q => ∃ p ys, xs = [.ref p] ∧ (SqL K H p ys ∨ SqT K H p ys) ∧ ∀ l, H l = none → Q (.ref l) (upd H l (.lst ys))) fList := by
  intro H Hd vs ds Q Qd rh rl q k
  unfold fList at q
  split at q
  · obtain ⟨v, rfl, r⟩ := len_one rl
    obtain ⟨a, ws, rfl, h, l⟩ := r
    exact ⟨a, ws, rfl, .inr h, fun p hp => k _ _ (.ref p) (upD Hd p (.lst _)) (.layL hp) (rh.layL hp l) rfl (q p (rh.free hp))⟩
  · obtain ⟨v, rfl, r⟩ := len_one rl
    obtain ⟨a, ws, rfl, h, l⟩ := r
    exact ⟨a, ws, rfl, .inl h.sq, fun p hp => k _ _ (.ref p) (upD Hd p (.lst _)) (.layL hp) (rh.layL hp l) rfl (q p (rh.free hp))⟩
  · obtain ⟨v, rfl, r⟩ := len_one rl
    obtain ⟨xs, h, q⟩ := q
    obtain ⟨ws, e1, l⟩ := rh _ _ h
    cases (show v = _ from r)
    exact ⟨_, ws, rfl, .inl (.of e1), fun p hp => k _ _ (.ref p) (upD Hd p (.lst _)) (.layL hp) (rh.layL hp l) rfl (q p (rh.free hp))⟩
  · exact q.elim
def fTuple : DF := fun ds H Q => match ds with
  | [.tup xs] => Q (.tup xs) H
  | [.lsv xs] => Q (.tup xs) H
  | [.ref a] => ∃ xs, H a = some (.lst xs) ∧ Q (.tup xs) H
  | _ => False
theorem ok_tuple {K : PySem.W.Frag} : CallOk K (fun xs H Q => ∃ p ys, xs = [.ref p] ∧ ((SqL K H p ys ∧ ∀ l, H l = none → Q (.ref l) (upd H l (.tup ys))) ∨ (SqT K H p ys ∧ Q (.ref p) H))) fTuple := by
  intro H Hd vs ds Q Qd rh rl q k
  have new : ∀ {ws : List V} {xs : List Dv} {p : Addr}, H p = none → RepL K H xs ws → Qd (.tup xs) Hd → Q (.ref p) (upd H p (.tup ws)) := fun {ws xs p} hp l qq =>
    k _ _ (.tup xs) Hd (.lay hp) (rh.lay hp) ⟨p, ws, rfl, .of upd_same, (Stp.lay (Hd := Hd) hp).repL rh l⟩ qq
  unfold fTuple at q
  split at q
  · obtain ⟨v, rfl, r⟩ := len_one rl
    obtain ⟨a, ws, rfl, h, l⟩ := r
    exact ⟨a, ws, rfl, .inr ⟨h, k _ H (.tup _) Hd .refl rh ⟨a, ws, rfl, h, l⟩ q⟩⟩
  · obtain ⟨v, rfl, r⟩ := len_one rl
    obtain ⟨a, ws, rfl, h, l⟩ := r
    exact ⟨a, ws, rfl, .inl ⟨h.sq, fun p hp => new hp l q⟩⟩
  · obtain ⟨v, rfl, r⟩ := len_one rl
    obtain ⟨xs, h, q⟩ := q
    obtain ⟨ws, e1, l⟩ := rh _ _ h
    cases (show v = _ from r)
    exact ⟨_, ws, rfl, .inl ⟨.of e1, fun p hp => new hp l q⟩⟩
  · exact q.elim
/-! max, min of two, all, any, sum -/
def fMax2 : DF := fun ds H Q => match ds with
  | [.int i, .int j] => Q (.int (if j > i then j else i)) H
  | _ => False
def fMin2 : DF := fun ds H Q => match ds with
  | [.int i, .int j] => Q (.int (if j < i then j else i)) H
  | _ => False
theorem ok_max2 {K : PySem.W.Frag} : CallOk K (fun xs H Q => ∃ i j, xs = [.int i, .int j] ∧ Q (.int (if j > i then j else i)) H) fMax2 := by
  intro H Hd vs ds Q Qd rh rl q k
  unfold fMax2 at q
  split at q
  · obtain ⟨v, w, rfl, r1, r2⟩ := len_two rl
    cases (show v = _ from r1)
    cases (show w = _ from r2)
    exact ⟨_, _, rfl, k _ H (.int _) Hd .refl rh rfl q⟩
  · exact q.elim
theorem ok_min2 {K : PySem.W.Frag} : CallOk K (fun xs H Q => ∃ i j, xs = [.int i, .int j] ∧ Q (.int (if j < i then j else i)) H) fMin2 := by
  intro H Hd vs ds Q Qd rh rl q k
  unfold fMin2 at q
  split at q
  · obtain ⟨v, w, rfl, r1, r2⟩ := len_two rl
    cases (show v = _ from r1)
    cases (show w = _ from r2)
    exact ⟨_, _, rfl, k _ H (.int _) Hd .refl rh rfl q⟩
  · exact q.elim
theorem RepL.bls {K : PySem.W.Frag} {H : Hp} : ∀ {bs : List Bool} {vs : List V}, RepL K H (bs.map Dv.bl) vs → vs = bs.map V.bl
  | [], _, h => h
  | b :: bs, _, h => by
    obtain ⟨v, r, rfl, h1, h2⟩ := h
    rw [show v = _ from h1, RepL.bls h2]; rfl
theorem RepL.nums {K : PySem.W.Frag} {H : Hp} : ∀ {bs : List Int} {vs : List V}, RepL K H (bs.map Dv.int) vs → vs = bs.map V.int
  | [], _, h => h
  | b :: bs, _, h => by
    obtain ⟨v, r, rfl, h1, h2⟩ := h
    rw [show v = _ from h1, RepL.nums h2]; rfl
def fAll : DF := fun ds H Q => match ds with
  | [.lsv xs] => ∃ bs : List Bool, xs = bs.map .bl ∧ Q (.bl (bs.all id)) H
  | [.ref a] => ∃ bs : List Bool, H a = some (.lst (bs.map .bl)) ∧ Q (.bl (bs.all id)) H
  | _ => False
def fAny : DF := fun ds H Q => match ds with
  | [.lsv xs] => ∃ bs : List Bool, xs = bs.map .bl ∧ Q (.bl (bs.any id)) H
  | [.ref a] => ∃ bs : List Bool, H a = some (.lst (bs.map .bl)) ∧ Q (.bl (bs.any id)) H
  | _ => False
def fSum : DF := fun ds H Q => match ds with
  | [.lsv xs] => ∃ ns : List Int, xs = ns.map .int ∧ Q (.int ns.sum) H
  | [.ref a] => ∃ ns : List Int, H a = some (.lst (ns.map .int)) ∧ Q (.int ns.sum) H
  | _ => False
theorem ok_all {K : PySem.W.Frag} : CallOk K (rAll K) fAll := by
  intro H Hd vs ds Q Qd rh rl q k
  unfold fAll at q
  split at q
  · obtain ⟨v, rfl, r⟩ := len_one rl
    obtain ⟨bs, e, q⟩ := q
    obtain ⟨a, ws, rfl, h, l⟩ := r
    subst e
    exact ⟨_, bs, rfl, by rw [← l.bls]; exact h.sq, k _ H (.bl _) Hd .refl rh rfl q⟩
  · obtain ⟨v, rfl, r⟩ := len_one rl
    obtain ⟨bs, h, q⟩ := q
    obtain ⟨ws, e1, l⟩ := rh _ _ h
    cases (show v = _ from r)
    exact ⟨_, bs, rfl, .of (by rw [← l.bls]; exact e1), k _ H (.bl _) Hd .refl rh rfl q⟩
  · exact q.elim
theorem ok_any {K : PySem.W.Frag} : CallOk K (rAny K) fAny := by
  intro H Hd vs ds Q Qd rh rl q k
  unfold fAny at q
  split at q
  · obtain ⟨v, rfl, r⟩ := len_one rl
    obtain ⟨bs, e, q⟩ := q
    obtain ⟨a, ws, rfl, h, l⟩ := r
    subst e
    exact ⟨_, bs, rfl, by rw [← l.bls]; exact h.sq, k _ H (.bl _) Hd .refl rh rfl q⟩
  · obtain ⟨v, rfl, r⟩ := len_one rl
    obtain ⟨bs, h, q⟩ := q
    obtain ⟨ws, e1, l⟩ := rh _ _ h
    cases (show v = _ from r)
    exact ⟨_, bs, rfl, .of (by rw [← l.bls]; exact e1), k _ H (.bl _) Hd .refl rh rfl q⟩
  · exact q.elim
theorem ok_sum {K : PySem.W.Frag} : CallOk K (rSum K) fSum := by
  intro H Hd vs ds Q Qd rh rl q k
  unfold fSum at q
  split at q
  · obtain ⟨v, rfl, r⟩ := len_one rl
    obtain ⟨bs, e, q⟩ := q
    obtain ⟨a, ws, rfl, h, l⟩ := r
    subst e
    exact ⟨_, bs, rfl, by rw [← l.nums]; exact h.sq, k _ H (.int _) Hd .refl rh rfl q⟩
  · obtain ⟨v, rfl, r⟩ := len_one rl
    obtain ⟨bs, h, q⟩ := q
    obtain ⟨ws, e1, l⟩ := rh _ _ h
    cases (show v = _ from r)
    exact ⟨_, bs, rfl, .of (by rw [← l.nums]; exact e1), k _ H (.int _) Hd .refl rh rfl q⟩
  · exact q.elim
end
/-! ## methods of lists -/
abbrev DM := Dv → List Dv → DH → DVK → Prop
def MtOk (K : PySem.W.Frag) (r : V → List V → Hp → VK → Prop) (f : DM) : Prop := ∀ H Hd x vs d ds Q Qd, RepH K H Hd → Rep K H d x → RepL K H ds vs → f d ds Hd Qd → KE K H Hd Qd Q → r x vs H Q
def isL (d : Dv) (H : DH) : Prop := match d with
  | .ref p => ∃ ds, H p = some (.lst ds)
  | .lsv _ => True
  | _ => False
def dMt0 (f : DM) (to : DTE) : DTE := fun σ H Q => to σ H fun d H1 => isL d H1 ∧ f d [] H1 Q
def dMt (f : DM) (to : DTE) (t : DTA) : DTE := fun σ H Q => to σ H fun d H1 => isL d H1 ∧ t σ H1 fun ds H2 => f d ds H2 Q
theorem ty_list {K : PySem.W.Frag} {H : Hp} {Hd : DH} {d : Dv} {v : V} (rh : RepH K H Hd) (r : Rep K H d v) (h : isL d Hd) : tyV K "list" v H := by
  cases d with
  | ref p =>
    cases (show v = _ from r)
    obtain ⟨ds, h⟩ := h
    obtain ⟨vs, e, _⟩ := rh _ _ h
    exact .inl ⟨rfl, vs, .of e⟩
  | lsv ds =>
    obtain ⟨a, vs, rfl, h, l⟩ := r
    exact .inl ⟨rfl, vs, h.sq⟩
  | _ => exact h.elim
section
variable {X : Cx} {o e : Expr} {es : List Expr} {to : DTE} {t : DTA} {name : Str} {apos cpos : Pos} {id : String} {r : V → List V → Hp → VK → Prop} {f : DM}
theorem de_mt0 (slot : Slot "list" name id) (hty : typeOf (.builtin id) = pure (.type "method_descriptor")) (hm : MtR X id r) (hf : MtOk X.K r f) (ho : DE X o to)
    (hbase : attributeBase o name X.env (eval o X.env) = eval o X.env := by rfl) (hline : (apos.endLine == cpos.line) = true := by rfl) : DE X (.Call (.Attribute o name apos) [] [] cpos) (dMt0 f to) :=
  de_of (pe_bm0 PySem.F.plainAttrs_list slot hty hm ho hbase hline) fun σ H Q σd Hd Qd rs rh q k => ⟨σd, Hd, _, rs, rh, q, fun v H1 d Hd1 s1 r1 rv q1 =>
    ⟨ty_list r1 rv q1.1, hf H1 Hd1 v [] d [] Q Qd r1 rv rfl q1.2 (k.at s1)⟩⟩
theorem de_mt (slot : Slot "list" name id) (hty : typeOf (.builtin id) = pure (.type "method_descriptor")) (hm : MtR X id r) (hf : MtOk X.K r f) (ho : DE X o to) (ha : DA X (e :: es) t)
    (hbase : attributeBase o name X.env (eval o X.env) = eval o X.env := by rfl)
    (hfew : ((backTo cpos (starEach (e :: es) X.env)).all (fun x => !x.1) && (backToKw cpos (keywordEach [] X.env)).all (fun x => x.1.isSome)
      && decide ((e :: es).length + ([] : List Keyword).length + (if ([] : List Keyword).isEmpty then 0 else 1) < 30)) = true := by rfl)
    (hline : (apos.endLine == cpos.line) = true := by rfl) (hs : starEach (e :: es) X.env = (false, eval e X.env) :: starEach es X.env := by rfl) (hplain : (backTo cpos (starEach es X.env)).any (·.1) = false := by rfl) :
    DE X (.Call (.Attribute o name apos) (e :: es) [] cpos) (dMt f to t) :=
  de_of (pe_bm PySem.F.plainAttrs_list slot hty hm ho ha hbase hfew hline hs hplain) fun σ H Q σd Hd Qd rs rh q k => ⟨σd, Hd, _, rs, rh, q, fun v H1 d Hd1 s1 r1 rv q1 =>
    ⟨ty_list r1 rv q1.1, σd, Hd1, _, s1.repS rh rs, r1, q1.2, fun vs H2 ds Hd2 s2 r2 rl q2 => hf H2 Hd2 v vs d ds Q Qd r2 (s2.rep r1 rv) rl q2 (k.at (s1.trans s2))⟩⟩
def fAppend : DM := fun d ds H Q => match d, ds with
  | .ref p, [y] => ∃ xs, H p = some (.lst xs) ∧ xs.length < sizeLine ∧ Q .non (upD H p (.lst (xs ++ [y])))
  | _, _ => False
theorem ok_append {K : PySem.W.Frag} : MtOk K rAppend fAppend := by
  intro H Hd x vs d ds Q Qd rh rx rl q k
  unfold fAppend at q
  split at q
  · obtain ⟨v, rfl, r⟩ := len_one rl
    obtain ⟨xs, h, hz, q⟩ := q
    obtain ⟨ws, e1, l⟩ := rh _ _ h
    refine ⟨_, ws, v, rx, rfl, e1, by rw [← l.length]; exact hz, ?_⟩
    exact k _ _ .non _ (.put h) (rh.put h (l.append (.one r))) rfl q
  · exact q.elim
def fExtend : DM := fun d ds H Q => match d, ds with
  | .ref p, [.ref b] => ∃ xs zs, H p = some (.lst xs) ∧ H b = some (.lst zs) ∧ xs.length + zs.length ≤ sizeLine ∧ Q .non (upD H p (.lst (xs ++ zs)))
  | _, _ => False
theorem ok_extend {K : PySem.W.Frag} : MtOk K rExtend fExtend := by
  intro H Hd x vs d ds Q Qd rh rx rl q k
  unfold fExtend at q
  split at q
  · obtain ⟨v, rfl, r⟩ := len_one rl
    obtain ⟨xs, zs, h, h', hz, q⟩ := q
    obtain ⟨ws, e1, l⟩ := rh _ _ h
    obtain ⟨us, e2, l2⟩ := rh _ _ h'
    cases (show v = _ from r)
    refine ⟨_, _, ws, us, rx, rfl, e1, e2, by rw [← l.length, ← l2.length]; exact hz, ?_⟩
    exact k _ _ .non _ (.put h) (rh.put h (l.append l2)) rfl q
  · exact q.elim
def fPop : DM := fun d ds H Q => match d, ds with
  | .ref p, [] => ∃ xs y, H p = some (.lst xs) ∧ xs[xs.length - 1]? = some y ∧ Q y (upD H p (.lst xs.dropLast))
  | _, _ => False
theorem RepL.dropLast {K : PySem.W.Frag} {H : Hp} {ds : List Dv} {vs : List V} (h : RepL K H ds vs) : RepL K H ds.dropLast vs.dropLast := by
  rw [List.dropLast_eq_take, List.dropLast_eq_take, h.length]
  exact h.take _
theorem ok_pop {K : PySem.W.Frag} : MtOk K rPop fPop := by
  intro H Hd x vs d ds Q Qd rh rx rl q k
  unfold fPop at q
  split at q
  · have e : vs = [] := rl
    subst e
    obtain ⟨xs, y, h, hy, q⟩ := q
    obtain ⟨ws, e1, l⟩ := rh _ _ h
    obtain ⟨v, e2, r⟩ := l.get hy
    refine ⟨_, ws, v, rx, rfl, e1, by rw [← l.length]; exact e2, ?_⟩
    exact k _ _ y _ (.put h) (rh.put h l.dropLast) ((Stp.put (H := H) (Hd := Hd) (u' := .lst xs.dropLast) h).rep rh r) q
  · exact q.elim
def fPopAt : DM := fun d ds H Q => match d, ds with
  | .ref p, [.int i] => ∃ xs j y, H p = some (.lst xs) ∧ -(2 ^ 63) ≤ i ∧ i < 2 ^ 63 ∧ seqIndex? i xs.length = some j ∧ xs[j]? = some y ∧ Q y (upD H p (.lst (xs.eraseIdx j)))
  | _, _ => False
theorem ok_popAt {K : PySem.W.Frag} : MtOk K rPopAt fPopAt := by
  intro H Hd x vs d ds Q Qd rh rx rl q k
  unfold fPopAt at q
  split at q
  · obtain ⟨w, rfl, r⟩ := len_one rl
    cases (show w = _ from r)
    obtain ⟨xs, j, y, h, h1, h2, h3, hy, q⟩ := q
    obtain ⟨ws, e1, l⟩ := rh _ _ h
    obtain ⟨v, e2, r⟩ := l.get hy
    refine ⟨_, ws, _, j, v, rx, rfl, e1, h1, h2, by rw [← l.length]; exact h3, e2, ?_⟩
    exact k _ _ y _ (.put h) (rh.put h (l.erase j)) ((Stp.put (H := H) (Hd := Hd) (u' := .lst (xs.eraseIdx j)) h).rep rh r) q
  · exact q.elim
end
/-! ## calls of the text's own defs -/
/-- a def's promise by values -/
abbrev DSp := List Dv → DH → DVK → Prop
def lSp (K : PySem.W.Frag) (sp : DSp) : Sp := fun vs H Q _ => ∃ ds Hd Qd, RepL K H ds vs ∧ RepH K H Hd ∧ sp ds Hd Qd ∧ KE K H Hd Qd Q
section
variable {X : Cx} {k : Nat} {f : Addr} {fd : FuncData} {ps ks : List Str} {sp : DSp} {dvs : List V} {dds : List Dv} {ds : List Value} {x : Str} {p pos : Pos} {e : Expr} {es : List Expr} {kws : List Keyword} {t tk : DTA}
abbrev dCall (sp : DSp) (dds : List Dv) (t : DTA) : DTE := fun σ H Q => t σ H fun xs H1 => sp (xs ++ dds) H1 Q
theorem de_call {CX : CXT} (F : FnOk X.prog X.w X.K X.mg X.base CX k f fd ps (lSp X.K sp)) (hr : Room k X.A) (hg : Gl X x) (hm : X.mg x = some (.ref f)) (hk : PySem.W.keepIn X.K (.ref f) = true) (hb : Binds X.K fd ps ds) (hd : Vals dvs ds) (hdd : ∀ H, RepL X.K H dds dvs) (hx : Passes CX X E0)
    (ha : DA X (e :: es) t) (hdb : (x == ("__debug__" : Str)) = false := by decide) (he : starEach (e :: es) X.env = (false, eval e X.env) :: starEach es X.env := by rfl) (hpl : (backTo pos (starEach es X.env)).any (·.1) = false := by rfl) :
    DE X (.Call (.Name x p) (e :: es) [] pos) (dCall sp dds t) :=
  de_of (pe_call F hr hg hm hk hb hd hx ha hdb he hpl) fun σ H Q σd Hd Qd rs rh q k => ⟨σd, Hd, _, rs, rh, q, fun vs H1 xs Hd1 s1 r1 rl q1 => ⟨xs ++ dds, Hd1, Qd, rl.append (hdd H1), r1, q1, k.at s1⟩⟩
theorem de_call0 {CX : CXT} (F : FnOk X.prog X.w X.K X.mg X.base CX k f fd ps (lSp X.K sp)) (hr : Room k X.A) (hg : Gl X x) (hm : X.mg x = some (.ref f)) (hk : PySem.W.keepIn X.K (.ref f) = true) (hb : Binds X.K fd ps ds) (hd : Vals dvs ds) (hdd : ∀ H, RepL X.K H dds dvs) (hx : Passes CX X E0)
    (hdb : (x == ("__debug__" : Str)) = false := by decide) : DE X (.Call (.Name x p) [] [] pos) (dCall sp dds dNil) :=
  de_of (pe_call0 F hr hg hm hk hb hd hx hdb) fun σ H Q σd Hd Qd rs rh q k => ⟨dds, Hd, Qd, hdd H, rh, q, k⟩
/-- f(k = e): keywords alone, in the parameters' order -/
structure KwOk (K : PySem.W.Frag) (fd : FuncData) (ps ks : List Str) : Prop where
  to : ∀ (s : Shared) (ws : List Value), K.In s.heap → ws.length = ks.length → BindsTo s fd ⟨[], ks.zip ws⟩ (ps.zip ws)
  len : ks.length = ps.length
abbrev DK (X : Cx) (kws : List Keyword) (t : DTA) : Prop := PK X kws (lA X.K t)
theorem dk_nil : DK X [] dNil := ⟨fun o pins s σ H Q I ⟨σd, Hd, Qd, rs, rh, q, k⟩ => pk_nil.run o pins s σ H Q I (k [] H [] Hd .refl rh rfl q)⟩
theorem dk_cons {te : DTE} {nm : Option Str} {kpos : Pos} (ha : DE X e te) (hr : DK X kws t) : DK X (⟨nm, e, kpos⟩ :: kws) (dCons te t) := ⟨fun o pins s σ H Q I ⟨σd, Hd, Qd, rs, rh, q, k⟩ => (pk_cons ha hr).run o pins s σ H Q I
  ⟨σd, Hd, _, rs, rh, q, fun v H1 d Hd1 s1 r1 rv q1 => ⟨σd, Hd1, _, s1.repS rh rs, r1, q1, fun vs H2 xs Hd2 s2 r2 rvs q2 => k (v :: vs) H2 (d :: xs) Hd2 (s1.trans s2) r2 ⟨v, vs, rfl, s2.rep r1 rv, rvs⟩ q2⟩⟩⟩
theorem de_callK {CX : CXT} (F : FnOk X.prog X.w X.K X.mg X.base CX k f fd ps (lSp X.K sp)) (hr : Room k X.A) (hg : Gl X x) (hm : X.mg x = some (.ref f)) (hk : PySem.W.keepIn X.K (.ref f) = true) (hb : KwOk X.K fd ps ks) (hx : Passes CX X E0)
    (hkw : DK X kws tk) (hall : (backToKw pos (keywordEach kws X.env)).all (·.1.isSome) = true := by rfl) (hks : (backToKw pos (keywordEach kws X.env)).filterMap (·.1) = ks := by rfl)
    (hdb : (x == ("__debug__" : Str)) = false := by decide) (hpl : ((backTo pos (starEach [] X.env)).any (·.1) || (backToKw pos (keywordEach kws X.env)).any (·.1.isNone)) = false := by rfl) :
    DE X (.Call (.Name x p) [] kws pos) (dCall sp [] tk) := by
  refine ⟨fun pins s σ H Q I ⟨σd, Hd, Qd, rs, rh, q, kk⟩ => ?_⟩
  refine wpAny_Call_Name_kw (ld_glob I hg hm ?_ hdb)
  refine PySem.W.callWith_KW0 (h₀ := X.base) I.ok.mod.kin hk hall ?_ hpl
  refine thn (hkw.run pos pins s σ H (fun vs H1 => ∃ xs Hd1, Stp H Hd H1 Hd1 ∧ RepH X.K H1 Hd1 ∧ RepL X.K H1 xs vs ∧ sp (xs ++ []) Hd1 Qd) I ⟨σd, Hd, _, rs, rh, q, fun vs H1 xs Hd1 s1 r1 rl q1 => ⟨xs, Hd1, s1, r1, rl, q1⟩⟩)
    fun ws s2 ⟨zs, H2, I2, rz, xs, Hd1, s1, r1, rl, q1⟩ => ⟨I2.kIn, ?_⟩
  rw [List.append_nil] at q1
  rw [hks]
  have want : lSp X.K sp zs H2 Q E0 := ⟨xs, Hd1, Qd, rl, r1, q1, kk.at s1⟩
  have hl : ws.length = ps.length := by rw [← rz.length]; exact F.len _ _ _ _ want
  refine wpAny_call (codeAny_mono (F.run X.A X.stack s2 H2 ⟨[], ks.zip ws⟩ ws zs Q E0 hr I2.env0 (hb.to s2 ws I2.kIn (by rw [hl, hb.len])) rz want) fun r s' hq => ?_)
  cases r with
  | error e => exact hx pins σ H2 s2 e s' I2 hq
  | ok fl =>
    cases fl with
    | ret u => exact I2.after hq
    | next => exact False.elim hq
    | brk => exact False.elim hq
    | cont => exact False.elim hq
end
/-- the slots at a def's entry -/
def startD (n : Nat) (ds : List Dv) : DS := ds.map some ++ List.replicate (n - ds.length) none
theorem repS_start {K : PySem.W.Frag} {H : Hp} {ds : List Dv} {vs : List V} (N : List Str) (h : RepL K H ds vs) : RepS K H (startD N.length ds) (L2.start N vs) := by
  refine ⟨by unfold startD L2.start; rw [List.length_append, List.length_append, List.length_map, List.length_map, List.length_replicate, List.length_replicate, h.length], fun i d e => ?_⟩
  unfold startD at e
  unfold L2.start
  by_cases hi : i < ds.length
  · rw [List.getElem?_append_left (by rw [List.length_map]; exact hi), List.getElem?_map, List.getElem?_eq_getElem hi] at e
    cases e
    obtain ⟨v, e2, r⟩ := h.get (List.getElem?_eq_getElem hi)
    exact ⟨v, by rw [List.getElem?_append_left (by rw [List.length_map, ← h.length]; exact hi), List.getElem?_map, e2]; rfl, r⟩
  · rw [List.getElem?_append_right (by rw [List.length_map]; omega)] at e
    have := List.mem_of_getElem? e
    rw [List.mem_replicate] at this
    cases this.2
/-- what a def's body must reach: its value in a part of the heap -/
def outD (Q : DVK) : DEnds := { nx := fun _ Hf => ∃ Hg, Sub Hg Hf ∧ Q .non Hg, rt := fun d Hf => ∃ Hg, Sub Hg Hf ∧ Q d Hg }
/-- THE RULE for a def that lets nothing out -/
theorem Fun.okD {P : Program} {w : World} {K : PySem.W.Frag} {mg : Str → Option Value} {base : Heap} {x qual : Str} {st : Stmt} {f : Addr} {fd : FuncData} {N ps : List Str} {k : Nat} {sp : DSp} {td : DTS} (F : L2.Fun K x qual st f fd) (S : FnScope N ps (defScope st))
    (len : ∀ ds H Q, sp ds H Q → ds.length = ps.length)
    (hbody : ∀ (cdv : Value) (A : Around) (outer : List Env) (s : Shared) (H : Hp) (E : XK), Room k (A.deeper (envOfC qual (defScope st) s.heap.objs.size f cdv)) → DSs (cxOf CX0 P w K mg base N qual (defScope st) f cdv A outer s H E).nox (defBody st) td)
    (rd : ∀ ds H Q, sp ds H Q → td (outD Q) (startD N.length ds) H) : FnOk P w K mg base CX0 (k + 1) f fd ps (lSp K sp) := by
  refine F.ok S (fun vs H Q E ⟨ds, Hd, Qd, rl, _, q, _⟩ => by rw [← rl.length]; exact len _ _ _ q) (fun cdv A outer s H vs Q E hr ⟨ds, Hd, Qd, rl, rh, q, kk⟩ => ⟨_, hbody cdv A outer s H E hr, ?_⟩)
  refine ⟨startD N.length ds, Hd, outD Qd, repS_start N rl, rh, rd ds Hd Qd q, fun σ' H' σd' Hd' s' r' rs' ⟨Hg, sb, q'⟩ => ?_, fun v H' d Hd' s' r' rv ⟨Hg, sb, q'⟩ => ?_, fun _ _ _ _ _ _ _ q => q.elim, fun _ _ _ _ _ _ _ q => q.elim⟩
  · exact kk _ _ .non Hg (s'.sub sb) (r'.sub sb) rfl q'
  · exact kk _ _ d Hg (s'.sub sb) (r'.sub sb) rv q'
end DL

set_option maxHeartbeats 4000000
namespace DL
open PySem PySem.Spec L2
open PyProof.Rows hiding St
/-! ## lists that nobody changes: a new list is locked at once and carried by value -/
def tFrz (t : TE) : TE := fun σ H Q => t σ H fun v H1 => ∃ p xs, H1 p = some (.lst xs) ∧ ∀ od, Q v (upd H1 p (.frz od (.lst xs)))
section
variable {X : Cx} {e : Expr} {es : List Expr} {pos : Pos}
theorem pe_fz {t : TE} (h : PE X e t) : PE X e (tFrz t) := ⟨fun pins s σ H Q I q => thn (h.run pins s σ H _ I q) fun v s1 ⟨x, H1, I1, r1, p, xs, e2, q1⟩ => by
  obtain ⟨od, I2⟩ := I1.lock e2 trivial
  exact ⟨x, _, I2, r1, q1 od⟩⟩
theorem frz_rep {K : PySem.W.Frag} {H : Hp} {Hd : DH} {p : Addr} {od : Obj} {ds : List Dv} {vs : List V} (rh : RepH K H Hd) (hp : H p = none) (l : RepL K H ds vs) : Rep K (upd H p (.frz od (.lst vs))) (.lsv ds) (.ref p) :=
  ⟨p, vs, rfl, .inl ⟨od, upd_same⟩, (Stp.lay (Hd := Hd) hp).repL rh l⟩
/-- what comes of a new list, locked -/
theorem fz_end {K : PySem.W.Frag} {H : Hp} {Hd : DH} {Qd : DVK} {Q : VK} (k : KE K H Hd Qd Q) (rh : RepH K H Hd) {p : Addr} {ds : List Dv} {vs : List V} (hp : H p = none) (l : RepL K H ds vs) (q : Qd (.lsv ds) Hd) :
    ∃ a xs, (upd H p (.lst vs)) a = some (.lst xs) ∧ ∀ od, Q (.ref p) (upd (upd H p (.lst vs)) a (.frz od (.lst xs))) :=
  ⟨p, vs, upd_same, fun od => by rw [upd_upd]; exact k _ _ (.lsv ds) Hd (.lay hp) (rh.lay hp) (frz_rep rh hp l) q⟩
def dLstF (t : DTA) : DTE := fun σ H Q => t σ H fun ds H1 => ds.length ≤ sizeLine ∧ Q (.lsv ds) H1
theorem de_lstF {t : DTA} (h : DA X es t) : DE X (.List es pos) (dLstF t) := de_of (pe_fz (pe_lst h)) fun σ H Q σd Hd Qd rs rh q k => ⟨σd, Hd, _, rs, rh, q, fun vs H1 ds Hd1 s1 r1 rl ⟨z, q1⟩ =>
  ⟨by rw [← rl.length]; exact z, fun p hp => fz_end (k.at s1) r1 hp rl q1⟩⟩
/-! + -/
def seqL (d : Dv) (H : DH) (k : List Dv → Prop) : Prop := match d with
  | .lsv ds => k ds
  | .ref p => ∃ ds, H p = some (.lst ds) ∧ k ds
  | _ => False
theorem seqL_of {K : PySem.W.Frag} {H : Hp} {Hd : DH} {d : Dv} {v : V} {k : List Dv → Prop} (rh : RepH K H Hd) (r : Rep K H d v) (q : seqL d Hd k) : ∃ a vs ds, v = .ref a ∧ SqL K H a vs ∧ RepL K H ds vs ∧ k ds := by
  cases d with
  | lsv ds => obtain ⟨a, vs, rfl, h, l⟩ := r; exact ⟨a, vs, ds, rfl, h.sq, l, q⟩
  | ref p =>
    obtain ⟨ds, h, q⟩ := q
    obtain ⟨vs, e, l⟩ := rh _ _ h
    exact ⟨p, vs, ds, r, .of e, l, q⟩
  | _ => exact q.elim
def rCatS (K : PySem.W.Frag) : R2 := fun x y H Q => ∃ a b xs ys, x = .ref a ∧ y = .ref b ∧ SqL K H a xs ∧ SqL K H b ys ∧ xs.length + ys.length ≤ sizeLine ∧ ∀ p od, H p = none → Q (.ref p) (upd H p (.frz od (.lst (xs ++ ys))))
theorem op_catS : OpR X (binaryOp .Add) (rCatS X.K) := by
  intro pins s σ H x y v u Q I rx ry ⟨a, b, xs, ys, ex, ey, ha, hb, hz, q⟩
  subst ex ey
  cases rx
  cases ry
  obtain ⟨us, r1, ⟨⟨c1, d1, t1, sl1⟩, n1, o1, k1, _, m1⟩, _⟩ := I.list ha
  obtain ⟨ws, r2, ⟨⟨c2, d2, t2, sl2⟩, n2, o2, k2, _, m2⟩, _⟩ := I.list hb
  simp only at k1 m1 k2 m2
  subst k1 m1 k2 m2
  have size : us.length + ws.length ≤ sizeLine := by rw [← r1.length, ← r2.length]; exact hz
  have join : us.toArray ++ ws.toArray = (us ++ ws).toArray := by simp
  refine concat_meets ⟨_, o1, rfl⟩ ⟨_, o2, rfl⟩ noFill_list_add seq_list_add PySem.F.slot_list_add PySem.F.entry_list_add (PySem.F.args_list_add_2 _ _)
    (list_addW a b us.toArray ws.toArray n1 n2 d1 d2 sl1 sl2 (by simpa using size)) ⟨o1, o2, ?_⟩
  rw [join]
  have fresh := I.hok.fresh (Nat.le_refl s.heap.objs.size)
  have made : Inv X pins σ (upd H s.heap.objs.size (.lst (xs ++ ys))) { s with heap := s.heap.push { cls := .type "list", data := .seq (us ++ ws).toArray } } :=
    I.laid (t' := s.toks) (a := s.heap.objs.size) (o := .lst (xs ++ ys)) (fun b ob e => Heap.get?_push_of_some _ e) (Nat.le_refl _) ⟨by rw [List.length_append]; exact hz, _, 0, r1.append r2, Heap.get?_push_size _ rfl⟩
  obtain ⟨od, kept⟩ := made.lock upd_same trivial
  rw [upd_upd] at kept
  exact ⟨.ref s.heap.objs.size, _, kept, rfl, q _ od fresh⟩
def fAddF : D2 := fun x y H Q => match x, y with
  | .int i, .int j => Q (.int (i + j)) H
  | .tup xs, .tup ys => xs.length + ys.length ≤ sizeLine ∧ Q (.tup (xs ++ ys)) H
  | .str i, .str j => i.length + j.length ≤ sizeLine ∧ Q (.str (i ++ j)) H
  | .lsv xs, .lsv ys => xs.length + ys.length ≤ sizeLine ∧ Q (.lsv (xs ++ ys)) H
  | .ref p, .lsv ys => ∃ xs, H p = some (.lst xs) ∧ xs.length + ys.length ≤ sizeLine ∧ Q (.lsv (xs ++ ys)) H
  | .lsv xs, .ref p => ∃ ys, H p = some (.lst ys) ∧ xs.length + ys.length ≤ sizeLine ∧ Q (.lsv (xs ++ ys)) H
  | .ref p, .ref q => ∃ xs ys, H p = some (.lst xs) ∧ H q = some (.lst ys) ∧ xs.length + ys.length ≤ sizeLine ∧ Q (.lsv (xs ++ ys)) H
  | _, _ => False
theorem de_addF {a b : Expr} {ta tb : DTE} (ha : DE X a ta) (hb : DE X b tb) : DE X (.BinOp a .Add b pos) (dOp fAddF ta tb) := de_op (OpR.or op_addAll op_catS) (by
  intro H Hd x y dx dy Q Qd rh rx ry q k
  have cat : ∀ {a b : Addr} {vs ws : List V} {xs ys : List Dv}, x = .ref a → y = .ref b → SqL X.K H a vs → SqL X.K H b ws → RepL X.K H xs vs → RepL X.K H ys ws → xs.length + ys.length ≤ sizeLine → Qd (.lsv (xs ++ ys)) Hd → rCatS X.K x y H Q :=
    fun {a b vs ws xs ys} ex ey h1 h2 l1 l2 hz qq => ⟨a, b, vs, ws, ex, ey, h1, h2, by rw [← l1.length, ← l2.length]; exact hz, fun p od hp => k _ _ (.lsv (xs ++ ys)) Hd (.lay hp) (rh.lay hp) (frz_rep rh hp (l1.append l2)) qq⟩
  unfold fAddF at q
  split at q
  · exact .inl (.inl ⟨_, _, rx, ry, k _ H (.int _) Hd .refl rh rfl q⟩)
  · rename_i xs ys
    obtain ⟨p, vs, rfl, hx, lx⟩ := rx
    obtain ⟨p', us, rfl, hy, ly⟩ := ry
    refine .inl (.inr (.inl ⟨p, p', vs, us, rfl, rfl, hx, hy, by rw [← lx.length, ← ly.length]; exact q.1, fun e => ?_, fun _ e => ?_, fun _ _ r hr => ?_⟩))
    · subst e
      have e' : xs = [] := List.eq_nil_of_length_eq_zero lx.length
      subst e'
      exact k _ H (.tup ys) Hd .refl rh ⟨p', us, rfl, hy, ly⟩ q.2
    · subst e
      have e' : ys = [] := List.eq_nil_of_length_eq_zero ly.length
      subst e'
      exact k _ H (.tup (xs ++ [])) Hd .refl rh ⟨p, vs, rfl, hx, by rw [List.append_nil]; exact lx⟩ q.2
    · exact k _ _ (.tup (xs ++ ys)) Hd (.lay hr) (rh.lay hr) ⟨r, _, rfl, .of upd_same, (Stp.lay (Hd := Hd) hr).repL rh (lx.append ly)⟩ q.2
  · exact .inl (.inr (.inr (.inl ⟨_, _, rx, ry, q.1, k _ H (.str _) Hd .refl rh rfl q.2⟩)))
  · obtain ⟨p, vs, e1, h1, l1⟩ := rx
    obtain ⟨p', us, e2, h2, l2⟩ := ry
    exact .inr (cat e1 e2 h1.sq h2.sq l1 l2 q.1 q.2)
  · obtain ⟨xs, h, q⟩ := q
    obtain ⟨vs, h1, l1⟩ := rh _ _ h
    obtain ⟨p', us, e2, h2, l2⟩ := ry
    exact .inr (cat rx e2 (.of h1) h2.sq l1 l2 q.1 q.2)
  · obtain ⟨ys, h, q⟩ := q
    obtain ⟨us, h2, l2⟩ := rh _ _ h
    obtain ⟨p, vs, e1, h1, l1⟩ := rx
    exact .inr (cat e1 ry h1.sq (.of h2) l1 l2 q.1 q.2)
  · obtain ⟨xs, ys, h, h', q⟩ := q
    obtain ⟨vs, h1, l1⟩ := rh _ _ h
    obtain ⟨us, h2, l2⟩ := rh _ _ h'
    exact .inr (cat rx ry (.of h1) (.of h2) l1 l2 q.1 q.2)
  · exact q.elim) ha hb
/-! comprehensions, list(..), slices -/
theorem de_fz {t tf : DTE} (h : DE X e t) (i : ∀ σ H Q, tf σ H Q → t σ H fun d H1 => ∃ H2 p ds, H2 p = none ∧ d = .ref p ∧ H1 = upD H2 p (.lst ds) ∧ Q (.lsv ds) H2) : DE X e tf :=
  de_of (pe_fz h) fun σ H Q σd Hd Qd rs rh q k => ⟨σd, Hd, _, rs, rh, i σd Hd Qd q, fun v H1 d Hd1 s1 r1 rv ⟨H2, p, ds, hp, ed, eH, q1⟩ => by
    subst ed eH
    cases (show v = _ from rv)
    obtain ⟨vs, e1, l⟩ := r1 p _ upD_same
    refine ⟨p, vs, e1, fun od => ?_⟩
    -- the list is locked: it is no more among what may change
    have st : Stp H1 (upD H2 p (.lst ds)) (upd H1 p (.frz od (.lst vs))) H2 := ⟨fun a o e n => by
        have z : a ≠ p := fun z => by rw [z, upD_same] at n; cases n
        rw [upd_ne z]; exact e, fun a e => by
        by_cases z : a = p
        · rw [z, upd_same]; exact fun q => nomatch q
        · rw [upd_ne z]; exact e, fun a e => by
        have z : a ≠ p := fun z => by rw [z, hp] at e; exact e rfl
        exact .inl (by rw [upD_ne z]; exact e)⟩
    have tr : ∀ {d : Dv} {v : V}, Rep X.K H1 d v → Rep X.K (upd H1 p (.frz od (.lst vs))) d v := fun {d v} r => st.rep r1 r
    refine k _ _ (.lsv ds) H2 (s1.trans st) (fun a o e => ?_) ⟨p, vs, rfl, .inl ⟨od, upd_same⟩, st.repL r1 l⟩ q1
    have z : a ≠ p := fun z => by rw [z, hp] at e; cases e
    exact (r1 a o (by rw [upD_ne z]; exact e)).keep st r1 (upd_ne z)⟩
end
section
variable {X : Cx} {elt tg iter : Expr} {ifs : List Expr} {scope : Scope} {own : List (Str × Nat)} {it : DTI} {g : DTG} {tt : DTT} {te : DTE} {pos spos : Pos}
/-- the end of a locked list -/
theorem lock_end {K : PySem.W.Frag} {H H' : Hp} {Hd Hd' : DH} {D : Addr} {od : Obj} {acc : List Dv} {ws : List V} {Qd : DVK} {Q : VK} (k : KE K H Hd Qd Q) (st : Stp H Hd H' Hd') (hD : H D = none) (r : RepH K H' Hd') (eD : H' D = some (.lst ws)) (nD : Hd' D = none) (rl : RepL K H' acc ws)
    (q : Qd (.lsv acc) Hd') : Q (.ref D) (upd H' D (.frz od (.lst ws))) := by
  -- as a list that may change, which is then no more among them
  have r1 : RepH K H' (upD Hd' D (.lst acc)) := fun b o e => by
    by_cases y : b = D
    · subst y
      rw [upD_same] at e
      cases e
      exact ⟨ws, eD, rl⟩
    · rw [upD_ne y] at e
      exact r b o e
  have s1 : Stp H Hd H' (upD Hd' D (.lst acc)) := ⟨st.frame, st.dom, fun b e => by
    by_cases y : b = D
    · exact .inr (by rw [y]; exact hD)
    · rw [upD_ne y] at e
      exact st.new b e⟩
  have s2 : Stp H' (upD Hd' D (.lst acc)) (upd H' D (.frz od (.lst ws))) Hd' := ⟨fun a o e n => by
      have z : a ≠ D := fun z => by rw [z, upD_same] at n; cases n
      rw [upd_ne z]; exact e, fun a e => by
      by_cases z : a = D
      · rw [z, upd_same]; exact fun q => nomatch q
      · rw [upd_ne z]; exact e, fun a e => by
      have z : a ≠ D := fun z => by rw [z, nD] at e; exact e rfl
      exact .inl (by rw [upD_ne z]; exact e)⟩
  refine k _ _ (.lsv acc) Hd' (s1.trans s2) (fun a o e => ?_) ⟨D, ws, rfl, .inl ⟨od, upd_same⟩, s2.repL r1 rl⟩ q
  have z : a ≠ D := fun z => by rw [z, nD] at e; cases e
  exact (r1 a o (by rw [upD_ne z]; exact e)).keep s2 r1 (upd_ne z)
theorem lcF_of {K : PySem.W.Frag} {vs : List Nat} {σ : St} {H : Hp} {Q : VK} (h : lE K (dLcF it vs g tt te) σ H Q) : tFrz (tLc (lI K it) (lGc K vs g) (lT K tt) (lE K te) vs) σ H Q := by
  obtain ⟨σd, Hd, Qd, rs, rh, q, k⟩ := h
  exact lc_gen rs rh q fun H' Hd' D acc ws st hD r' eD nD rl z => ⟨D, ws, eD, fun od => lock_end k st hD r' eD nD rl z⟩
theorem de_lcF (hc : X.calm = true) (hN : X.N.Nodup) (hi : DI X tg iter it) (ok : BlkOk X.N X.env.scope scope own)
    (hg : ∀ (s : Shared) (H : Hp) (C : Addr) (cl : List (Str × Addr)) (fp : List Addr), PG (X.blk s H scope (compEnvC scope cl C X.env) fp) tg (lGc X.K (own.map (·.2)) g))
    (ht : ∀ (s : Shared) (H : Hp) (C : Addr) (cl : List (Str × Addr)) (fp : List Addr), PTs (X.blk s H scope (compEnvC scope cl C X.env) fp) ifs (lT X.K tt))
    (he : ∀ (s : Shared) (H : Hp) (C : Addr) (cl : List (Str × Addr)) (fp : List Addr), PE (X.blk s H scope (compEnvC scope cl C X.env) fp) elt (lE X.K te)) (hs : ∀ x, foldedSetIterable iter X.env x = pure x := by intro _; rfl) :
    DE X (.ListComp elt [⟨tg, iter, ifs, 0⟩] scope pos) (dLcF it (own.map (·.2)) g tt te) := pe_mono (pe_fz (pe_lc hc hN hi ok hg ht he hs)) fun _ _ _ h => lcF_of h
end
/-- a statement that stores a new list under a name: the list is locked as soon as it is stored -/
theorem ps_fzSet {X : Cx} {st : Stmt} {i : Nat} {t : TE} (h : PS X st (tAsg t (gName i))) : PS X st (tAsg (tFrz t) (gName i)) := ⟨fun pins s σ H D I q => by
  refine thn (h.run pins s σ H { D with nx := fun σ' H1 => ∃ p xs, H1 p = some (.lst xs) ∧ ∀ od, D.nx σ' (upd H1 p (.frz od (.lst xs))) } I q) fun f s1 z => ?_
  cases f with
  | next =>
    obtain ⟨σ', H1, I1, p, xs, e, q1⟩ := z
    obtain ⟨od, I2⟩ := I1.lock e trivial
    exact ⟨σ', _, I2, q1 od⟩
  | ret v => exact z
  | brk => exact z
  | cont => exact z⟩
section
variable {X : Cx} {elt tg iter : Expr} {ifs : List Expr} {scope : Scope} {own : List (Str × Nat)} {it : DTI} {g : DTG} {tt : DTT} {te : DTE} {pos spos : Pos}
theorem ds_setLcF {i : Nat} {y : Str} {py : Pos} (hc : X.calm = true) (hN : X.N.Nodup) (hy : X.N[i]? = some y) (hyl : X.env.scope.names.lookup y = some .local)
    (hsw : swapsWith (.ListComp elt [⟨tg, iter, ifs, 0⟩] scope pos) (some (.Name y py)) spos.line X.env = pure true) (hi : DI X tg iter it) (ok : BlkOk X.N X.env.scope scope own)
    (hg : ∀ (s : Shared) (H : Hp) (C : Addr) (cl : List (Str × Addr)) (fp : List Addr), PG (X.blk s H scope (compEnvC scope cl C X.env) fp) tg (lGc X.K (own.map (·.2)) g))
    (ht : ∀ (s : Shared) (H : Hp) (C : Addr) (cl : List (Str × Addr)) (fp : List Addr), PTs (X.blk s H scope (compEnvC scope cl C X.env) fp) ifs (lT X.K tt))
    (he : ∀ (s : Shared) (H : Hp) (C : Addr) (cl : List (Str × Addr)) (fp : List Addr), PE (X.blk s H scope (compEnvC scope cl C X.env) fp) elt (lE X.K te)) (hs : ∀ x, foldedSetIterable iter X.env x = pure x := by intro _; rfl) :
    DSt X (.Assign [.Name y py] (.ListComp elt [⟨tg, iter, ifs, 0⟩] scope pos) spos) (dSet i (dLcF it (own.map (·.2)) g tt te)) :=
  ds_of (ps_fzSet (ps_setLc hc hN hy hyl hsw hi ok hg ht he hs)) fun D σ H σd Hd Dd rs rh q k1 _ _ _ => lcF_of ⟨σd, Hd, fun d H1 => Dd.nx (σd.set i (some d)) H1, rs, rh, q, fun v H1 d Hd1 s1 r1 rv q1 => k1 _ _ _ _ s1 r1 ((s1.repS rh rs).set i rv) q1⟩
end
section
variable {X : Cx} {a b e o : Expr} {es : List Expr} {ta tb te : DTE} {t : DTA} {x : Str} {p pos : Pos}
def fListF : DF := fun ds H Q => match ds with
  | [.tup xs] => Q (.lsv xs) H
  | [d] => seqL d H fun xs => Q (.lsv xs) H
  | _ => False
theorem de_listF (hg : Gl X x) (hm : X.mg x = none) (hv : bootBuiltins x = some (.type "list")) (ha : DA X (e :: es) t) (hn : x ≠ "__name__" := by decide) (hdb : (x == ("__debug__" : Str)) = false := by decide)
    (he : starEach (e :: es) X.env = (false, eval e X.env) :: starEach es X.env := by rfl) (hpl : (backTo pos (starEach es X.env)).any (·.1) = false := by rfl) : DE X (.Call (.Name x p) (e :: es) [] pos) (dFn fListF t) :=
  de_of (pe_fz (pe_callTy call_list_of hg hm hv ha hn hdb he hpl)) fun σ H Q σd Hd Qd rs rh q k => ⟨σd, Hd, _, rs, rh, q, fun vs H1 ds Hd1 s1 r1 rl q1 => by
    unfold fListF at q1
    split at q1
    · obtain ⟨v, rfl, r⟩ := len_one rl
      obtain ⟨a, ws, rfl, h, l⟩ := r
      exact ⟨a, ws, rfl, .inr h, fun p hp => fz_end (k.at s1) r1 hp l q1⟩
    · obtain ⟨v, rfl, r⟩ := len_one rl
      obtain ⟨a, ws, xs, rfl, h, l, q1⟩ := seqL_of r1 r q1
      exact ⟨a, ws, rfl, .inl h, fun p hp => fz_end (k.at s1) r1 hp l q1⟩
    · exact q1.elim⟩
def fSlF (d : Dv) (lo hi : Option Int) (H : DH) (Q : DVK) : Prop := match d with
  | .tup ds => Q (.tup (cutD ds lo hi)) H
  | .lsv ds => Q (.lsv (cutD ds lo hi)) H
  | .ref p => ∃ ds, H p = some (.lst ds) ∧ Q (.lsv (cutD ds lo hi)) H
  | _ => False
def dSlF (t : DTE) (tl th : DTO) : DTE := fun σ H Q => t σ H fun d H1 => tl σ H1 fun l H2 => th σ H2 fun u H3 => fSlF d l u H3 Q
theorem SlR.fz {r : V → Option Int → Option Int → Hp → VK → Prop} (h : SlR X r) : SlR X (fun x lo hi H Q => r x lo hi H fun v H1 => ∃ p xs, H1 p = some (.lst xs) ∧ ∀ od, Q v (upd H1 p (.frz od (.lst xs)))) := by
  intro pins s σ H x v vl vu lo hi sl Q I rx hs pl pu q
  obtain ⟨T, id', h1, h2, h3⟩ := h pins s σ H x v vl vu lo hi sl _ I rx hs pl pu q
  refine ⟨T, id', h1, h2, thn h3 fun u s1 ⟨z, H1, I1, r1, p, xs, e, q1⟩ => ?_⟩
  obtain ⟨od, I2⟩ := I1.lock e trivial
  exact ⟨z, _, I2, r1, q1 od⟩
theorem CallR.fz {f : Value} {r : List V → Hp → VK → Prop} (h : CallR X f r) : CallR X f (fun vs H Q => r vs H fun v H1 => ∃ p xs, H1 p = some (.lst xs) ∧ ∀ od, Q v (upd H1 p (.frz od (.lst xs)))) := by
  intro pins s σ H vs us Q I r1 q
  refine thn (h pins s σ H vs us _ I r1 q) fun u s1 ⟨z, H1, I1, r2, p, xs, e, q1⟩ => ?_
  obtain ⟨od, I2⟩ := I1.lock e trivial
  exact ⟨z, _, I2, r2, q1 od⟩
theorem OpR.fz {f : Value → Value → Sem Value} {r : R2} (h : OpR X f r) : OpR X f (fun x y H Q => r x y H fun v H1 => ∃ p xs, H1 p = some (.lst xs) ∧ ∀ od, Q v (upd H1 p (.frz od (.lst xs)))) := by
  intro pins s σ H x y v u Q I rx ry q
  refine thn (h pins s σ H x y v u _ I rx ry q) fun u s1 ⟨z, H1, I1, r2, p, xs, e, q1⟩ => ?_
  obtain ⟨od, I2⟩ := I1.lock e trivial
  exact ⟨z, _, I2, r2, q1 od⟩
theorem de_sliceF {lo hi : Option Expr} {tl th : DTO} {p2 : Pos} (he : DE X e ta) (hl : DOp X lo tl) (hu : DOp X hi th) : DE X (.Subscript e (.Slice lo hi none p2) pos) (dSlF ta tl th) :=
  de_of (pe_slice (SlR.or sl_tupA (SlR.fz sl_list)) he hl hu) fun σ H Q σd Hd Qd rs rh q k => ⟨σd, Hd, _, rs, rh, q, fun v H1 d Hd1 s1 r1 rv q1 =>
    ⟨σd, Hd1, _, s1.repS rh rs, r1, q1, fun l H2 Hd2 s2 r2 q2 => ⟨σd, Hd2, _, (s1.trans s2).repS rh rs, r2, q2, fun u H3 Hd3 s3 r3 q3 => by
      have st := (s1.trans s2).trans s3
      have rv3 := (s2.trans s3).rep r1 rv
      unfold fSlF at q3
      split at q3
      · obtain ⟨p, vs, rfl, h, w⟩ := rv3
        refine .inl ⟨p, vs, rfl, h, fun z => ?_, fun _ r hr => ?_⟩
        · refine k _ _ (.tup _) Hd3 st r3 ⟨p, vs, rfl, h, ?_⟩ q3
          unfold cutD
          rw [w.length, z.1, z.2, List.drop_zero, Nat.sub_zero, ← w.length, List.take_length]
          exact w
        · exact k _ _ (.tup _) Hd3 (st.trans (.lay hr)) (r3.lay hr) ⟨r, _, rfl, .of upd_same, (Stp.lay (Hd := Hd3) hr).repL r3 (w.cut l u)⟩ q3
      · obtain ⟨p, vs, rfl, h, w⟩ := rv3
        exact .inr ⟨p, vs, rfl, h.sq, fun r hr => fz_end (k.at st) r3 hr (w.cut l u) q3⟩
      · obtain ⟨ds, h, q3⟩ := q3
        obtain ⟨vs, e, w⟩ := r3 _ _ h
        exact .inr ⟨_, vs, rv3, .of e, fun r hr => fz_end (k.at st) r3 hr (w.cut l u) q3⟩
      · exact q3.elim⟩⟩⟩
/-- list * int, locked -/
def fMulF : D2 := fun x y H Q => match x, y with
  | .int i, .int j => CMulW i j ∧ Q (.int (i * j)) H
  | .tup xs, .int k => xs ≠ [] ∧ 2 ≤ k ∧ xs.length * k.toNat ≤ sizeLine ∧ Q (.tup (List.replicate k.toNat xs).flatten) H
  | .ref p, .int k => ∃ xs, H p = some (.lst xs) ∧ -(2 ^ 63) ≤ k ∧ k < 2 ^ 63 ∧ xs.length * k.toNat ≤ sizeLine ∧ Q (.lsv (List.replicate k.toNat xs).flatten) H
  | _, _ => False
theorem de_mulF {a b : Expr} {ta tb : DTE} (ha : DE X a ta) (hb : DE X b tb) : DE X (.BinOp a .Mult b pos) (dOp fMulF ta tb) := de_op (OpR.or op_mulW (OpR.or op_timesT (OpR.fz op_rep))) (by
  intro H Hd x y dx dy Q Qd rh rx ry q k
  unfold fMulF at q
  split at q
  · exact .inl ⟨_, _, rx, ry, q.1, k _ H (.int _) Hd .refl rh rfl q.2⟩
  · rename_i xs n
    obtain ⟨p, vs, rfl, hx, lx⟩ := rx
    obtain ⟨q1, q2, q3, q4⟩ := q
    refine .inr (.inl ⟨p, n, vs, rfl, ry, hx, fun e => q1 (List.eq_nil_of_length_eq_zero (by rw [lx.length, e]; rfl)), q2, by rw [← lx.length]; exact q3, fun r hr => ?_⟩)
    exact k _ _ (.tup _) Hd (.lay hr) (rh.lay hr) ⟨r, _, rfl, .of upd_same, (Stp.lay (Hd := Hd) hr).repL rh (lx.rep n.toNat)⟩ q4
  · rename_i p n
    obtain ⟨xs, h1, q1, q2, q3, q4⟩ := q
    obtain ⟨vs, e1, l1⟩ := rh _ _ h1
    exact .inr (.inr ⟨p, n, vs, rx, ry, e1, q1, q2, by rw [← l1.length]; exact q3, fun r hr => fz_end k rh hr (l1.rep n.toNat) q4⟩)
  · exact q.elim) ha hb
/-! str(..) -/
def lRC (K : PySem.W.Frag) (f : DF) : List V → Hp → VK → Prop := fun vs H Q => ∃ ds Hd Qd, RepH K H Hd ∧ RepL K H ds vs ∧ f ds Hd Qd ∧ KE K H Hd Qd Q
theorem lRC_ok {K : PySem.W.Frag} {f : DF} : CallOk K (lRC K f) f := fun H Hd vs ds Q Qd rh rl q k => ⟨ds, Hd, Qd, rh, rl, q, k⟩
def fStr : DF := fun ds H Q => match ds with
  | [.int i] => i.natAbs.log2 < 1920 ∧ Q (.str (toString i)) H
  | [.bl b] => Q (.str (if b then "True" else "False")) H
  | [.non] => Q (.str "None") H
  | [.str x] => Q (.str x) H
  | _ => False
theorem call_strA : CallR X (.type "str") (lRC X.K fStr) := by
  intro pins s σ H vs us Q I r1 ⟨ds, Hd, Qd, rh, rl, q, k⟩
  have fin : ∀ (s' : Shared) (x : Str) (t : Tok), Inv X pins σ H s' → Qd (.str x) Hd → EP X pins σ Q (.str x t) s' := fun s' x t I' z => ⟨.str x, H, I', ⟨t, rfl⟩, k _ H (.str x) Hd .refl rh rfl z⟩
  unfold fStr at q
  split at q
  · obtain ⟨v, rfl, r⟩ := len_one rl
    cases (show v = _ from r)
    obtain ⟨u, rfl, t, rfl⟩ := vals1 r1
    exact PySem.P.str_of_int q.1 (fin _ _ _ (I.tok _) q.2)
  · obtain ⟨v, rfl, r⟩ := len_one rl
    cases (show v = _ from r)
    obtain ⟨u, rfl, r2⟩ := vals1 r1
    cases r2
    refine PySem.P.str_of_bool (fin _ _ _ (I.tok _) ?_)
    rename_i b
    cases b <;> exact q
  · obtain ⟨v, rfl, r⟩ := len_one rl
    cases (show v = _ from r)
    obtain ⟨u, rfl, r2⟩ := vals1 r1
    cases r2
    exact PySem.P.str_of_none (fin _ _ _ (I.tok _) q)
  · obtain ⟨v, rfl, r⟩ := len_one rl
    cases (show v = _ from r)
    obtain ⟨u, rfl, t, rfl⟩ := vals1 r1
    exact PySem.P.str_of_str (fin _ _ _ I q)
  · exact q.elim
theorem ok_str {K : PySem.W.Frag} : CallOk K (lRC K fStr) fStr := lRC_ok
end
end DL

set_option maxHeartbeats 4000000
namespace DL
open PySem PySem.Spec L2
open PyProof.Rows hiding St
/-! ## kinds -/
theorem isI_bool_non : isI "bool" (Dv.non) = false := by simp [isI]
theorem isI_bool_bl {b : Bool} : isI "bool" (Dv.bl b) = true := by simp [isI]
theorem isI_bool_int {i : Int} : isI "bool" (Dv.int i) = false := by simp [isI]
theorem isI_bool_str {x : Str} : isI "bool" (Dv.str x) = false := by simp [isI]
theorem isI_bool_tup {ds : List Dv} : isI "bool" (Dv.tup ds) = false := by simp [isI]
theorem isI_bool_lsv {ds : List Dv} : isI "bool" (Dv.lsv ds) = false := by simp [isI]
theorem isI_bool_ref {a : Addr} : isI "bool" (Dv.ref a) = false := by simp [isI]
theorem isI_int_non : isI "int" (Dv.non) = false := by simp [isI]
theorem isI_int_bl {b : Bool} : isI "int" (Dv.bl b) = true := by simp [isI]
theorem isI_int_int {i : Int} : isI "int" (Dv.int i) = true := by simp [isI]
theorem isI_int_str {x : Str} : isI "int" (Dv.str x) = false := by simp [isI]
theorem isI_int_tup {ds : List Dv} : isI "int" (Dv.tup ds) = false := by simp [isI]
theorem isI_int_lsv {ds : List Dv} : isI "int" (Dv.lsv ds) = false := by simp [isI]
theorem isI_int_ref {a : Addr} : isI "int" (Dv.ref a) = false := by simp [isI]
theorem isI_str_non : isI "str" (Dv.non) = false := by simp [isI]
theorem isI_str_bl {b : Bool} : isI "str" (Dv.bl b) = false := by simp [isI]
theorem isI_str_int {i : Int} : isI "str" (Dv.int i) = false := by simp [isI]
theorem isI_str_str {x : Str} : isI "str" (Dv.str x) = true := by simp [isI]
theorem isI_str_tup {ds : List Dv} : isI "str" (Dv.tup ds) = false := by simp [isI]
theorem isI_str_lsv {ds : List Dv} : isI "str" (Dv.lsv ds) = false := by simp [isI]
theorem isI_str_ref {a : Addr} : isI "str" (Dv.ref a) = false := by simp [isI]
theorem isI_tuple_non : isI "tuple" (Dv.non) = false := by simp [isI]
theorem isI_tuple_bl {b : Bool} : isI "tuple" (Dv.bl b) = false := by simp [isI]
theorem isI_tuple_int {i : Int} : isI "tuple" (Dv.int i) = false := by simp [isI]
theorem isI_tuple_str {x : Str} : isI "tuple" (Dv.str x) = false := by simp [isI]
theorem isI_tuple_tup {ds : List Dv} : isI "tuple" (Dv.tup ds) = true := by simp [isI]
theorem isI_tuple_lsv {ds : List Dv} : isI "tuple" (Dv.lsv ds) = false := by simp [isI]
theorem isI_tuple_ref {a : Addr} : isI "tuple" (Dv.ref a) = false := by simp [isI]
theorem isI_list_non : isI "list" (Dv.non) = false := by simp [isI]
theorem isI_list_bl {b : Bool} : isI "list" (Dv.bl b) = false := by simp [isI]
theorem isI_list_int {i : Int} : isI "list" (Dv.int i) = false := by simp [isI]
theorem isI_list_str {x : Str} : isI "list" (Dv.str x) = false := by simp [isI]
theorem isI_list_tup {ds : List Dv} : isI "list" (Dv.tup ds) = false := by simp [isI]
theorem isI_list_lsv {ds : List Dv} : isI "list" (Dv.lsv ds) = true := by simp [isI]
theorem isI_list_ref {a : Addr} : isI "list" (Dv.ref a) = true := by simp [isI]
/-! ## isinstance by kind -/
inductive Kd where
  | bool | int | str | tup | list
def Kd.ty : Kd → String
  | .bool => "bool"
  | .int => "int"
  | .str => "str"
  | .tup => "tuple"
  | .list => "list"
def isK : Kd → Dv → Bool
  | .bool, .bl _ => true
  | .int, .bl _ => true
  | .int, .int _ => true
  | .str, .str _ => true
  | .tup, .tup _ => true
  | .list, .lsv _ => true
  | .list, .ref _ => true
  | _, _ => false
def okK (d : Dv) (H : DH) : Prop := match d with
  | .ref a => ∃ xs, H a = some (.lst xs)
  | .ty _ => False
  | _ => True
def dIs (k : Kd) (te : DTE) : DTE := fun σ H Q => te σ H fun d H1 => okK d H1 ∧ Q (.bl (isK k d)) H1
theorem isI_isK (k : Kd) (d : Dv) : isI k.ty d = isK k d := by
  cases k <;> cases d <;> simp [isI, Kd.ty, isK]
theorem dIs_eq (k : Kd) (te : DTE) : dIs k te = dFn fIsi (dCons te (dCons (dC (.ty k.ty)) dNil)) := by
  funext σ H Q
  show te σ H _ = te σ H _
  congr 1
  funext d H1
  have hk : (k.ty == "bool" || k.ty == "int" || k.ty == "str" || k.ty == "tuple" || k.ty == "list") = true := by cases k <;> decide +kernel
  show (okK d H1 ∧ Q (.bl (isK k d)) H1) = fIsi [d, .ty k.ty] H1 Q
  rw [← isI_isK]
  unfold fIsi okK
  cases d <;> simp [hk]
theorem de_isi {X : Cx} {a b : Expr} {p pos : Pos} {te : DTE} (k : Kd) (hg : Gl X "isinstance") (hm : X.mg "isinstance" = none) (ha : DE X a te) (hb : DE X b (dC (.ty k.ty)))
    (he : starEach [a, b] X.env = (false, eval a X.env) :: starEach [b] X.env := by rfl) (hpl : (backTo pos (starEach [b] X.env)).any (·.1) = false := by rfl) (hs : starEach [b] X.env = (false, eval b X.env) :: starEach [] X.env := by rfl) : DE X (.Call (.Name "isinstance" p) [a, b] [] pos) (dIs k te) := by
  rw [dIs_eq]
  exact de_callB call_isi ok_isi hg hm (by decide +kernel) (da_cons ha (da_cons hb da_nil hs) he) (by decide) (by decide) he hpl
/-! ## places -/
theorem atI_0 {α : Type} {a : α} {xs : List α} : atI (a :: xs) 0 = some a := by
  unfold atI ixN
  rw [if_pos (Int.le_refl 0), if_pos (by rw [List.length_cons]; omega)]; rfl
theorem atI_1 {α : Type} {a b : α} {xs : List α} : atI (a :: b :: xs) 1 = some b := by
  unfold atI ixN
  rw [if_pos (by decide), if_pos (by rw [List.length_cons, List.length_cons]; omega)]; rfl
theorem atI_2 {α : Type} {a b c : α} {xs : List α} : atI (a :: b :: c :: xs) 2 = some c := by
  unfold atI ixN
  rw [if_pos (by decide), if_pos (by rw [List.length_cons, List.length_cons, List.length_cons]; omega)]; rfl
theorem atI_3 {α : Type} {a b c d : α} {xs : List α} : atI (a :: b :: c :: d :: xs) 3 = some d := by
  unfold atI ixN
  rw [if_pos (by decide), if_pos (by rw [List.length_cons, List.length_cons, List.length_cons, List.length_cons]; omega)]; rfl
theorem atI_at {α : Type} {xs : List α} {i : Nat} : atI xs (i : Int) = xs[i]? := by
  unfold atI ixN
  rw [if_pos (by omega)]
  by_cases h : i < xs.length
  · rw [if_pos (by omega)]; rfl
  · rw [if_neg (by omega), List.getElem?_eq_none (by omega)]; rfl
theorem atI_nth {xs : List Dv} {i : Int} (h : 0 ≤ i) (h' : i.toNat < xs.length) : atI xs i = some (nth xs i.toNat) := by
  have e : i = (i.toNat : Int) := by omega
  rw [e, atI_at]
  exact nth_at h'
/-! ## data without addresses -/
mutual
def pureD : Dv → Bool
  | .ref _ => false
  | .ty _ => false
  | .tup ds => pureL ds
  | .lsv ds => pureL ds
  | _ => true
def pureL : List Dv → Bool
  | [] => true
  | d :: ds => pureD d && pureL ds
end
theorem pureL_all : ∀ ds : List Dv, pureL ds = ds.all pureD
  | [] => rfl
  | d :: ds => by rw [pureL, List.all_cons, pureL_all ds]
theorem pureD_ok {d : Dv} (h : pureD d = true) : okS d = true := by
  cases d <;> first | rfl | cases h
theorem pureL_mem {ds : List Dv} (h : pureL ds = true) {d : Dv} (m : d ∈ ds) : pureD d = true := by
  rw [pureL_all] at h
  exact List.all_eq_true.mp h d m
theorem pureL_nth {ds : List Dv} (h : pureL ds = true) {i : Nat} (hi : i < ds.length) : pureD (nth ds i) = true :=
  pureL_mem h (List.mem_of_getElem? (nth_at hi))
theorem pureL_append {ds es : List Dv} : pureL (ds ++ es) = (pureL ds && pureL es) := by
  rw [pureL_all, pureL_all, pureL_all, List.all_append]
theorem pureL_sub {ds es : List Dv} (h : pureL ds = true) (s : ∀ d ∈ es, d ∈ ds) : pureL es = true := by
  rw [pureL_all, List.all_eq_true]
  exact fun d m => pureL_mem h (s d m)
theorem pureL_cut {ds : List Dv} (h : pureL ds = true) (lo hi : Option Int) : pureL (cutD ds lo hi) = true :=
  pureL_sub h fun d m => List.mem_of_mem_drop (List.mem_of_mem_take m)
theorem pureL_ints (ns : List Int) : pureL (ns.map .int) = true := by
  rw [pureL_all, List.all_eq_true]
  intro d m
  obtain ⟨n, _, rfl⟩ := List.mem_map.mp m
  rfl
theorem fIsi_ok {d : Dv} {n : String} {H : DH} {Q : DVK} (h : okS d = true) (hn : (n == "bool" || n == "int" || n == "str" || n == "tuple" || n == "list") = true) : fIsi [d, .ty n] H Q = Q (.bl (isI n d)) H := by
  unfold fIsi
  cases d <;> first | exact propext ⟨fun q => q.2, fun q => ⟨hn, q⟩⟩ | cases h
theorem fIsi_int {d : Dv} {H : DH} {Q : DVK} (h : okS d = true) : fIsi [d, .ty "int"] H Q = Q (.bl (isI "int" d)) H := fIsi_ok h (by decide +kernel)
theorem fIsi_bool {d : Dv} {H : DH} {Q : DVK} (h : okS d = true) : fIsi [d, .ty "bool"] H Q = Q (.bl (isI "bool" d)) H := fIsi_ok h (by decide +kernel)
theorem fIsi_str {d : Dv} {H : DH} {Q : DVK} (h : okS d = true) : fIsi [d, .ty "str"] H Q = Q (.bl (isI "str" d)) H := fIsi_ok h (by decide +kernel)
theorem fIsi_tup {d : Dv} {H : DH} {Q : DVK} (h : okS d = true) : fIsi [d, .ty "tuple"] H Q = Q (.bl (isI "tuple" d)) H := fIsi_ok h (by decide +kernel)
theorem fIsi_list {d : Dv} {H : DH} {Q : DVK} (h : okS d = true) : fIsi [d, .ty "list"] H Q = Q (.bl (isI "list" d)) H := fIsi_ok h (by decide +kernel)
theorem startD1 {a : Dv} : startD 1 [a] = [some a] := rfl
theorem okK_of {d : Dv} {H : DH} (h : okS d = true) : okK d H := by cases d <;> first | trivial | cases h
/-! reading step by step -/
section
variable {D : DEnds} {σ : DS} {H : DH} {t u : DTS} {c : DTT}
theorem rd_seq (h : t { D with nx := u D } σ H) : dSeq t u D σ H := h
theorem rd_out {Q : DVK} {d : Dv} {H : DH} (q : Q d H) : (outD Q).rt d H := ⟨H, .refl H, q⟩
theorem rd_bl {Q : DVK} {b : Bool} {H : DH} (q : Q (.bl b) H) : ∀ c, c = b → (outD Q).rt (.bl c) H := fun c e => by rw [e]; exact rd_out q
theorem rd_outN {Q : DVK} {σ : DS} {H : DH} (q : Q .non H) : (outD Q).nx σ H := ⟨H, .refl H, q⟩
/-- a test without effect -/
theorem rd_if (b : Bool) (h : ∀ Q : Bool → DH → Prop, Q b H → c σ H Q) (h1 : b = true → t D σ H) (h2 : b = false → u D σ H) : dIf c t u D σ H := h _ ⟨h1, h2⟩
theorem rd_cut (M : DS → DH → Prop) (h : t { D with nx := M } σ H) (h' : ∀ σ' H', M σ' H' → u D σ' H') : dCut t u D σ H := ⟨M, h, h'⟩
end
end DL

set_option maxHeartbeats 4000000
namespace DL
open PySem PySem.Spec L2
open PyProof.Rows hiding St
/-! # the promises -/
def isWhole : Dv → Bool
  | .int _ => true
  | _ => false
def wIn (d : Dv) (lo hi : Int) : Bool := match d with
  | .int i => decide (lo ≤ i) && decide (i ≤ hi)
  | _ => false
def letB (d : Dv) : Bool := match d with
  | .int i => decide (-20 ≤ i) && decide (i ≤ 20) && decide (i ≠ 0)
  | _ => false
def gt1 (d : Dv) : Bool := match d with
  | .int i => decide (1 < i)
  | _ => false
def ruleB (d : Dv) (k : Int) : Bool := match d with
  | .tup [.str s] => s == "none"
  | .tup [.str s, x] => s == "letter" && letB x
  | .tup [.str s, x, y] => wIn x 0 (k - 1) && ((s == "pair" && wIn y 0 (k - 1)) || (s == "power" && gt1 y))
  | _ => false
/-- rules from place i on -/
def rulesB : List Dv → Int → Bool
  | [], _ => true
  | d :: ds, k => ruleB d k && rulesB ds (k + 1)
def strB (d : Dv) : Bool := match d with
  | .tup ds => decide (1 ≤ ds.length) && decide (ds.length ≤ 4000) && rulesB ds 0
  | _ => false
def sp_is_int : DSp := fun ds H Q => ∃ d, ds = [d] ∧ okS d = true ∧ Q (.bl (isWhole d)) H
def sp_within : DSp := fun ds H Q => ∃ d lo hi, ds = [d, .int lo, .int hi] ∧ okS d = true ∧ Q (.bl (wIn d lo hi)) H
def rowB (d : Dv) (lo hi : Int) : Bool := match d with
  | .tup xs => decide (lo ≤ (xs.length : Int)) && decide ((xs.length : Int) ≤ hi)
  | _ => false
def sp_is_row : DSp := fun ds H Q => ∃ d lo hi, ds = [d, .int lo, .int hi] ∧ okS d = true ∧ Q (.bl (rowB d lo hi)) H
def sp_is_letter : DSp := fun ds H Q => ∃ d, ds = [d] ∧ okS d = true ∧ Q (.bl (letB d)) H
def sp_is_rule : DSp := fun ds H Q => ∃ d k, ds = [d, .int k] ∧ pureD d = true ∧ Q (.bl (ruleB d k)) H
def sp_is_straight : DSp := fun ds H Q => ∃ d, ds = [d] ∧ pureD d = true ∧ Q (.bl (strB d)) H
def sp__law_is_whole : DSp := sp_is_int
def sp__law_is_straight : DSp := sp_is_straight
/-- _law_same, of truth values alone -/
def sp__law_same : DSp := fun ds H Q => ∃ a b, ds = [.bl a, .bl b] ∧ Q (.bl (a == b)) H
/-- the cup c holds n sips still -/
def CupAt (c : Addr) (n : Nat) (H : DH) : Prop := ∃ (d b k : Int) (l : Addr) (ns : List Int), H c = some (.lst [.int d, .int b, .int k, .ref l]) ∧ H l = some (.lst (ns.map .int)) ∧ c ≠ l ∧ 0 ≤ d ∧ 0 ≤ b ∧ b < 2 ^ 40 ∧ 0 ≤ k ∧ k + n < 2 ^ 60
/-- from H to H' only the cup c may have changed, n sips are left -/
def CupTo (c : Addr) (n : Nat) (H H' : DH) : Prop := CupAt c n H' ∧ ∃ l, (∃ d b k, H c = some (.lst [d, b, k, .ref l])) ∧ (∃ d b k, H' c = some (.lst [d, b, k, .ref l])) ∧ ∀ a, a ≠ c → a ≠ l → H' a = H a
def sp__law_cup : DSp := fun ds H Q => ∃ ns : List Int, ds = [.lsv (ns.map .int)] ∧ ns.length ≤ sizeLine ∧ ∀ c H', H c = none → CupAt c (2 ^ 50) H' → (∀ a, H a ≠ none → H' a = H a) → Q (.ref c) H'
def sp__law_sip : DSp := fun ds H Q => ∃ c m n, ds = [.ref c, .int m] ∧ 0 < m ∧ m.natAbs.log2 < 9000 ∧ CupAt c (n + 1) H ∧ ∀ r H', 0 ≤ r → r < m → CupTo c n H H' → Q (.int r) H'
/-- a rule of a straight text -/
inductive Rl where
  | non
  | lt (a : Int)
  | pr (i j : Nat)
  | pw (i : Nat) (k : Int)
def Rl.D : Rl → Dv
  | .non => .tup [.str "none"]
  | .lt a => .tup [.str "letter", .int a]
  | .pr i j => .tup [.str "pair", .int (i : Nat), .int (j : Nat)]
  | .pw i k => .tup [.str "power", .int (i : Nat), .int k]
/-- the rule at place n, with the sizes so far -/
def Rl.ok (n : Nat) : Rl → Prop
  | .non => True
  | .lt a => -20 ≤ a ∧ a ≤ 20 ∧ a ≠ 0
  | .pr i j => i < n ∧ j < n
  | .pw i k => i < n ∧ 2 ≤ k ∧ k < 2 ^ 70
def Rl.sz (ss : List Int) : Rl → Int
  | .non => 0
  | .lt _ => 1
  | .pr i j => ss.getD i 0 + ss.getD j 0
  | .pw i k => ss.getD i 0 * k
/-- a straight text, and the lengths of what its rules stand for -/
def TextOk (rs : List Rl) (ss : List Int) (cap : Int) : Prop := rs.length = ss.length ∧ ∀ n r, rs[n]? = some r → r.ok n ∧ ss.getD n 0 = r.sz ss ∧ 0 ≤ ss.getD n 0 ∧ (ss.getD n 0 ≤ cap ∨ ss.getD n 0 ≤ 1)
def sp__law_text : DSp := fun ds H Q => ∃ c many cap n, ds = [.ref c, .int (many : Nat), .int cap] ∧ 0 < many ∧ many ≤ 100000 ∧ cap < 2 ^ 1000 ∧ CupAt c (n + (2 + 9 * many)) H ∧ ∀ rs ss H', TextOk rs ss cap → 1 ≤ rs.length → rs.length ≤ many → CupTo c n H H' → Q (.tup (rs.map Rl.D)) H'
def sp__law_near_one : DSp := fun ds H Q => ∃ c xs n, ds = [.ref c, .tup xs] ∧ pureL xs = true ∧ 1 ≤ xs.length ∧ xs.length ≤ 1000 ∧ CupAt c (n + 2) H ∧ ∀ d H', pureD d = true → CupTo c n H H' → Q d H'
/-- a plain value -/
def scal : Dv → Prop
  | .non => True
  | .int i => i.natAbs < 2 ^ 1900
  | .str _ => True
  | _ => False
def bendy : Nat → Dv → Prop
  | 0, d => scal d
  | n + 1, .tup xs => xs.length ≤ 1000 ∧ ∀ x ∈ xs, bendy n x
  | _ + 1, d => scal d
def sp_bent : Nat → DSp
  | 0 => fun _ _ _ => False
  | k + 1 => fun ds H Q => ∃ c d n, ds = [.ref c, d] ∧ bendy k d ∧ CupAt c (n + 3 * (k + 1)) H ∧ ∀ d' H', pureD d' = true → CupTo c n H H' → Q d' H'
def sp_law : DSp := fun ds H Q => ∃ ns : List Int, ds = [.lsv (ns.map .int)] ∧ ns.length ≤ sizeLine ∧ ∀ H', Q (.bl true) H'
end DL

set_option maxHeartbeats 4000000
namespace DL
open PySem PySem.Spec L2
open PyProof.Rows hiding St
theorem rulesB_iff : ∀ (ds : List Dv) (k : Int), rulesB ds k = true ↔ ∀ j, j < ds.length → ruleB (nth ds j) (k + (j : Nat)) = true
  | [], k => ⟨fun _ j h => absurd h (Nat.not_lt_zero _), fun _ => rfl⟩
  | d :: ds, k => by
    rw [rulesB, Bool.and_eq_true, rulesB_iff ds (k + 1)]
    constructor
    · rintro ⟨h1, h2⟩ j hj
      cases j with
      | zero => rw [show (k + ((0 : Nat) : Int)) = k from by omega]; exact h1
      | succ j =>
        have := h2 j (by simpa using hj)
        rw [show (k + ((j + 1 : Nat) : Int)) = k + 1 + (j : Nat) from by omega]
        exact this
    · intro h
      refine ⟨by have := h 0 (by simp); rwa [show (k + ((0 : Nat) : Int)) = k from by omega] at this, fun j hj => ?_⟩
      have := h (j + 1) (by simpa using hj)
      rwa [show (k + ((j + 1 : Nat) : Int)) = k + 1 + (j : Nat) from by omega] at this
theorem c_is_int {d : Dv} {H : DH} {Q : DVK} : sp_is_int [d] H Q = (okS d = true ∧ Q (.bl (isWhole d)) H) := by unfold sp_is_int; exact propext (Iff.intro (fun ⟨_, e, h⟩ => by cases e; exact h) fun h => ⟨_, rfl, h⟩)
theorem c_within {d : Dv} {lo hi : Int} {H : DH} {Q : DVK} : sp_within [d, .int lo, .int hi] H Q = (okS d = true ∧ Q (.bl (wIn d lo hi)) H) := by unfold sp_within; exact propext (Iff.intro (fun ⟨_, _, _, e, h⟩ => by cases e; exact h) fun h => ⟨_, _, _, rfl, h⟩)
theorem c_is_row {d : Dv} {lo hi : Int} {H : DH} {Q : DVK} : sp_is_row [d, .int lo, .int hi] H Q = (okS d = true ∧ Q (.bl (rowB d lo hi)) H) := by unfold sp_is_row; exact propext (Iff.intro (fun ⟨_, _, _, e, h⟩ => by cases e; exact h) fun h => ⟨_, _, _, rfl, h⟩)
theorem c_is_letter {d : Dv} {H : DH} {Q : DVK} : sp_is_letter [d] H Q = (okS d = true ∧ Q (.bl (letB d)) H) := by unfold sp_is_letter; exact propext (Iff.intro (fun ⟨_, e, h⟩ => by cases e; exact h) fun h => ⟨_, rfl, h⟩)
theorem c_is_rule {d : Dv} {k : Int} {H : DH} {Q : DVK} : sp_is_rule [d, .int k] H Q = (pureD d = true ∧ Q (.bl (ruleB d k)) H) := by unfold sp_is_rule; exact propext (Iff.intro (fun ⟨_, _, e, h⟩ => by cases e; exact h) fun h => ⟨_, _, rfl, h⟩)
theorem c_is_straight {d : Dv} {H : DH} {Q : DVK} : sp_is_straight [d] H Q = (pureD d = true ∧ Q (.bl (strB d)) H) := by unfold sp_is_straight; exact propext (Iff.intro (fun ⟨_, e, h⟩ => by cases e; exact h) fun h => ⟨_, rfl, h⟩)
theorem c__law_is_whole {d : Dv} {H : DH} {Q : DVK} : sp__law_is_whole [d] H Q = (okS d = true ∧ Q (.bl (isWhole d)) H) := c_is_int
theorem c__law_is_straight {d : Dv} {H : DH} {Q : DVK} : sp__law_is_straight [d] H Q = (pureD d = true ∧ Q (.bl (strB d)) H) := c_is_straight
theorem c__law_same {a b : Bool} {H : DH} {Q : DVK} : sp__law_same [.bl a, .bl b] H Q = Q (.bl (a == b)) H := by unfold sp__law_same; exact propext (Iff.intro (fun ⟨_, _, e, h⟩ => by cases e; exact h) fun h => ⟨_, _, rfl, h⟩)
end DL

set_option maxHeartbeats 8000000
namespace K1
open PySem PySem.Spec L2 DL
open PyProof.Rows hiding St
def topS (i : Nat) : Stmt := PySem.Challenge.pw_printsalike_k01_straight_texts_judged.main.body.getD i (.Pass ⟨0, 0, 0, 0⟩)
/-! ## what the top has written -/
structure Txt (K : PySem.W.Frag) (mg : Str → Option Value) where
  a_is_int : Addr
  d_is_int : FuncData
  F_is_int : L2.Fun K "is_int" "is_int" (topS 1) a_is_int d_is_int
  m_is_int : mg "is_int" = some (.ref a_is_int)
  b_is_int : Binds K d_is_int ["thing"] []
  a_within : Addr
  d_within : FuncData
  F_within : L2.Fun K "within" "within" (topS 2) a_within d_within
  m_within : mg "within" = some (.ref a_within)
  b_within : Binds K d_within ["thing", "low", "high"] []
  a_is_row : Addr
  d_is_row : FuncData
  F_is_row : L2.Fun K "is_row" "is_row" (topS 3) a_is_row d_is_row
  m_is_row : mg "is_row" = some (.ref a_is_row)
  b_is_row : Binds K d_is_row ["thing", "low", "high"] []
  a_is_letter : Addr
  d_is_letter : FuncData
  F_is_letter : L2.Fun K "is_letter" "is_letter" (topS 7) a_is_letter d_is_letter
  m_is_letter : mg "is_letter" = some (.ref a_is_letter)
  b_is_letter : Binds K d_is_letter ["thing"] []
  a_is_rule : Addr
  d_is_rule : FuncData
  F_is_rule : L2.Fun K "is_rule" "is_rule" (topS 8) a_is_rule d_is_rule
  m_is_rule : mg "is_rule" = some (.ref a_is_rule)
  b_is_rule : Binds K d_is_rule ["thing", "index"] []
  a_is_straight : Addr
  d_is_straight : FuncData
  F_is_straight : L2.Fun K "is_straight" "is_straight" (topS 9) a_is_straight d_is_straight
  m_is_straight : mg "is_straight" = some (.ref a_is_straight)
  b_is_straight : Binds K d_is_straight ["thing"] []
  kw_is_straight : KwOk K d_is_straight ["thing"] ["thing"]
  a__law_cup : Addr
  d__law_cup : FuncData
  F__law_cup : L2.Fun K "_law_cup" "_law_cup" (topS 11) a__law_cup d__law_cup
  m__law_cup : mg "_law_cup" = some (.ref a__law_cup)
  b__law_cup : Binds K d__law_cup ["script"] []
  a__law_sip : Addr
  d__law_sip : FuncData
  F__law_sip : L2.Fun K "_law_sip" "_law_sip" (topS 12) a__law_sip d__law_sip
  m__law_sip : mg "_law_sip" = some (.ref a__law_sip)
  b__law_sip : Binds K d__law_sip ["cup", "many"] []
  a__law_same : Addr
  d__law_same : FuncData
  F__law_same : L2.Fun K "_law_same" "_law_same" (topS 13) a__law_same d__law_same
  m__law_same : mg "_law_same" = some (.ref a__law_same)
  b__law_same : Binds K d__law_same ["found", "due"] []
  a__law_is_whole : Addr
  d__law_is_whole : FuncData
  F__law_is_whole : L2.Fun K "_law_is_whole" "_law_is_whole" (topS 14) a__law_is_whole d__law_is_whole
  m__law_is_whole : mg "_law_is_whole" = some (.ref a__law_is_whole)
  b__law_is_whole : Binds K d__law_is_whole ["found"] []
  a__law_bent : Addr
  d__law_bent : FuncData
  F__law_bent : L2.Fun K "_law_bent" "_law_bent" (topS 15) a__law_bent d__law_bent
  m__law_bent : mg "_law_bent" = some (.ref a__law_bent)
  b__law_bent : Binds K d__law_bent ["cup", "thing"] []
  a__law_text : Addr
  d__law_text : FuncData
  F__law_text : L2.Fun K "_law_text" "_law_text" (topS 16) a__law_text d__law_text
  m__law_text : mg "_law_text" = some (.ref a__law_text)
  b__law_text : Binds K d__law_text ["cup", "many", "cap"] []
  a__law_is_straight : Addr
  d__law_is_straight : FuncData
  F__law_is_straight : L2.Fun K "_law_is_straight" "_law_is_straight" (topS 17) a__law_is_straight d__law_is_straight
  m__law_is_straight : mg "_law_is_straight" = some (.ref a__law_is_straight)
  b__law_is_straight : Binds K d__law_is_straight ["found"] []
  a__law_near_one : Addr
  d__law_near_one : FuncData
  F__law_near_one : L2.Fun K "_law_near_one" "_law_near_one" (topS 18) a__law_near_one d__law_near_one
  m__law_near_one : mg "_law_near_one" = some (.ref a__law_near_one)
  b__law_near_one : Binds K d__law_near_one ["cup", "rules"] []
  a_law : Addr
  d_law : FuncData
  F_law : L2.Fun K "law" "law" (topS 19) a_law d_law
  m_law : mg "law" = some (.ref a_law)
  b_law : Binds K d_law ["script"] []
  t_MOST_LETTER : Tok
  g_MOST_LETTER : mg "MOST_LETTER" = some (.int 20 t_MOST_LETTER)
  t_MOST_RULES : Tok
  g_MOST_RULES : mg "MOST_RULES" = some (.int 4000 t_MOST_RULES)
  z_abs : mg "abs" = none
  z_all : mg "all" = none
  z_bool : mg "bool" = none
  z_enumerate : mg "enumerate" = none
  z_int : mg "int" = none
  z_isinstance : mg "isinstance" = none
  z_len : mg "len" = none
  z_list : mg "list" = none
  z_max : mg "max" = none
  z_range : mg "range" = none
  z_str : mg "str" = none
  z_tuple : mg "tuple" = none
/-! ### is_int -/
abbrev s_is_int : Stmt := topS 1
theorem sc_is_int : FnScope ["thing"] ["thing"] (defScope s_is_int) := ⟨rfl, rfl, rfl, by decide +kernel, rfl, by decide +kernel, by decide +kernel⟩
def td_is_int : DTS :=
  dRet (dAndV (dIs .int (dVar 0)) (dNotV (dIs .bool (dVar 0))))
theorem body_is_int {P : Program} {w : World} {K : PySem.W.Frag} {mg : Str → Option Value} {base : Heap} (T : Txt K mg) :
    ∀ (cdv : Value) (A : Around) (outer : List Env) (s : Shared) (H : Hp) (E : XK), Room (0) (A.deeper (envOfC "is_int" (defScope s_is_int) s.heap.objs.size T.a_is_int cdv)) → DSs (cxOf CX0 P w K mg base ["thing"] "is_int" (defScope s_is_int) T.a_is_int cdv A outer s H E).nox (defBody s_is_int) (td_is_int) :=
  fun cdv A outer s H E hr =>
    dss_one (ds_ret (de_and (de_isi .int (by rfl) T.z_isinstance (de_var (pv 0)) (de_ty (pe_bltn (v := .ty "int") (by rfl) T.z_int (by decide +kernel) rfl))) (de_one (de_not (de_isi .bool (by rfl) T.z_isinstance (de_var (pv 0)) (de_ty (pe_bltn (v := .ty "bool") (by rfl) T.z_bool (by decide +kernel) rfl)))))))
/-! ### within -/
abbrev s_within : Stmt := topS 2
theorem sc_within : FnScope ["thing", "low", "high"] ["thing", "low", "high"] (defScope s_within) := ⟨rfl, rfl, rfl, by decide +kernel, rfl, by decide +kernel, by decide +kernel⟩
def td_within : DTS :=
  dRet (dAndV (dCall (sp_is_int) [] (dCons (dVar 0) (dNil))) (dChain fLe fLe (dVar 1) (dVar 0) (dVar 2)))
theorem body_within {P : Program} {w : World} {K : PySem.W.Frag} {mg : Str → Option Value} {base : Heap} (T : Txt K mg) (G_is_int : FnOk P w K mg base CX0 (1) T.a_is_int T.d_is_int ["thing"] (lSp K (sp_is_int))) :
    ∀ (cdv : Value) (A : Around) (outer : List Env) (s : Shared) (H : Hp) (E : XK), Room (1) (A.deeper (envOfC "within" (defScope s_within) s.heap.objs.size T.a_within cdv)) → DSs (cxOf CX0 P w K mg base ["thing", "low", "high"] "within" (defScope s_within) T.a_within cdv A outer s H E).nox (defBody s_within) (td_within) :=
  fun cdv A outer s H E hr =>
    dss_one (ds_ret (de_and (de_call G_is_int (hr.mono (by decide)) (by rfl) T.m_is_int T.F_is_int.kp T.b_is_int .nil (fun _ => rfl) pass0 (da_cons (de_var (pv 0)) (da_nil))) (de_one (de_chain (c_le) (c_le) (de_var (pv 1)) (de_var (pv 0)) (de_var (pv 2))))))
/-! ### is_row -/
abbrev s_is_row : Stmt := topS 3
theorem sc_is_row : FnScope ["thing", "low", "high"] ["thing", "low", "high"] (defScope s_is_row) := ⟨rfl, rfl, rfl, by decide +kernel, rfl, by decide +kernel, by decide +kernel⟩
def td_is_row : DTS :=
  dRet (dAndV (dIs .tup (dVar 0)) (dChain fLe fLe (dVar 1) (dFn fLen (dCons (dVar 0) (dNil))) (dVar 2)))
theorem body_is_row {P : Program} {w : World} {K : PySem.W.Frag} {mg : Str → Option Value} {base : Heap} (T : Txt K mg) :
    ∀ (cdv : Value) (A : Around) (outer : List Env) (s : Shared) (H : Hp) (E : XK), Room (0) (A.deeper (envOfC "is_row" (defScope s_is_row) s.heap.objs.size T.a_is_row cdv)) → DSs (cxOf CX0 P w K mg base ["thing", "low", "high"] "is_row" (defScope s_is_row) T.a_is_row cdv A outer s H E).nox (defBody s_is_row) (td_is_row) :=
  fun cdv A outer s H E hr =>
    dss_one (ds_ret (de_and (de_isi .tup (by rfl) T.z_isinstance (de_var (pv 0)) (de_ty (pe_bltn (v := .ty "tuple") (by rfl) T.z_tuple (by decide +kernel) rfl))) (de_one (de_chain (c_le) (c_le) (de_var (pv 1)) (de_callB call_len ok_len (by rfl) T.z_len (by decide +kernel) (da_cons (de_var (pv 0)) (da_nil))) (de_var (pv 2))))))
/-! ### is_letter -/
abbrev s_is_letter : Stmt := topS 7
theorem sc_is_letter : FnScope ["thing"] ["thing"] (defScope s_is_letter) := ⟨rfl, rfl, rfl, by decide +kernel, rfl, by decide +kernel, by decide +kernel⟩
def td_is_letter : DTS :=
  dRet (dAndV (dCall (sp_within) [] (dCons (dVar 0) (dCons (dUn fNeg (dC (.int 20))) (dCons (dC (.int 20)) (dNil))))) (dOp fNeA (dVar 0) (dC (.int 0))))
theorem body_is_letter {P : Program} {w : World} {K : PySem.W.Frag} {mg : Str → Option Value} {base : Heap} (T : Txt K mg) (G_within : FnOk P w K mg base CX0 (2) T.a_within T.d_within ["thing", "low", "high"] (lSp K (sp_within))) :
    ∀ (cdv : Value) (A : Around) (outer : List Env) (s : Shared) (H : Hp) (E : XK), Room (2) (A.deeper (envOfC "is_letter" (defScope s_is_letter) s.heap.objs.size T.a_is_letter cdv)) → DSs (cxOf CX0 P w K mg base ["thing"] "is_letter" (defScope s_is_letter) T.a_is_letter cdv A outer s H E).nox (defBody s_is_letter) (td_is_letter) :=
  fun cdv A outer s H E hr =>
    dss_one (ds_ret (de_and (de_call G_within (hr.mono (by decide)) (by rfl) T.m_within T.F_within.kp T.b_within .nil (fun _ => rfl) pass0 (da_cons (de_var (pv 0)) (da_cons (de_neg (de_int (pe_glob (by rfl) T.g_MOST_LETTER ⟨_, rfl⟩))) (da_cons (de_int (pe_glob (by rfl) T.g_MOST_LETTER ⟨_, rfl⟩)) (da_nil))))) (de_one (de_cmp (c_ne hr.units) (de_var (pv 0)) (de_int pe_int) (nomark _)))))
/-! ### is_rule -/
abbrev s_is_rule : Stmt := topS 8
theorem sc_is_rule : FnScope ["thing", "index"] ["thing", "index"] (defScope s_is_rule) := ⟨rfl, rfl, rfl, by decide +kernel, rfl, by decide +kernel, by decide +kernel⟩
def td_is_rule : DTS :=
  dSeq (dIf (dOrT (dNotT (dTruth (dCall (sp_is_row) [] (dCons (dVar 0) (dCons (dC (.int 1)) (dCons (dC (.int 3)) (dNil))))))) (dNotT (dTruth (dIs .str (dOp fIx (dVar 0) (dC (.int 0))))))) (dRet (dC (.bl false))) (dNext))
    (dSeq (dIf (dTest (dOp fEqA (dOp fIx (dVar 0) (dC (.int 0))) (dC (.str "none")))) (dRet (dOp fEqA (dFn fLen (dCons (dVar 0) (dNil))) (dC (.int 1)))) (dNext))
    (dSeq (dIf (dTest (dOp fEqA (dOp fIx (dVar 0) (dC (.int 0))) (dC (.str "letter")))) (dRet (dAndV (dOp fEqA (dFn fLen (dCons (dVar 0) (dNil))) (dC (.int 2))) (dCall (sp_is_letter) [] (dCons (dOp fIx (dVar 0) (dC (.int 1))) (dNil))))) (dNext))
    (dSeq (dIf (dOrT (dTest (dOp fNeA (dFn fLen (dCons (dVar 0) (dNil))) (dC (.int 3)))) (dNotT (dTruth (dCall (sp_within) [] (dCons (dOp fIx (dVar 0) (dC (.int 1))) (dCons (dC (.int 0)) (dCons (dOp fSubI (dVar 1) (dC (.int 1))) (dNil)))))))) (dRet (dC (.bl false))) (dNext))
    (dSeq (dIf (dTest (dOp fEqA (dOp fIx (dVar 0) (dC (.int 0))) (dC (.str "pair")))) (dRet (dCall (sp_within) [] (dCons (dOp fIx (dVar 0) (dC (.int 2))) (dCons (dC (.int 0)) (dCons (dOp fSubI (dVar 1) (dC (.int 1))) (dNil)))))) (dNext))
    (dRet (dAndV (dOp fEqA (dOp fIx (dVar 0) (dC (.int 0))) (dC (.str "power"))) (dAndV (dCall (sp_is_int) [] (dCons (dOp fIx (dVar 0) (dC (.int 2))) (dNil))) (dOp fGt (dOp fIx (dVar 0) (dC (.int 2))) (dC (.int 1))))))))))
theorem body_is_rule {P : Program} {w : World} {K : PySem.W.Frag} {mg : Str → Option Value} {base : Heap} (T : Txt K mg) (G_is_int : FnOk P w K mg base CX0 (1) T.a_is_int T.d_is_int ["thing"] (lSp K (sp_is_int))) (G_is_letter : FnOk P w K mg base CX0 (3) T.a_is_letter T.d_is_letter ["thing"] (lSp K (sp_is_letter))) (G_is_row : FnOk P w K mg base CX0 (1) T.a_is_row T.d_is_row ["thing", "low", "high"] (lSp K (sp_is_row))) (G_within : FnOk P w K mg base CX0 (2) T.a_within T.d_within ["thing", "low", "high"] (lSp K (sp_within))) :
    ∀ (cdv : Value) (A : Around) (outer : List Env) (s : Shared) (H : Hp) (E : XK), Room (3) (A.deeper (envOfC "is_rule" (defScope s_is_rule) s.heap.objs.size T.a_is_rule cdv)) → DSs (cxOf CX0 P w K mg base ["thing", "index"] "is_rule" (defScope s_is_rule) T.a_is_rule cdv A outer s H E).nox (defBody s_is_rule) (td_is_rule) :=
  fun cdv A outer s H E hr =>
    dss_cons (ds_if (dt_w (dw_or (dt_not (dt_truth (de_call G_is_row (hr.mono (by decide)) (by rfl) T.m_is_row T.F_is_row.kp T.b_is_row .nil (fun _ => rfl) pass0 (da_cons (de_var (pv 0)) (da_cons (de_int pe_int) (da_cons (de_int pe_int) (da_nil))))))) (dw_or1 (dt_not (dt_truth (de_isi .str (by rfl) T.z_isinstance (de_ix (de_var (pv 0)) (de_int pe_int)) (de_ty (pe_bltn (v := .ty "str") (by rfl) T.z_str (by decide +kernel) rfl)))))))) (dss_one (ds_ret (de_bl pe_bl))) (dss_nil))
    (dss_cons (ds_if (dt_cmp (c_eq hr.units) (de_ix (de_var (pv 0)) (de_int pe_int)) (de_str pe_str) (nomark _)) (dss_one (ds_ret (de_cmp (c_eq hr.units) (de_callB call_len ok_len (by rfl) T.z_len (by decide +kernel) (da_cons (de_var (pv 0)) (da_nil))) (de_int pe_int) (nomark _)))) (dss_nil))
    (dss_cons (ds_if (dt_cmp (c_eq hr.units) (de_ix (de_var (pv 0)) (de_int pe_int)) (de_str pe_str) (nomark _)) (dss_one (ds_ret (de_and (de_cmp (c_eq hr.units) (de_callB call_len ok_len (by rfl) T.z_len (by decide +kernel) (da_cons (de_var (pv 0)) (da_nil))) (de_int pe_int) (nomark _)) (de_one (de_call G_is_letter (hr.mono (by decide)) (by rfl) T.m_is_letter T.F_is_letter.kp T.b_is_letter .nil (fun _ => rfl) pass0 (da_cons (de_ix (de_var (pv 0)) (de_int pe_int)) (da_nil))))))) (dss_nil))
    (dss_cons (ds_if (dt_w (dw_or (dt_cmp (c_ne hr.units) (de_callB call_len ok_len (by rfl) T.z_len (by decide +kernel) (da_cons (de_var (pv 0)) (da_nil))) (de_int pe_int) (nomark _)) (dw_or1 (dt_not (dt_truth (de_call G_within (hr.mono (by decide)) (by rfl) T.m_within T.F_within.kp T.b_within .nil (fun _ => rfl) pass0 (da_cons (de_ix (de_var (pv 0)) (de_int pe_int)) (da_cons (de_int pe_int) (da_cons (de_sub (de_var (pv 1)) (de_int pe_int)) (da_nil)))))))))) (dss_one (ds_ret (de_bl pe_bl))) (dss_nil))
    (dss_cons (ds_if (dt_cmp (c_eq hr.units) (de_ix (de_var (pv 0)) (de_int pe_int)) (de_str pe_str) (nomark _)) (dss_one (ds_ret (de_call G_within (hr.mono (by decide)) (by rfl) T.m_within T.F_within.kp T.b_within .nil (fun _ => rfl) pass0 (da_cons (de_ix (de_var (pv 0)) (de_int pe_int)) (da_cons (de_int pe_int) (da_cons (de_sub (de_var (pv 1)) (de_int pe_int)) (da_nil))))))) (dss_nil))
    (dss_one (ds_ret (de_and (de_cmp (c_eq hr.units) (de_ix (de_var (pv 0)) (de_int pe_int)) (de_str pe_str) (nomark _)) (de_and (de_call G_is_int (hr.mono (by decide)) (by rfl) T.m_is_int T.F_is_int.kp T.b_is_int .nil (fun _ => rfl) pass0 (da_cons (de_ix (de_var (pv 0)) (de_int pe_int)) (da_nil))) (de_one (de_cmp (c_gt) (de_ix (de_var (pv 0)) (de_int pe_int)) (de_int pe_int) (nomark _)))))))))))
/-! ### is_straight -/
abbrev s_is_straight : Stmt := topS 9
theorem sc_is_straight : FnScope ["thing", "index", "rule"] ["thing"] (defScope s_is_straight) := ⟨rfl, rfl, rfl, by decide +kernel, rfl, by decide +kernel, by decide +kernel⟩
def td_is_straight : DTS :=
  dRet (dAndV (dCall (sp_is_row) [] (dCons (dVar 0) (dCons (dC (.int 1)) (dCons (dC (.int 4000)) (dNil))))) (dFn fAll (dCons (dLcF (dEnum (dVar 0)) [1, 2] (dgTup 2 (dgCons (dgName 1) (dgCons (dgName 2) (dgNil)))) (dYes) (dCall (sp_is_rule) [] (dCons (dVar 2) (dCons (dVar 1) (dNil))))) (dNil))))
theorem body_is_straight {P : Program} {w : World} {K : PySem.W.Frag} {mg : Str → Option Value} {base : Heap} (T : Txt K mg) (G_is_row : FnOk P w K mg base CX0 (1) T.a_is_row T.d_is_row ["thing", "low", "high"] (lSp K (sp_is_row))) (G_is_rule : FnOk P w K mg base CX0 (4) T.a_is_rule T.d_is_rule ["thing", "index"] (lSp K (sp_is_rule))) :
    ∀ (cdv : Value) (A : Around) (outer : List Env) (s : Shared) (H : Hp) (E : XK), Room (4) (A.deeper (envOfC "is_straight" (defScope s_is_straight) s.heap.objs.size T.a_is_straight cdv)) → DSs (cxOf CX0 P w K mg base ["thing", "index", "rule"] "is_straight" (defScope s_is_straight) T.a_is_straight cdv A outer s H E).nox (defBody s_is_straight) (td_is_straight) :=
  fun cdv A outer s H E hr =>
    dss_one (ds_ret (de_and (de_call G_is_row (hr.mono (by decide)) (by rfl) T.m_is_row T.F_is_row.kp T.b_is_row .nil (fun _ => rfl) pass0 (da_cons (de_var (pv 0)) (da_cons (de_int pe_int) (da_cons (de_int (pe_glob (by rfl) T.g_MOST_RULES ⟨_, rfl⟩)) (da_nil))))) (de_one (de_callB (cr_all rfl) ok_all (by rfl) T.z_all (by decide +kernel) (da_cons (de_lcF (own := [("index", 1), ("rule", 2)]) rfl sc_is_straight.nd (di_enum (by rfl) T.z_enumerate (de_var (pv 0))) (blkOk_by (by show blkC ["thing", "index", "rule"] (defScope s_is_straight) _ _ = true; decide +kernel)) (fun _ _ _ _ _ => dgc_tup rfl (dgcs_cons (dgc_name (pg_name (i := 1) sc_is_straight.nd rfl (Or.inl rfl))) (dgcs_cons (dgc_name (pg_name (i := 2) sc_is_straight.nd rfl (Or.inl rfl))) (dgcs_nil)))) (fun _ _ _ _ _ => dts_nil) (fun _ _ _ _ _ => de_call G_is_rule (hr.mono (by decide)) (by rfl) T.m_is_rule T.F_is_rule.kp T.b_is_rule .nil (fun _ => rfl) pass0 (da_cons (de_var (pv 2)) (da_cons (de_var (pv 1)) (da_nil))))) (da_nil))))))
/-! ### _law_cup -/
abbrev s__law_cup : Stmt := topS 11
theorem sc__law_cup : FnScope ["script", "blend", "cell"] ["script"] (defScope s__law_cup) := ⟨rfl, rfl, rfl, by decide +kernel, rfl, by decide +kernel, by decide +kernel⟩
def td__law_cup : DTS :=
  dSeq (dSet 1 (dC (.int 1)))
    (dSeq (dFor (dWalk (dVar 0)) (dgName 2) (dSet 1 (dOp fAddF (dOp fMod (dFn fInt (dCons (dOp fAddF (dOp fMulF (dVar 1) (dC (.int 31))) (dVar 2)) (dNil))) (dC (.int 2147483629))) (dC (.int 1)))))
    (dRet (dLst (dCons (dC (.int 0)) (dCons (dVar 1) (dCons (dC (.int 0)) (dCons (dFn fList (dCons (dVar 0) (dNil))) (dNil))))))))
theorem body__law_cup {P : Program} {w : World} {K : PySem.W.Frag} {mg : Str → Option Value} {base : Heap} (T : Txt K mg) :
    ∀ (cdv : Value) (A : Around) (outer : List Env) (s : Shared) (H : Hp) (E : XK), Room (0) (A.deeper (envOfC "_law_cup" (defScope s__law_cup) s.heap.objs.size T.a__law_cup cdv)) → DSs (cxOf CX0 P w K mg base ["script", "blend", "cell"] "_law_cup" (defScope s__law_cup) T.a__law_cup cdv A outer s H E).nox (defBody s__law_cup) (td__law_cup) :=
  fun cdv A outer s H E hr =>
    dss_cons (ds_set (i := 1) sc__law_cup.nd rfl (Or.inl rfl) (de_int pe_int))
    (dss_cons (ds_for PassesOwn.never rfl (di_walk (de_var (pv 0))) (dg_name (pg_name (i := 2) sc__law_cup.nd rfl (Or.inl rfl))) (dss_one (ds_set (i := 1) sc__law_cup.nd rfl (Or.inl rfl) (de_addF (de_mod (de_callTy call_int1 ok_int (by rfl) T.z_int (by decide +kernel) (da_cons (de_addF (de_mulF (de_var (pv 1)) (de_int pe_int)) (de_var (pv 2))) (da_nil))) (de_int pe_int)) (de_int pe_int)))))
    (dss_one (ds_ret (de_lst (da_cons (de_int pe_int) (da_cons (de_var (pv 1)) (da_cons (de_int pe_int) (da_cons (de_callTy call_list_of ok_list (by rfl) T.z_list (by decide +kernel) (da_cons (de_var (pv 0)) (da_nil))) (da_nil)))))))))
/-! ### _law_sip -/
abbrev s__law_sip : Stmt := topS 12
theorem sc__law_sip : FnScope ["cup", "many", "size", "drawn"] ["cup", "many"] (defScope s__law_sip) := ⟨rfl, rfl, rfl, by decide +kernel, rfl, by decide +kernel, by decide +kernel⟩
def td__law_sip : DTS :=
  dCut (dIf (dAndT (dTest (dOp fEqA (dOp fIx (dVar 0) (dC (.int 0))) (dC (.int 0)))) (dTest (dOp fNeA (dOp fIx (dVar 0) (dC (.int 3))) (dLstF (dNil))))) (dSeq (dSet 2 (dFn fAbs (dCons (dFn fInt (dCons (dMt fPopAt (dOp fIx (dVar 0) (dC (.int 3))) (dCons (dC (.int 0)) (dNil))) (dNil))) (dNil))))
    (dAsg (dIfE (dTest (dOp fGe (dVar 2) (dOp fPow (dC (.int 10)) (dC (.int 18))))) (dVar 2) (dOp fAddF (dOp fMulF (dOp fFdiv (dOp fMulF (dVar 2) (dVar 2)) (dC (.int 97))) (dC (.int 48271))) (dVar 2))) (dgSub (dVar 0) (dC (.int 0))))) (dNext))
    (dSeq (dIf (dTest (dOp fGt (dOp fIx (dVar 0) (dC (.int 0))) (dC (.int 0)))) (dSeq (dSet 3 (dOp fMod (dFn fInt (dCons (dOp fIx (dVar 0) (dC (.int 0))) (dNil))) (dVar 1)))
    (dSeq (dAsg (dOp fFdiv (dOp fIx (dVar 0) (dC (.int 0))) (dVar 1)) (dgSub (dVar 0) (dC (.int 0))))
    (dRet (dVar 3)))) (dNext))
    (dSeq (dAsg (dOp fAddF (dOp fIx (dVar 0) (dC (.int 2))) (dC (.int 1))) (dgSub (dVar 0) (dC (.int 2))))
    (dSeq (dAsg (dOp fMod (dFn fInt (dCons (dOp fAddF (dOp fAddF (dOp fMulF (dOp fIx (dVar 0) (dC (.int 1))) (dC (.int 16807))) (dOp fMulF (dOp fMulF (dOp fIx (dVar 0) (dC (.int 2))) (dOp fIx (dVar 0) (dC (.int 2)))) (dC (.int 4099)))) (dC (.int 77))) (dNil))) (dC (.int 2147483647))) (dgSub (dVar 0) (dC (.int 1))))
    (dRet (dOp fMod (dOp fFdiv (dOp fMod (dFn fInt (dCons (dOp fMulF (dOp fIx (dVar 0) (dC (.int 1))) (dOp fAddF (dOp fFdiv (dOp fIx (dVar 0) (dC (.int 1))) (dC (.int 1009))) (dC (.int 5)))) (dNil))) (dC (.int 2147483629))) (dC (.int 61))) (dVar 1))))))
theorem body__law_sip {P : Program} {w : World} {K : PySem.W.Frag} {mg : Str → Option Value} {base : Heap} (T : Txt K mg) :
    ∀ (cdv : Value) (A : Around) (outer : List Env) (s : Shared) (H : Hp) (E : XK), Room (0) (A.deeper (envOfC "_law_sip" (defScope s__law_sip) s.heap.objs.size T.a__law_sip cdv)) → DSs (cxOf CX0 P w K mg base ["cup", "many", "size", "drawn"] "_law_sip" (defScope s__law_sip) T.a__law_sip cdv A outer s H E).nox (defBody s__law_sip) (td__law_sip) :=
  fun cdv A outer s H E hr =>
    dss_cut (ds_if (dt_w (dw_and (dt_cmp (c_eq hr.units) (de_ix (de_var (pv 0)) (de_int pe_int)) (de_int pe_int) (nomark _)) (dw_and1 (dt_cmp (c_ne hr.units) (de_ix (de_var (pv 0)) (de_int pe_int)) (de_lstF (da_nil)) (nomark _))))) (dss_cons (ds_set (i := 2) sc__law_sip.nd rfl (Or.inl rfl) (de_callB call_abs ok_abs (by rfl) T.z_abs (by decide +kernel) (da_cons (de_callTy call_int1 ok_int (by rfl) T.z_int (by decide +kernel) (da_cons (de_mt PySem.F.slot_list_pop PySem.F.type_list_pop mt_popAt ok_popAt (de_ix (de_var (pv 0)) (de_int pe_int)) (da_cons (de_int pe_int) (da_nil))) (da_nil))) (da_nil))))
    (dss_one (ds_asg (de_if (dt_cmp (c_ge) (de_var (pv 2)) (de_pow (de_int pe_int) (de_int pe_int)) (nomark _)) (de_var (pv 2)) (de_addF (de_mulF (de_fdiv (de_mulF (de_var (pv 2)) (de_var (pv 2))) (de_int pe_int)) (de_int pe_int)) (de_var (pv 2)))) (dg_sub (de_var (pv 0)) (de_int pe_int))))) (dss_nil))
    (dss_cons (ds_if (dt_cmp (c_gt) (de_ix (de_var (pv 0)) (de_int pe_int)) (de_int pe_int) (nomark _)) (dss_cons (ds_set (i := 3) sc__law_sip.nd rfl (Or.inl rfl) (de_mod (de_callTy call_int1 ok_int (by rfl) T.z_int (by decide +kernel) (da_cons (de_ix (de_var (pv 0)) (de_int pe_int)) (da_nil))) (de_var (pv 1))))
    (dss_cons (ds_asg (de_fdiv (de_ix (de_var (pv 0)) (de_int pe_int)) (de_var (pv 1))) (dg_sub (de_var (pv 0)) (de_int pe_int)))
    (dss_one (ds_ret (de_var (pv 3)))))) (dss_nil))
    (dss_cons (ds_asg (de_addF (de_ix (de_var (pv 0)) (de_int pe_int)) (de_int pe_int)) (dg_sub (de_var (pv 0)) (de_int pe_int)))
    (dss_cons (ds_asg (de_mod (de_callTy call_int1 ok_int (by rfl) T.z_int (by decide +kernel) (da_cons (de_addF (de_addF (de_mulF (de_ix (de_var (pv 0)) (de_int pe_int)) (de_int pe_int)) (de_mulF (de_mulF (de_ix (de_var (pv 0)) (de_int pe_int)) (de_ix (de_var (pv 0)) (de_int pe_int))) (de_int pe_int))) (de_int pe_int)) (da_nil))) (de_int pe_int)) (dg_sub (de_var (pv 0)) (de_int pe_int)))
    (dss_one (ds_ret (de_mod (de_fdiv (de_mod (de_callTy call_int1 ok_int (by rfl) T.z_int (by decide +kernel) (da_cons (de_mulF (de_ix (de_var (pv 0)) (de_int pe_int)) (de_addF (de_fdiv (de_ix (de_var (pv 0)) (de_int pe_int)) (de_int pe_int)) (de_int pe_int))) (da_nil))) (de_int pe_int)) (de_int pe_int)) (de_var (pv 1))))))))
/-! ### _law_same -/
abbrev s__law_same : Stmt := topS 13
theorem sc__law_same : FnScope ["found", "due", "k"] ["found", "due"] (defScope s__law_same) := ⟨rfl, rfl, rfl, by decide +kernel, rfl, by decide +kernel, by decide +kernel⟩
def td__law_same : DTS :=
  dSeq (dIf (dTruth (dIs .tup (dVar 1))) (dSeq (dIf (dOrT (dNotT (dTruth (dIs .tup (dVar 0)))) (dTest (dOp fNeA (dFn fLen (dCons (dVar 0) (dNil))) (dFn fLen (dCons (dVar 1) (dNil)))))) (dRet (dC (.bl false))) (dNext))
    (dNever)) (dNext))
    (dSeq (dIf (dTest (dOp fIsA (dVar 1) (dC .non))) (dRet (dOp fIsA (dVar 0) (dC .non))) (dNext))
    (dSeq (dIf (dTruth (dIs .bool (dVar 1))) (dRet (dAndV (dIs .bool (dVar 0)) (dOp fEqA (dVar 0) (dVar 1)))) (dNext))
    (dSeq (dIf (dTruth (dIs .int (dVar 1))) (dRet (dAndV (dIs .int (dVar 0)) (dAndV (dNotV (dIs .bool (dVar 0))) (dOp fEqA (dVar 0) (dVar 1))))) (dNext))
    (dRet (dAndV (dIs .str (dVar 0)) (dOp fEqA (dVar 0) (dVar 1)))))))
theorem body__law_same {P : Program} {w : World} {K : PySem.W.Frag} {mg : Str → Option Value} {base : Heap} (T : Txt K mg) :
    ∀ (cdv : Value) (A : Around) (outer : List Env) (s : Shared) (H : Hp) (E : XK), Room (0) (A.deeper (envOfC "_law_same" (defScope s__law_same) s.heap.objs.size T.a__law_same cdv)) → DSs (cxOf CX0 P w K mg base ["found", "due", "k"] "_law_same" (defScope s__law_same) T.a__law_same cdv A outer s H E).nox (defBody s__law_same) (td__law_same) :=
  fun cdv A outer s H E hr =>
    dss_cons (ds_if (dt_truth (de_isi .tup (by rfl) T.z_isinstance (de_var (pv 1)) (de_ty (pe_bltn (v := .ty "tuple") (by rfl) T.z_tuple (by decide +kernel) rfl)))) (dss_cons (ds_if (dt_w (dw_or (dt_not (dt_truth (de_isi .tup (by rfl) T.z_isinstance (de_var (pv 0)) (de_ty (pe_bltn (v := .ty "tuple") (by rfl) T.z_tuple (by decide +kernel) rfl))))) (dw_or1 (dt_cmp (c_ne hr.units) (de_callB call_len ok_len (by rfl) T.z_len (by decide +kernel) (da_cons (de_var (pv 0)) (da_nil))) (de_callB call_len ok_len (by rfl) T.z_len (by decide +kernel) (da_cons (de_var (pv 1)) (da_nil))) (nomark _))))) (dss_one (ds_ret (de_bl pe_bl))) (dss_nil))
    (dss_one (ds_never))) (dss_nil))
    (dss_cons (ds_if (dt_cmp (c_is) (de_var (pv 1)) (de_non pe_non) (nomark _)) (dss_one (ds_ret (de_cmp (c_is) (de_var (pv 0)) (de_non pe_non) (nomark _)))) (dss_nil))
    (dss_cons (ds_if (dt_truth (de_isi .bool (by rfl) T.z_isinstance (de_var (pv 1)) (de_ty (pe_bltn (v := .ty "bool") (by rfl) T.z_bool (by decide +kernel) rfl)))) (dss_one (ds_ret (de_and (de_isi .bool (by rfl) T.z_isinstance (de_var (pv 0)) (de_ty (pe_bltn (v := .ty "bool") (by rfl) T.z_bool (by decide +kernel) rfl))) (de_one (de_cmp (c_eq hr.units) (de_var (pv 0)) (de_var (pv 1)) (nomark _)))))) (dss_nil))
    (dss_cons (ds_if (dt_truth (de_isi .int (by rfl) T.z_isinstance (de_var (pv 1)) (de_ty (pe_bltn (v := .ty "int") (by rfl) T.z_int (by decide +kernel) rfl)))) (dss_one (ds_ret (de_and (de_isi .int (by rfl) T.z_isinstance (de_var (pv 0)) (de_ty (pe_bltn (v := .ty "int") (by rfl) T.z_int (by decide +kernel) rfl))) (de_and (de_not (de_isi .bool (by rfl) T.z_isinstance (de_var (pv 0)) (de_ty (pe_bltn (v := .ty "bool") (by rfl) T.z_bool (by decide +kernel) rfl)))) (de_one (de_cmp (c_eq hr.units) (de_var (pv 0)) (de_var (pv 1)) (nomark _))))))) (dss_nil))
    (dss_one (ds_ret (de_and (de_isi .str (by rfl) T.z_isinstance (de_var (pv 0)) (de_ty (pe_bltn (v := .ty "str") (by rfl) T.z_str (by decide +kernel) rfl))) (de_one (de_cmp (c_eq hr.units) (de_var (pv 0)) (de_var (pv 1)) (nomark _)))))))))
/-! ### _law_is_whole -/
abbrev s__law_is_whole : Stmt := topS 14
theorem sc__law_is_whole : FnScope ["found"] ["found"] (defScope s__law_is_whole) := ⟨rfl, rfl, rfl, by decide +kernel, rfl, by decide +kernel, by decide +kernel⟩
def td__law_is_whole : DTS :=
  dRet (dAndV (dIs .int (dVar 0)) (dNotV (dIs .bool (dVar 0))))
theorem body__law_is_whole {P : Program} {w : World} {K : PySem.W.Frag} {mg : Str → Option Value} {base : Heap} (T : Txt K mg) :
    ∀ (cdv : Value) (A : Around) (outer : List Env) (s : Shared) (H : Hp) (E : XK), Room (0) (A.deeper (envOfC "_law_is_whole" (defScope s__law_is_whole) s.heap.objs.size T.a__law_is_whole cdv)) → DSs (cxOf CX0 P w K mg base ["found"] "_law_is_whole" (defScope s__law_is_whole) T.a__law_is_whole cdv A outer s H E).nox (defBody s__law_is_whole) (td__law_is_whole) :=
  fun cdv A outer s H E hr =>
    dss_one (ds_ret (de_and (de_isi .int (by rfl) T.z_isinstance (de_var (pv 0)) (de_ty (pe_bltn (v := .ty "int") (by rfl) T.z_int (by decide +kernel) rfl))) (de_one (de_not (de_isi .bool (by rfl) T.z_isinstance (de_var (pv 0)) (de_ty (pe_bltn (v := .ty "bool") (by rfl) T.z_bool (by decide +kernel) rfl)))))))
/-! ### _law_bent -/
abbrev s__law_bent : Stmt := topS 15
theorem sc__law_bent : FnScope ["cup", "thing", "k", "j", "some"] ["cup", "thing"] (defScope s__law_bent) := ⟨rfl, rfl, rfl, by decide +kernel, rfl, by decide +kernel, by decide +kernel⟩
def td__law_bent (n : Nat) : DTS :=
  dSeq (dIf (dAndT (dTruth (dIs .tup (dVar 1))) (dAndT (dTest (dOp fNeA (dVar 1) (dTup (dNil)))) (dTest (dOp fGt (dCall (sp__law_sip) [] (dCons (dVar 0) (dCons (dC (.int 5)) (dNil)))) (dC (.int 0)))))) (dSeq (dSet 2 (dCall (sp__law_sip) [] (dCons (dVar 0) (dCons (dFn fLen (dCons (dVar 1) (dNil))) (dNil)))))
    (dRet (dOp fAddF (dOp fAddF (dSlF (dVar 1) (dNoPart) (dPart (dVar 2))) (dTup (dCons (dCall (sp_bent n) [] (dCons (dVar 0) (dCons (dOp fIx (dVar 1) (dVar 2)) (dNil)))) (dNil)))) (dSlF (dVar 1) (dPart (dOp fAddF (dVar 2) (dC (.int 1)))) (dNoPart))))) (dNext))
    (dSeq (dIf (dTruth (dIs .tup (dVar 1))) (dSeq (dPar [2, 3] (dCons (dCall (sp__law_sip) [] (dCons (dVar 0) (dCons (dOp fAddF (dFn fLen (dCons (dVar 1) (dNil))) (dC (.int 1))) (dNil)))) (dCons (dCall (sp__law_sip) [] (dCons (dVar 0) (dCons (dOp fAddF (dFn fLen (dCons (dVar 1) (dNil))) (dC (.int 1))) (dNil)))) (dNil))))
    (dSeq (dSet 4 (dLstF (dCons (dOp fAddF (dSlF (dVar 1) (dNoPart) (dPart (dVar 2))) (dSlF (dVar 1) (dPart (dOp fAddF (dVar 2) (dC (.int 1)))) (dNoPart))) (dCons (dOp fAddF (dOp fAddF (dSlF (dVar 1) (dNoPart) (dPart (dVar 2))) (dSlF (dVar 1) (dPart (dVar 2)) (dPart (dOp fAddF (dVar 2) (dC (.int 1)))))) (dSlF (dVar 1) (dPart (dVar 2)) (dNoPart))) (dCons (dBack (dVar 1)) (dCons (dFn fListF (dCons (dVar 1) (dNil))) (dCons (dOp fAddF (dVar 1) (dTup (dCons (dC (.int 0)) (dNil)))) (dNil))))))))
    (dSeq (dSet 4 (dOp fAddF (dVar 4) (dLstF (dCons (dTup (dCons (dVar 1) (dNil))) (dCons (dOp fAddF (dOp fAddF (dSlF (dVar 1) (dNoPart) (dPart (dVar 2))) (dSlF (dVar 1) (dPart (dVar 3)) (dPart (dOp fAddF (dVar 3) (dC (.int 1)))))) (dSlF (dVar 1) (dPart (dOp fAddF (dVar 2) (dC (.int 1)))) (dNoPart))) (dCons (dC .non) (dCons (dTup (dNil)) (dCons (dLstF (dNil)) (dCons (dC (.str "")) (dCons (dOp fAddF (dVar 1) (dTup (dCons (dTup (dCons (dC (.str "none")) (dNil))) (dNil)))) (dCons (dOp fAddF (dVar 1) (dTup (dCons (dTup (dNil)) (dNil)))) (dNil))))))))))))
    (dRet (dOp fIx (dVar 4) (dCall (sp__law_sip) [] (dCons (dVar 0) (dCons (dC (.int 13)) (dNil))))))))) (dNext))
    (dSeq (dSet 4 (dLstF (dCons (dC .non) (dCons (dC (.bl true)) (dCons (dC (.bl false)) (dCons (dFn fStr (dCons (dVar 1) (dNil))) (dCons (dTup (dCons (dVar 1) (dNil))) (dCons (dLstF (dCons (dVar 1) (dNil))) (dCons (dC (.str "none")) (dCons (dC (.str "letter")) (dCons (dC (.str "pair")) (dCons (dC (.str "power")) (dCons (dC (.str "")) (dCons (dC (.int 0)) (dCons (dC (.int 1)) (dCons (dC (.int 2)) (dCons (dC (.int 20)) (dCons (dC (.int 21)) (dCons (dUn fNeg (dC (.int 20))) (dCons (dUn fNeg (dC (.int 21))) (dCons (dOp fPow (dC (.int 10)) (dC (.int 30))) (dNil))))))))))))))))))))))
    (dSeq (dIf (dTruth (dIs .int (dVar 1))) (dSet 4 (dOp fAddF (dVar 4) (dLstF (dCons (dOp fAddF (dVar 1) (dC (.int 1))) (dCons (dOp fSubI (dVar 1) (dC (.int 1))) (dCons (dUn fNeg (dVar 1)) (dCons (dOp fMulF (dVar 1) (dC (.int 2))) (dCons (dOp fAddF (dVar 1) (dC (.int 1))) (dCons (dOp fSubI (dVar 1) (dC (.int 1))) (dCons (dOp fSubI (dUn fNeg (dVar 1)) (dC (.int 1))) (dNil))))))))))) (dNext))
    (dRet (dOp fIx (dVar 4) (dCall (sp__law_sip) [] (dCons (dVar 0) (dCons (dFn fLen (dCons (dVar 4) (dNil))) (dNil)))))))))
theorem body__law_bent {P : Program} {w : World} {K : PySem.W.Frag} {mg : Str → Option Value} {base : Heap} (T : Txt K mg) (n : Nat) (G__law_bent : FnOk P w K mg base CX0 (n + 1) T.a__law_bent T.d__law_bent ["cup", "thing"] (lSp K (sp_bent n))) (G__law_sip : FnOk P w K mg base CX0 (1) T.a__law_sip T.d__law_sip ["cup", "many"] (lSp K (sp__law_sip))) :
    ∀ (cdv : Value) (A : Around) (outer : List Env) (s : Shared) (H : Hp) (E : XK), Room (n + 1) (A.deeper (envOfC "_law_bent" (defScope s__law_bent) s.heap.objs.size T.a__law_bent cdv)) → DSs (cxOf CX0 P w K mg base ["cup", "thing", "k", "j", "some"] "_law_bent" (defScope s__law_bent) T.a__law_bent cdv A outer s H E).nox (defBody s__law_bent) (td__law_bent n) :=
  fun cdv A outer s H E hr =>
    dss_cons (ds_if (dt_w (dw_and (dt_truth (de_isi .tup (by rfl) T.z_isinstance (de_var (pv 1)) (de_ty (pe_bltn (v := .ty "tuple") (by rfl) T.z_tuple (by decide +kernel) rfl)))) (dw_and (dt_cmp (c_ne hr.units) (de_var (pv 1)) (de_tup (da_nil)) (nomark _)) (dw_and1 (dt_cmp (c_gt) (de_call G__law_sip (hr.mono (by omega)) (by rfl) T.m__law_sip T.F__law_sip.kp T.b__law_sip .nil (fun _ => rfl) pass0 (da_cons (de_var (pv 0)) (da_cons (de_int pe_int) (da_nil)))) (de_int pe_int) (nomark _)))))) (dss_cons (ds_set (i := 2) sc__law_bent.nd rfl (Or.inl rfl) (de_call G__law_sip (hr.mono (by omega)) (by rfl) T.m__law_sip T.F__law_sip.kp T.b__law_sip .nil (fun _ => rfl) pass0 (da_cons (de_var (pv 0)) (da_cons (de_callB call_len ok_len (by rfl) T.z_len (by decide +kernel) (da_cons (de_var (pv 1)) (da_nil))) (da_nil)))))
    (dss_one (ds_ret (de_addF (de_addF (de_sliceF (de_var (pv 1)) (do_none) (do_some (de_var (pv 2)))) (de_tup (da_cons (de_call G__law_bent hr (by rfl) T.m__law_bent T.F__law_bent.kp T.b__law_bent .nil (fun _ => rfl) pass0 (da_cons (de_var (pv 0)) (da_cons (de_ix (de_var (pv 1)) (de_var (pv 2))) (da_nil)))) (da_nil)))) (de_sliceF (de_var (pv 1)) (do_some (de_addF (de_var (pv 2)) (de_int pe_int))) (do_none)))))) (dss_nil))
    (dss_cons (ds_if (dt_truth (de_isi .tup (by rfl) T.z_isinstance (de_var (pv 1)) (de_ty (pe_bltn (v := .ty "tuple") (by rfl) T.z_tuple (by decide +kernel) rfl)))) (dss_cons (ds_par (i := 2) (j := 3) rfl sc__law_bent.nd rfl rfl (by decide) rfl rfl (da_cons (de_call G__law_sip (hr.mono (by omega)) (by rfl) T.m__law_sip T.F__law_sip.kp T.b__law_sip .nil (fun _ => rfl) pass0 (da_cons (de_var (pv 0)) (da_cons (de_addF (de_callB call_len ok_len (by rfl) T.z_len (by decide +kernel) (da_cons (de_var (pv 1)) (da_nil))) (de_int pe_int)) (da_nil)))) (da_cons (de_call G__law_sip (hr.mono (by omega)) (by rfl) T.m__law_sip T.F__law_sip.kp T.b__law_sip .nil (fun _ => rfl) pass0 (da_cons (de_var (pv 0)) (da_cons (de_addF (de_callB call_len ok_len (by rfl) T.z_len (by decide +kernel) (da_cons (de_var (pv 1)) (da_nil))) (de_int pe_int)) (da_nil)))) (da_nil))))
    (dss_cons (ds_set (i := 4) sc__law_bent.nd rfl (Or.inl rfl) (de_lstF (da_cons (de_addF (de_sliceF (de_var (pv 1)) (do_none) (do_some (de_var (pv 2)))) (de_sliceF (de_var (pv 1)) (do_some (de_addF (de_var (pv 2)) (de_int pe_int))) (do_none))) (da_cons (de_addF (de_addF (de_sliceF (de_var (pv 1)) (do_none) (do_some (de_var (pv 2)))) (de_sliceF (de_var (pv 1)) (do_some (de_var (pv 2))) (do_some (de_addF (de_var (pv 2)) (de_int pe_int))))) (de_sliceF (de_var (pv 1)) (do_some (de_var (pv 2))) (do_none))) (da_cons (de_back (de_var (pv 1))) (da_cons (de_listF (by rfl) T.z_list (by decide +kernel) (da_cons (de_var (pv 1)) (da_nil))) (da_cons (de_addF (de_var (pv 1)) (de_tup (da_cons (de_int pe_int) (da_nil)))) (da_nil))))))))
    (dss_cons (ds_set (i := 4) sc__law_bent.nd rfl (Or.inl rfl) (de_addF (de_var (pv 4)) (de_lstF (da_cons (de_tup (da_cons (de_var (pv 1)) (da_nil))) (da_cons (de_addF (de_addF (de_sliceF (de_var (pv 1)) (do_none) (do_some (de_var (pv 2)))) (de_sliceF (de_var (pv 1)) (do_some (de_var (pv 3))) (do_some (de_addF (de_var (pv 3)) (de_int pe_int))))) (de_sliceF (de_var (pv 1)) (do_some (de_addF (de_var (pv 2)) (de_int pe_int))) (do_none))) (da_cons (de_non pe_non) (da_cons (de_tup (da_nil)) (da_cons (de_lstF (da_nil)) (da_cons (de_str pe_str) (da_cons (de_addF (de_var (pv 1)) (de_tup (da_cons (de_tup (da_cons (de_str pe_str) (da_nil))) (da_nil)))) (da_cons (de_addF (de_var (pv 1)) (de_tup (da_cons (de_tup (da_nil)) (da_nil)))) (da_nil))))))))))))
    (dss_one (ds_ret (de_ix (de_var (pv 4)) (de_call G__law_sip (hr.mono (by omega)) (by rfl) T.m__law_sip T.F__law_sip.kp T.b__law_sip .nil (fun _ => rfl) pass0 (da_cons (de_var (pv 0)) (da_cons (de_int pe_int) (da_nil)))))))))) (dss_nil))
    (dss_cons (ds_set (i := 4) sc__law_bent.nd rfl (Or.inl rfl) (de_lstF (da_cons (de_non pe_non) (da_cons (de_bl pe_bl) (da_cons (de_bl pe_bl) (da_cons (de_callTy call_strA ok_str (by rfl) T.z_str (by decide +kernel) (da_cons (de_var (pv 1)) (da_nil))) (da_cons (de_tup (da_cons (de_var (pv 1)) (da_nil))) (da_cons (de_lstF (da_cons (de_var (pv 1)) (da_nil))) (da_cons (de_str pe_str) (da_cons (de_str pe_str) (da_cons (de_str pe_str) (da_cons (de_str pe_str) (da_cons (de_str pe_str) (da_cons (de_int pe_int) (da_cons (de_int pe_int) (da_cons (de_int pe_int) (da_cons (de_int pe_int) (da_cons (de_int pe_int) (da_cons (de_neg (de_int pe_int)) (da_cons (de_neg (de_int pe_int)) (da_cons (de_pow (de_int pe_int) (de_int pe_int)) (da_nil))))))))))))))))))))))
    (dss_cons (ds_if (dt_truth (de_isi .int (by rfl) T.z_isinstance (de_var (pv 1)) (de_ty (pe_bltn (v := .ty "int") (by rfl) T.z_int (by decide +kernel) rfl)))) (dss_one (ds_set (i := 4) sc__law_bent.nd rfl (Or.inl rfl) (de_addF (de_var (pv 4)) (de_lstF (da_cons (de_addF (de_var (pv 1)) (de_int pe_int)) (da_cons (de_sub (de_var (pv 1)) (de_int pe_int)) (da_cons (de_neg (de_var (pv 1))) (da_cons (de_mulF (de_var (pv 1)) (de_int pe_int)) (da_cons (de_addF (de_var (pv 1)) (de_int pe_int)) (da_cons (de_sub (de_var (pv 1)) (de_int pe_int)) (da_cons (de_sub (de_neg (de_var (pv 1))) (de_int pe_int)) (da_nil)))))))))))) (dss_nil))
    (dss_one (ds_ret (de_ix (de_var (pv 4)) (de_call G__law_sip (hr.mono (by omega)) (by rfl) T.m__law_sip T.F__law_sip.kp T.b__law_sip .nil (fun _ => rfl) pass0 (da_cons (de_var (pv 0)) (da_cons (de_callB call_len ok_len (by rfl) T.z_len (by decide +kernel) (da_cons (de_var (pv 4)) (da_nil))) (da_nil))))))))))
/-! ### _law_text -/
abbrev s__law_text : Stmt := topS 16
theorem sc__law_text : FnScope ["cup", "many", "cap", "kinds", "rules", "sizes", "turn", "way", "rule", "size", "back", "i", "j", "k"] ["cup", "many", "cap"] (defScope s__law_text) := ⟨rfl, rfl, rfl, by decide +kernel, rfl, by decide +kernel, by decide +kernel⟩
def td__law_text : DTS :=
  dSeq (dPar [3, 4, 5] (dCons (dOp fIx (dLstF (dCons (dC (.int 1)) (dCons (dC (.int 2)) (dCons (dC (.int 3)) (dCons (dC (.int 20)) (dNil)))))) (dCall (sp__law_sip) [] (dCons (dVar 0) (dCons (dC (.int 4)) (dNil))))) (dCons (dLst (dNil)) (dCons (dLst (dNil)) (dNil)))))
    (dSeq (dFor (dRng1 (dOp fAddF (dC (.int 1)) (dCall (sp__law_sip) [] (dCons (dVar 0) (dCons (dVar 1) (dNil)))))) (dgName 6) (dSeq (dPar [7, 8, 9] (dCons (dCall (sp__law_sip) [] (dCons (dVar 0) (dCons (dC (.int 12)) (dNil)))) (dCons (dTup (dCons (dC (.str "letter")) (dCons (dOp fMulF (dOp fAddF (dC (.int 1)) (dCall (sp__law_sip) [] (dCons (dVar 0) (dCons (dVar 3) (dNil))))) (dOp fIx (dLstF (dCons (dC (.int 1)) (dCons (dUn fNeg (dC (.int 1))) (dNil)))) (dCall (sp__law_sip) [] (dCons (dVar 0) (dCons (dC (.int 2)) (dNil)))))) (dNil)))) (dCons (dC (.int 1)) (dNil)))))
    (dCut (dIf (dTest (dOp fEqA (dVar 7) (dC (.int 0)))) (dAsg (dTup (dCons (dTup (dCons (dC (.str "none")) (dNil))) (dCons (dC (.int 0)) (dNil)))) (dgTup 2 (dgCons (dgName 8) (dgCons (dgName 9) (dgNil))))) (dNext))
    (dCut (dIf (dAndT (dTest (dOp fGt (dVar 7) (dC (.int 3)))) (dTest (dOp fNeA (dVar 4) (dLstF (dNil))))) (dSeq (dSet 10 (dOp fIx (dLstF (dCons (dC (.int 2)) (dCons (dC (.int 3)) (dCons (dC (.int 6)) (dCons (dC (.int 60)) (dNil)))))) (dCall (sp__law_sip) [] (dCons (dVar 0) (dCons (dC (.int 4)) (dNil))))))
    (dSeq (dPar [11, 12] (dCons (dFn fMax2 (dCons (dC (.int 0)) (dCons (dOp fSubI (dOp fSubI (dFn fLen (dCons (dVar 4) (dNil))) (dC (.int 1))) (dCall (sp__law_sip) [] (dCons (dVar 0) (dCons (dVar 10) (dNil))))) (dNil)))) (dCons (dFn fMax2 (dCons (dC (.int 0)) (dCons (dOp fSubI (dOp fSubI (dFn fLen (dCons (dVar 4) (dNil))) (dC (.int 1))) (dCall (sp__law_sip) [] (dCons (dVar 0) (dCons (dVar 10) (dNil))))) (dNil)))) (dNil))))
    (dSeq (dSet 13 (dOp fIx (dLstF (dCons (dC (.int 2)) (dCons (dC (.int 3)) (dCons (dOp fAddF (dC (.int 2)) (dCall (sp__law_sip) [] (dCons (dVar 0) (dCons (dC (.int 40)) (dNil))))) (dCons (dOp fAddF (dC (.int 2)) (dCall (sp__law_sip) [] (dCons (dVar 0) (dCons (dOp fPow (dC (.int 10)) (dC (.int 20))) (dNil))))) (dNil)))))) (dCall (sp__law_sip) [] (dCons (dVar 0) (dCons (dC (.int 4)) (dNil))))))
    (dSeq (dIf (dAndT (dTest (dOp fLt (dVar 7) (dC (.int 10)))) (dTest (dOp fLe (dOp fAddF (dOp fIx (dVar 5) (dVar 11)) (dOp fIx (dVar 5) (dVar 12))) (dVar 2)))) (dPar [8, 9] (dCons (dTup (dCons (dC (.str "pair")) (dCons (dVar 11) (dCons (dVar 12) (dNil))))) (dCons (dOp fAddF (dOp fIx (dVar 5) (dVar 11)) (dOp fIx (dVar 5) (dVar 12))) (dNil)))) (dNext))
    (dIf (dAndT (dTest (dOp fGt (dVar 7) (dC (.int 9)))) (dTest (dOp fLe (dOp fMulF (dOp fIx (dVar 5) (dVar 11)) (dVar 13)) (dVar 2)))) (dPar [8, 9] (dCons (dTup (dCons (dC (.str "power")) (dCons (dVar 11) (dCons (dVar 13) (dNil))))) (dCons (dOp fMulF (dOp fIx (dVar 5) (dVar 11)) (dVar 13)) (dNil)))) (dNext)))))) (dNext))
    (dSeq (dDrop (dMt fAppend (dVar 4) (dCons (dVar 8) (dNil))))
    (dDrop (dMt fAppend (dVar 5) (dCons (dVar 9) (dNil)))))))))
    (dRet (dFn fTuple (dCons (dVar 4) (dNil)))))
theorem body__law_text {P : Program} {w : World} {K : PySem.W.Frag} {mg : Str → Option Value} {base : Heap} (T : Txt K mg) (G__law_sip : FnOk P w K mg base CX0 (1) T.a__law_sip T.d__law_sip ["cup", "many"] (lSp K (sp__law_sip))) :
    ∀ (cdv : Value) (A : Around) (outer : List Env) (s : Shared) (H : Hp) (E : XK), Room (1) (A.deeper (envOfC "_law_text" (defScope s__law_text) s.heap.objs.size T.a__law_text cdv)) → DSs (cxOf CX0 P w K mg base ["cup", "many", "cap", "kinds", "rules", "sizes", "turn", "way", "rule", "size", "back", "i", "j", "k"] "_law_text" (defScope s__law_text) T.a__law_text cdv A outer s H E).nox (defBody s__law_text) (td__law_text) :=
  fun cdv A outer s H E hr =>
    dss_cons (ds_par3 (i := 3) (j := 4) (l := 5) rfl sc__law_text.nd rfl rfl rfl (by decide) (by decide) (by decide) rfl rfl rfl (da_cons (de_ix (de_lstF (da_cons (de_int pe_int) (da_cons (de_int pe_int) (da_cons (de_int pe_int) (da_cons (de_int pe_int) (da_nil)))))) (de_call G__law_sip (hr.mono (by decide)) (by rfl) T.m__law_sip T.F__law_sip.kp T.b__law_sip .nil (fun _ => rfl) pass0 (da_cons (de_var (pv 0)) (da_cons (de_int pe_int) (da_nil))))) (da_cons (de_lst (da_nil)) (da_cons (de_lst (da_nil)) (da_nil)))))
    (dss_cons (ds_for PassesOwn.never rfl (di_range1 (by rfl) T.z_range (de_addF (de_int pe_int) (de_call G__law_sip (hr.mono (by decide)) (by rfl) T.m__law_sip T.F__law_sip.kp T.b__law_sip .nil (fun _ => rfl) pass0 (da_cons (de_var (pv 0)) (da_cons (de_var (pv 1)) (da_nil)))))) (dg_name (pg_name (i := 6) sc__law_text.nd rfl (Or.inl rfl))) (dss_cons (ds_par3 (i := 7) (j := 8) (l := 9) rfl sc__law_text.nd rfl rfl rfl (by decide) (by decide) (by decide) rfl rfl rfl (da_cons (de_call G__law_sip (hr.mono (by decide)) (by rfl) T.m__law_sip T.F__law_sip.kp T.b__law_sip .nil (fun _ => rfl) pass0 (da_cons (de_var (pv 0)) (da_cons (de_int pe_int) (da_nil)))) (da_cons (de_tup (da_cons (de_str pe_str) (da_cons (de_mulF (de_addF (de_int pe_int) (de_call G__law_sip (hr.mono (by decide)) (by rfl) T.m__law_sip T.F__law_sip.kp T.b__law_sip .nil (fun _ => rfl) pass0 (da_cons (de_var (pv 0)) (da_cons (de_var (pv 3)) (da_nil))))) (de_ix (de_lstF (da_cons (de_int pe_int) (da_cons (de_neg (de_int pe_int)) (da_nil)))) (de_call G__law_sip (hr.mono (by decide)) (by rfl) T.m__law_sip T.F__law_sip.kp T.b__law_sip .nil (fun _ => rfl) pass0 (da_cons (de_var (pv 0)) (da_cons (de_int pe_int) (da_nil)))))) (da_nil)))) (da_cons (de_int pe_int) (da_nil)))))
    (dss_cut (ds_if (dt_cmp (c_eq hr.units) (de_var (pv 7)) (de_int pe_int) (nomark _)) (dss_one (ds_asg (de_tup (da_cons (de_tup (da_cons (de_str pe_str) (da_nil))) (da_cons (de_int pe_int) (da_nil)))) (dg_tup rfl (dgs_cons (dg_name (pg_name (i := 8) sc__law_text.nd rfl (Or.inl rfl))) (dgs_cons (dg_name (pg_name (i := 9) sc__law_text.nd rfl (Or.inl rfl))) (dgs_nil)))))) (dss_nil))
    (dss_cut (ds_if (dt_w (dw_and (dt_cmp (c_gt) (de_var (pv 7)) (de_int pe_int) (nomark _)) (dw_and1 (dt_cmp (c_ne hr.units) (de_var (pv 4)) (de_lstF (da_nil)) (nomark _))))) (dss_cons (ds_set (i := 10) sc__law_text.nd rfl (Or.inl rfl) (de_ix (de_lstF (da_cons (de_int pe_int) (da_cons (de_int pe_int) (da_cons (de_int pe_int) (da_cons (de_int pe_int) (da_nil)))))) (de_call G__law_sip (hr.mono (by decide)) (by rfl) T.m__law_sip T.F__law_sip.kp T.b__law_sip .nil (fun _ => rfl) pass0 (da_cons (de_var (pv 0)) (da_cons (de_int pe_int) (da_nil))))))
    (dss_cons (ds_par (i := 11) (j := 12) rfl sc__law_text.nd rfl rfl (by decide) rfl rfl (da_cons (de_callB (call_max2 rfl) ok_max2 (by rfl) T.z_max (by decide +kernel) (da_cons (de_int pe_int) (da_cons (de_sub (de_sub (de_callB call_len ok_len (by rfl) T.z_len (by decide +kernel) (da_cons (de_var (pv 4)) (da_nil))) (de_int pe_int)) (de_call G__law_sip (hr.mono (by decide)) (by rfl) T.m__law_sip T.F__law_sip.kp T.b__law_sip .nil (fun _ => rfl) pass0 (da_cons (de_var (pv 0)) (da_cons (de_var (pv 10)) (da_nil))))) (da_nil)))) (da_cons (de_callB (call_max2 rfl) ok_max2 (by rfl) T.z_max (by decide +kernel) (da_cons (de_int pe_int) (da_cons (de_sub (de_sub (de_callB call_len ok_len (by rfl) T.z_len (by decide +kernel) (da_cons (de_var (pv 4)) (da_nil))) (de_int pe_int)) (de_call G__law_sip (hr.mono (by decide)) (by rfl) T.m__law_sip T.F__law_sip.kp T.b__law_sip .nil (fun _ => rfl) pass0 (da_cons (de_var (pv 0)) (da_cons (de_var (pv 10)) (da_nil))))) (da_nil)))) (da_nil))))
    (dss_cons (ds_set (i := 13) sc__law_text.nd rfl (Or.inl rfl) (de_ix (de_lstF (da_cons (de_int pe_int) (da_cons (de_int pe_int) (da_cons (de_addF (de_int pe_int) (de_call G__law_sip (hr.mono (by decide)) (by rfl) T.m__law_sip T.F__law_sip.kp T.b__law_sip .nil (fun _ => rfl) pass0 (da_cons (de_var (pv 0)) (da_cons (de_int pe_int) (da_nil))))) (da_cons (de_addF (de_int pe_int) (de_call G__law_sip (hr.mono (by decide)) (by rfl) T.m__law_sip T.F__law_sip.kp T.b__law_sip .nil (fun _ => rfl) pass0 (da_cons (de_var (pv 0)) (da_cons (de_pow (de_int pe_int) (de_int pe_int)) (da_nil))))) (da_nil)))))) (de_call G__law_sip (hr.mono (by decide)) (by rfl) T.m__law_sip T.F__law_sip.kp T.b__law_sip .nil (fun _ => rfl) pass0 (da_cons (de_var (pv 0)) (da_cons (de_int pe_int) (da_nil))))))
    (dss_cons (ds_if (dt_w (dw_and (dt_cmp (c_lt) (de_var (pv 7)) (de_int pe_int) (nomark _)) (dw_and1 (dt_cmp (c_le) (de_addF (de_ix (de_var (pv 5)) (de_var (pv 11))) (de_ix (de_var (pv 5)) (de_var (pv 12)))) (de_var (pv 2)) (nomark _))))) (dss_one (ds_par (i := 8) (j := 9) rfl sc__law_text.nd rfl rfl (by decide) rfl rfl (da_cons (de_tup (da_cons (de_str pe_str) (da_cons (de_var (pv 11)) (da_cons (de_var (pv 12)) (da_nil))))) (da_cons (de_addF (de_ix (de_var (pv 5)) (de_var (pv 11))) (de_ix (de_var (pv 5)) (de_var (pv 12)))) (da_nil))))) (dss_nil))
    (dss_one (ds_if (dt_w (dw_and (dt_cmp (c_gt) (de_var (pv 7)) (de_int pe_int) (nomark _)) (dw_and1 (dt_cmp (c_le) (de_mulF (de_ix (de_var (pv 5)) (de_var (pv 11))) (de_var (pv 13))) (de_var (pv 2)) (nomark _))))) (dss_one (ds_par (i := 8) (j := 9) rfl sc__law_text.nd rfl rfl (by decide) rfl rfl (da_cons (de_tup (da_cons (de_str pe_str) (da_cons (de_var (pv 11)) (da_cons (de_var (pv 13)) (da_nil))))) (da_cons (de_mulF (de_ix (de_var (pv 5)) (de_var (pv 11))) (de_var (pv 13))) (da_nil))))) (dss_nil))))))) (dss_nil))
    (dss_cons (ds_expr (de_mt PySem.F.slot_list_append PySem.F.type_list_append mt_append ok_append (de_var (pv 4)) (da_cons (de_var (pv 8)) (da_nil))))
    (dss_one (ds_expr (de_mt PySem.F.slot_list_append PySem.F.type_list_append mt_append ok_append (de_var (pv 5)) (da_cons (de_var (pv 9)) (da_nil))))))))))
    (dss_one (ds_ret (de_callTy call_tuple_of ok_tuple (by rfl) T.z_tuple (by decide +kernel) (da_cons (de_var (pv 4)) (da_nil))))))
/-! ### _law_is_straight -/
abbrev s__law_is_straight : Stmt := topS 17
theorem sc__law_is_straight : FnScope ["found", "k", "rule", "one"] ["found"] (defScope s__law_is_straight) := ⟨rfl, rfl, rfl, by decide +kernel, rfl, by decide +kernel, by decide +kernel⟩
def td__law_is_straight : DTS :=
  dSeq (dIf (dOrT (dNotT (dTruth (dIs .tup (dVar 0)))) (dNotT (dTest (dChain fLt fLt (dC (.int 0)) (dFn fLen (dCons (dVar 0) (dNil))) (dC (.int 4001)))))) (dRet (dC (.bl false))) (dNext))
    (dSeq (dFor (dRng1 (dFn fLen (dCons (dVar 0) (dNil)))) (dgName 1) (dSeq (dSet 2 (dOp fIx (dVar 0) (dVar 1)))
    (dSeq (dIf (dOrT (dNotT (dTruth (dIs .tup (dVar 2)))) (dOrT (dTest (dOp fEqA (dFn fLen (dCons (dVar 2) (dNil))) (dC (.int 0)))) (dOrT (dNotT (dTruth (dIs .str (dOp fIx (dVar 2) (dC (.int 0)))))) (dTest (dOp fGt (dFn fLen (dCons (dVar 2) (dNil))) (dC (.int 3))))))) (dRet (dC (.bl false))) (dNext))
    (dSeq (dIf (dTest (dOp fNeA (dLcF (dWalk (dSlF (dVar 2) (dPart (dC (.int 1))) (dNoPart))) [3] (dgName 3) (dNotT (dTruth (dCall (sp__law_is_whole) [] (dCons (dVar 3) (dNil))))) (dVar 3)) (dLstF (dNil)))) (dRet (dC (.bl false))) (dNext))
    (dSeq (dIf (dAndT (dTest (dOp fInA (dOp fIx (dVar 2) (dC (.int 0))) (dTup (dCons (dC (.str "pair")) (dCons (dC (.str "power")) (dNil)))))) (dOrT (dTest (dOp fLt (dFn fLen (dCons (dVar 2) (dNil))) (dC (.int 3)))) (dNotT (dTest (dChain fLe fLt (dC (.int 0)) (dOp fIx (dVar 2) (dC (.int 1))) (dVar 1)))))) (dRet (dC (.bl false))) (dNext))
    (dSeq (dIf (dOrT (dAndT (dTest (dOp fEqA (dOp fIx (dVar 2) (dC (.int 0))) (dC (.str "pair")))) (dNotT (dTest (dChain fLe fLt (dC (.int 0)) (dOp fIx (dVar 2) (dC (.int 2))) (dVar 1))))) (dAndT (dTest (dOp fEqA (dOp fIx (dVar 2) (dC (.int 0))) (dC (.str "power")))) (dTest (dOp fLt (dOp fIx (dVar 2) (dC (.int 2))) (dC (.int 2)))))) (dRet (dC (.bl false))) (dNext))
    (dSeq (dIf (dOrT (dAndT (dTest (dOp fEqA (dOp fIx (dVar 2) (dC (.int 0))) (dC (.str "none")))) (dTest (dOp fGt (dFn fLen (dCons (dVar 2) (dNil))) (dC (.int 1))))) (dTest (dOp fNotInA (dOp fIx (dVar 2) (dC (.int 0))) (dTup (dCons (dC (.str "none")) (dCons (dC (.str "letter")) (dCons (dC (.str "pair")) (dCons (dC (.str "power")) (dNil))))))))) (dRet (dC (.bl false))) (dNext))
    (dIf (dAndT (dTest (dOp fEqA (dOp fIx (dVar 2) (dC (.int 0))) (dC (.str "letter")))) (dOrT (dTest (dOp fNeA (dFn fLen (dCons (dVar 2) (dNil))) (dC (.int 2)))) (dOrT (dTest (dOp fEqA (dOp fIx (dVar 2) (dC (.int 1))) (dC (.int 0)))) (dTest (dOp fGt (dFn fAbs (dCons (dOp fIx (dVar 2) (dC (.int 1))) (dNil))) (dC (.int 20))))))) (dRet (dC (.bl false))) (dNext)))))))))
    (dRet (dC (.bl true))))
theorem body__law_is_straight {P : Program} {w : World} {K : PySem.W.Frag} {mg : Str → Option Value} {base : Heap} (T : Txt K mg) (G__law_is_whole : FnOk P w K mg base CX0 (1) T.a__law_is_whole T.d__law_is_whole ["found"] (lSp K (sp__law_is_whole))) :
    ∀ (cdv : Value) (A : Around) (outer : List Env) (s : Shared) (H : Hp) (E : XK), Room (1) (A.deeper (envOfC "_law_is_straight" (defScope s__law_is_straight) s.heap.objs.size T.a__law_is_straight cdv)) → DSs (cxOf CX0 P w K mg base ["found", "k", "rule", "one"] "_law_is_straight" (defScope s__law_is_straight) T.a__law_is_straight cdv A outer s H E).nox (defBody s__law_is_straight) (td__law_is_straight) :=
  fun cdv A outer s H E hr =>
    dss_cons (ds_if (dt_w (dw_or (dt_not (dt_truth (de_isi .tup (by rfl) T.z_isinstance (de_var (pv 0)) (de_ty (pe_bltn (v := .ty "tuple") (by rfl) T.z_tuple (by decide +kernel) rfl))))) (dw_or1 (dt_not (dt_chain (c_lt) (c_lt) (de_int pe_int) (de_callB call_len ok_len (by rfl) T.z_len (by decide +kernel) (da_cons (de_var (pv 0)) (da_nil))) (de_int pe_int)))))) (dss_one (ds_ret (de_bl pe_bl))) (dss_nil))
    (dss_cons (ds_for PassesOwn.never rfl (di_range1 (by rfl) T.z_range (de_callB call_len ok_len (by rfl) T.z_len (by decide +kernel) (da_cons (de_var (pv 0)) (da_nil)))) (dg_name (pg_name (i := 1) sc__law_is_straight.nd rfl (Or.inl rfl))) (dss_cons (ds_set (i := 2) sc__law_is_straight.nd rfl (Or.inl rfl) (de_ix (de_var (pv 0)) (de_var (pv 1))))
    (dss_cons (ds_if (dt_w (dw_or (dt_not (dt_truth (de_isi .tup (by rfl) T.z_isinstance (de_var (pv 2)) (de_ty (pe_bltn (v := .ty "tuple") (by rfl) T.z_tuple (by decide +kernel) rfl))))) (dw_or (dt_cmp (c_eq hr.units) (de_callB call_len ok_len (by rfl) T.z_len (by decide +kernel) (da_cons (de_var (pv 2)) (da_nil))) (de_int pe_int) (nomark _)) (dw_or (dt_not (dt_truth (de_isi .str (by rfl) T.z_isinstance (de_ix (de_var (pv 2)) (de_int pe_int)) (de_ty (pe_bltn (v := .ty "str") (by rfl) T.z_str (by decide +kernel) rfl))))) (dw_or1 (dt_cmp (c_gt) (de_callB call_len ok_len (by rfl) T.z_len (by decide +kernel) (da_cons (de_var (pv 2)) (da_nil))) (de_int pe_int) (nomark _))))))) (dss_one (ds_ret (de_bl pe_bl))) (dss_nil))
    (dss_cons (ds_if (dt_cmp (c_ne hr.units) (de_lcF (own := [("one", 3)]) rfl sc__law_is_straight.nd (di_walk (de_sliceF (de_var (pv 2)) (do_some (de_int pe_int)) (do_none))) (blkOk_by (by show blkC ["found", "k", "rule", "one"] (defScope s__law_is_straight) _ _ = true; decide +kernel)) (fun _ _ _ _ _ => dgc_name (pg_name (i := 3) sc__law_is_straight.nd rfl (Or.inl rfl))) (fun _ _ _ _ _ => dts_one (dt_not (dt_truth (de_call G__law_is_whole (hr.mono (by decide)) (by rfl) T.m__law_is_whole T.F__law_is_whole.kp T.b__law_is_whole .nil (fun _ => rfl) pass0 (da_cons (de_var (pv 3)) (da_nil)))))) (fun _ _ _ _ _ => de_var (pv 3))) (de_lstF (da_nil)) (nomark _)) (dss_one (ds_ret (de_bl pe_bl))) (dss_nil))
    (dss_cons (ds_if (dt_w (dw_and (dt_cmp (c_in hr.units) (de_ix (de_var (pv 2)) (de_int pe_int)) (de_tup (da_cons (de_str pe_str) (da_cons (de_str pe_str) (da_nil)))) (by with_unfolding_all rfl)) (dw_and1 (dt_w (dw_or (dt_cmp (c_lt) (de_callB call_len ok_len (by rfl) T.z_len (by decide +kernel) (da_cons (de_var (pv 2)) (da_nil))) (de_int pe_int) (nomark _)) (dw_or1 (dt_not (dt_chain (c_le) (c_lt) (de_int pe_int) (de_ix (de_var (pv 2)) (de_int pe_int)) (de_var (pv 1)))))))))) (dss_one (ds_ret (de_bl pe_bl))) (dss_nil))
    (dss_cons (ds_if (dt_w (dw_or (dt_w (dw_and (dt_cmp (c_eq hr.units) (de_ix (de_var (pv 2)) (de_int pe_int)) (de_str pe_str) (nomark _)) (dw_and1 (dt_not (dt_chain (c_le) (c_lt) (de_int pe_int) (de_ix (de_var (pv 2)) (de_int pe_int)) (de_var (pv 1))))))) (dw_or1 (dt_w (dw_and (dt_cmp (c_eq hr.units) (de_ix (de_var (pv 2)) (de_int pe_int)) (de_str pe_str) (nomark _)) (dw_and1 (dt_cmp (c_lt) (de_ix (de_var (pv 2)) (de_int pe_int)) (de_int pe_int) (nomark _)))))))) (dss_one (ds_ret (de_bl pe_bl))) (dss_nil))
    (dss_cons (ds_if (dt_w (dw_or (dt_w (dw_and (dt_cmp (c_eq hr.units) (de_ix (de_var (pv 2)) (de_int pe_int)) (de_str pe_str) (nomark _)) (dw_and1 (dt_cmp (c_gt) (de_callB call_len ok_len (by rfl) T.z_len (by decide +kernel) (da_cons (de_var (pv 2)) (da_nil))) (de_int pe_int) (nomark _))))) (dw_or1 (dt_cmp (c_notIn hr.units) (de_ix (de_var (pv 2)) (de_int pe_int)) (de_tup (da_cons (de_str pe_str) (da_cons (de_str pe_str) (da_cons (de_str pe_str) (da_cons (de_str pe_str) (da_nil)))))) (by with_unfolding_all rfl))))) (dss_one (ds_ret (de_bl pe_bl))) (dss_nil))
    (dss_one (ds_if (dt_w (dw_and (dt_cmp (c_eq hr.units) (de_ix (de_var (pv 2)) (de_int pe_int)) (de_str pe_str) (nomark _)) (dw_and1 (dt_w (dw_or (dt_cmp (c_ne hr.units) (de_callB call_len ok_len (by rfl) T.z_len (by decide +kernel) (da_cons (de_var (pv 2)) (da_nil))) (de_int pe_int) (nomark _)) (dw_or (dt_cmp (c_eq hr.units) (de_ix (de_var (pv 2)) (de_int pe_int)) (de_int pe_int) (nomark _)) (dw_or1 (dt_cmp (c_gt) (de_callB call_abs ok_abs (by rfl) T.z_abs (by decide +kernel) (da_cons (de_ix (de_var (pv 2)) (de_int pe_int)) (da_nil))) (de_int pe_int) (nomark _))))))))) (dss_one (ds_ret (de_bl pe_bl))) (dss_nil))))))))))
    (dss_one (ds_ret (de_bl pe_bl))))
/-! ### _law_near_one -/
abbrev s__law_near_one : Stmt := topS 18
theorem sc__law_near_one : FnScope ["cup", "rules", "k", "many", "some"] ["cup", "rules"] (defScope s__law_near_one) := ⟨rfl, rfl, rfl, by decide +kernel, rfl, by decide +kernel, by decide +kernel⟩
def td__law_near_one : DTS :=
  dSeq (dPar [2, 3] (dCons (dCall (sp__law_sip) [] (dCons (dVar 0) (dCons (dFn fLen (dCons (dVar 1) (dNil))) (dNil)))) (dCons (dFn fLen (dCons (dVar 1) (dNil))) (dNil))))
    (dSeq (dSet 4 (dLstF (dCons (dTup (dCons (dC (.str "pair")) (dCons (dVar 2) (dCons (dC (.int 0)) (dNil))))) (dCons (dTup (dCons (dC (.str "pair")) (dCons (dC (.int 0)) (dCons (dVar 2) (dNil))))) (dCons (dTup (dCons (dC (.str "pair")) (dCons (dUn fNeg (dC (.int 1))) (dCons (dC (.int 0)) (dNil))))) (dCons (dTup (dCons (dC (.str "pair")) (dCons (dC (.int 0)) (dCons (dUn fNeg (dC (.int 1))) (dNil))))) (dCons (dTup (dCons (dC (.str "power")) (dCons (dVar 2) (dCons (dC (.int 2)) (dNil))))) (dCons (dTup (dCons (dC (.str "power")) (dCons (dC (.int 0)) (dCons (dC (.int 1)) (dNil))))) (dCons (dTup (dCons (dC (.str "power")) (dCons (dC (.int 0)) (dCons (dC (.int 0)) (dNil))))) (dNil))))))))))
    (dSeq (dSet 4 (dOp fAddF (dVar 4) (dLstF (dCons (dTup (dCons (dC (.str "power")) (dCons (dUn fNeg (dC (.int 1))) (dCons (dC (.int 2)) (dNil))))) (dCons (dTup (dCons (dC (.str "power")) (dCons (dC (.int 0)) (dCons (dC (.bl true)) (dNil))))) (dCons (dTup (dCons (dC (.str "pair")) (dCons (dC (.int 0)) (dCons (dC (.bl false)) (dNil))))) (dCons (dTup (dCons (dC (.str "letter")) (dCons (dC (.int 0)) (dNil)))) (dCons (dTup (dCons (dC (.str "letter")) (dCons (dC (.int 21)) (dNil)))) (dCons (dTup (dCons (dC (.str "letter")) (dCons (dUn fNeg (dC (.int 21))) (dNil)))) (dCons (dTup (dCons (dC (.str "letter")) (dCons (dC (.bl true)) (dNil)))) (dNil)))))))))))
    (dSeq (dSet 4 (dOp fAddF (dVar 4) (dLstF (dCons (dTup (dCons (dC (.str "none")) (dCons (dC (.int 0)) (dNil)))) (dCons (dTup (dCons (dC (.str "none")) (dNil))) (dCons (dTup (dCons (dC (.str "letter")) (dCons (dC (.int 20)) (dNil)))) (dCons (dTup (dCons (dC (.str "letter")) (dCons (dUn fNeg (dC (.int 20))) (dNil)))) (dCons (dTup (dCons (dC (.str "pair")) (dCons (dOp fSubI (dVar 2) (dC (.int 1))) (dCons (dOp fSubI (dVar 2) (dC (.int 1))) (dNil))))) (dCons (dTup (dCons (dC (.str "power")) (dCons (dOp fSubI (dVar 2) (dC (.int 1))) (dCons (dOp fPow (dC (.int 10)) (dC (.int 30))) (dNil))))) (dCons (dTup (dCons (dC (.str "pair")) (dCons (dVar 3) (dCons (dC (.int 0)) (dNil))))) (dNil)))))))))))
    (dSeq (dSet 4 (dOp fAddF (dVar 4) (dLstF (dCons (dTup (dCons (dC (.str "letter")) (dCons (dC (.int 1)) (dCons (dC (.int 1)) (dNil))))) (dCons (dTup (dCons (dC (.str "pair")) (dCons (dC (.int 0)) (dNil)))) (dCons (dTup (dCons (dC (.str "power")) (dCons (dC (.int 0)) (dNil)))) (dCons (dTup (dCons (dC (.str "letter")) (dNil))) (dCons (dTup (dNil)) (dCons (dTup (dCons (dC (.str "Pair")) (dCons (dC (.int 0)) (dCons (dC (.int 0)) (dNil))))) (dCons (dC (.str "none")) (dCons (dLstF (dCons (dC (.str "none")) (dNil))) (dCons (dTup (dCons (dC (.str "pair")) (dCons (dC (.int 0)) (dCons (dC (.int 0)) (dCons (dC (.int 0)) (dNil)))))) (dCons (dTup (dCons (dTup (dCons (dC (.str "none")) (dNil))) (dNil))) (dCons (dC (.int 1)) (dNil)))))))))))))))
    (dRet (dOp fAddF (dOp fAddF (dSlF (dVar 1) (dNoPart) (dPart (dVar 2))) (dTup (dCons (dOp fIx (dVar 4) (dCall (sp__law_sip) [] (dCons (dVar 0) (dCons (dC (.int 32)) (dNil))))) (dNil)))) (dSlF (dVar 1) (dPart (dOp fAddF (dVar 2) (dC (.int 1)))) (dNoPart))))))))
theorem body__law_near_one {P : Program} {w : World} {K : PySem.W.Frag} {mg : Str → Option Value} {base : Heap} (T : Txt K mg) (G__law_sip : FnOk P w K mg base CX0 (1) T.a__law_sip T.d__law_sip ["cup", "many"] (lSp K (sp__law_sip))) :
    ∀ (cdv : Value) (A : Around) (outer : List Env) (s : Shared) (H : Hp) (E : XK), Room (1) (A.deeper (envOfC "_law_near_one" (defScope s__law_near_one) s.heap.objs.size T.a__law_near_one cdv)) → DSs (cxOf CX0 P w K mg base ["cup", "rules", "k", "many", "some"] "_law_near_one" (defScope s__law_near_one) T.a__law_near_one cdv A outer s H E).nox (defBody s__law_near_one) (td__law_near_one) :=
  fun cdv A outer s H E hr =>
    dss_cons (ds_par (i := 2) (j := 3) rfl sc__law_near_one.nd rfl rfl (by decide) rfl rfl (da_cons (de_call G__law_sip (hr.mono (by decide)) (by rfl) T.m__law_sip T.F__law_sip.kp T.b__law_sip .nil (fun _ => rfl) pass0 (da_cons (de_var (pv 0)) (da_cons (de_callB call_len ok_len (by rfl) T.z_len (by decide +kernel) (da_cons (de_var (pv 1)) (da_nil))) (da_nil)))) (da_cons (de_callB call_len ok_len (by rfl) T.z_len (by decide +kernel) (da_cons (de_var (pv 1)) (da_nil))) (da_nil))))
    (dss_cons (ds_set (i := 4) sc__law_near_one.nd rfl (Or.inl rfl) (de_lstF (da_cons (de_tup (da_cons (de_str pe_str) (da_cons (de_var (pv 2)) (da_cons (de_int pe_int) (da_nil))))) (da_cons (de_tup (da_cons (de_str pe_str) (da_cons (de_int pe_int) (da_cons (de_var (pv 2)) (da_nil))))) (da_cons (de_tup (da_cons (de_str pe_str) (da_cons (de_neg (de_int pe_int)) (da_cons (de_int pe_int) (da_nil))))) (da_cons (de_tup (da_cons (de_str pe_str) (da_cons (de_int pe_int) (da_cons (de_neg (de_int pe_int)) (da_nil))))) (da_cons (de_tup (da_cons (de_str pe_str) (da_cons (de_var (pv 2)) (da_cons (de_int pe_int) (da_nil))))) (da_cons (de_tup (da_cons (de_str pe_str) (da_cons (de_int pe_int) (da_cons (de_int pe_int) (da_nil))))) (da_cons (de_tup (da_cons (de_str pe_str) (da_cons (de_int pe_int) (da_cons (de_int pe_int) (da_nil))))) (da_nil))))))))))
    (dss_cons (ds_set (i := 4) sc__law_near_one.nd rfl (Or.inl rfl) (de_addF (de_var (pv 4)) (de_lstF (da_cons (de_tup (da_cons (de_str pe_str) (da_cons (de_neg (de_int pe_int)) (da_cons (de_int pe_int) (da_nil))))) (da_cons (de_tup (da_cons (de_str pe_str) (da_cons (de_int pe_int) (da_cons (de_bl pe_bl) (da_nil))))) (da_cons (de_tup (da_cons (de_str pe_str) (da_cons (de_int pe_int) (da_cons (de_bl pe_bl) (da_nil))))) (da_cons (de_tup (da_cons (de_str pe_str) (da_cons (de_int pe_int) (da_nil)))) (da_cons (de_tup (da_cons (de_str pe_str) (da_cons (de_int pe_int) (da_nil)))) (da_cons (de_tup (da_cons (de_str pe_str) (da_cons (de_neg (de_int pe_int)) (da_nil)))) (da_cons (de_tup (da_cons (de_str pe_str) (da_cons (de_bl pe_bl) (da_nil)))) (da_nil)))))))))))
    (dss_cons (ds_set (i := 4) sc__law_near_one.nd rfl (Or.inl rfl) (de_addF (de_var (pv 4)) (de_lstF (da_cons (de_tup (da_cons (de_str pe_str) (da_cons (de_int pe_int) (da_nil)))) (da_cons (de_tup (da_cons (de_str pe_str) (da_nil))) (da_cons (de_tup (da_cons (de_str pe_str) (da_cons (de_int pe_int) (da_nil)))) (da_cons (de_tup (da_cons (de_str pe_str) (da_cons (de_neg (de_int pe_int)) (da_nil)))) (da_cons (de_tup (da_cons (de_str pe_str) (da_cons (de_sub (de_var (pv 2)) (de_int pe_int)) (da_cons (de_sub (de_var (pv 2)) (de_int pe_int)) (da_nil))))) (da_cons (de_tup (da_cons (de_str pe_str) (da_cons (de_sub (de_var (pv 2)) (de_int pe_int)) (da_cons (de_pow (de_int pe_int) (de_int pe_int)) (da_nil))))) (da_cons (de_tup (da_cons (de_str pe_str) (da_cons (de_var (pv 3)) (da_cons (de_int pe_int) (da_nil))))) (da_nil)))))))))))
    (dss_cons (ds_set (i := 4) sc__law_near_one.nd rfl (Or.inl rfl) (de_addF (de_var (pv 4)) (de_lstF (da_cons (de_tup (da_cons (de_str pe_str) (da_cons (de_int pe_int) (da_cons (de_int pe_int) (da_nil))))) (da_cons (de_tup (da_cons (de_str pe_str) (da_cons (de_int pe_int) (da_nil)))) (da_cons (de_tup (da_cons (de_str pe_str) (da_cons (de_int pe_int) (da_nil)))) (da_cons (de_tup (da_cons (de_str pe_str) (da_nil))) (da_cons (de_tup (da_nil)) (da_cons (de_tup (da_cons (de_str pe_str) (da_cons (de_int pe_int) (da_cons (de_int pe_int) (da_nil))))) (da_cons (de_str pe_str) (da_cons (de_lstF (da_cons (de_str pe_str) (da_nil))) (da_cons (de_tup (da_cons (de_str pe_str) (da_cons (de_int pe_int) (da_cons (de_int pe_int) (da_cons (de_int pe_int) (da_nil)))))) (da_cons (de_tup (da_cons (de_tup (da_cons (de_str pe_str) (da_nil))) (da_nil))) (da_cons (de_int pe_int) (da_nil)))))))))))))))
    (dss_one (ds_ret (de_addF (de_addF (de_sliceF (de_var (pv 1)) (do_none) (do_some (de_var (pv 2)))) (de_tup (da_cons (de_ix (de_var (pv 4)) (de_call G__law_sip (hr.mono (by decide)) (by rfl) T.m__law_sip T.F__law_sip.kp T.b__law_sip .nil (fun _ => rfl) pass0 (da_cons (de_var (pv 0)) (da_cons (de_int pe_int) (da_nil))))) (da_nil)))) (de_sliceF (de_var (pv 1)) (do_some (de_addF (de_var (pv 2)) (de_int pe_int))) (do_none)))))))))
/-! ### law -/
abbrev s_law : Stmt := topS 19
theorem sc_law : FnScope ["script", "cup", "turn", "rules", "k", "some", "thing", "due", "rule", "many", "step"] ["script"] (defScope s_law) := ⟨rfl, rfl, rfl, by decide +kernel, rfl, by decide +kernel, by decide +kernel⟩
def td_law : DTS :=
  dSeq (dSet 1 (dCall (sp__law_cup) [] (dCons (dVar 0) (dNil))))
    (dSeq (dFor (dRng1 (dC (.int 5))) (dgName 2) (dSeq (dSet 3 (dCall (sp__law_text) [] (dCons (dVar 1) (dCons (dC (.int 40)) (dCons (dOp fPow (dC (.int 10)) (dC (.int 40))) (dNil))))))
    (dSeq (dSet 4 (dCall (sp__law_sip) [] (dCons (dVar 1) (dCons (dFn fLen (dCons (dVar 3) (dNil))) (dNil)))))
    (dSeq (dSet 5 (dLstF (dCons (dVar 3) (dCons (dSlF (dVar 3) (dNoPart) (dPart (dVar 4))) (dCons (dSlF (dVar 3) (dPart (dVar 4)) (dNoPart)) (dCons (dBack (dVar 3)) (dCons (dOp fAddF (dOp fAddF (dSlF (dVar 3) (dNoPart) (dPart (dVar 4))) (dSlF (dVar 3) (dPart (dVar 4)) (dPart (dOp fAddF (dVar 4) (dC (.int 1)))))) (dSlF (dVar 3) (dPart (dVar 4)) (dNoPart))) (dCons (dFn fListF (dCons (dVar 3) (dNil))) (dCons (dOp fAddF (dVar 3) (dVar 3)) (dNil))))))))))
    (dSeq (dSet 5 (dOp fAddF (dOp fAddF (dVar 5) (dLcF (dRng1 (dC (.int 6))) [10] (dgName 10) (dYes) (dCall (sp_bent 4) [] (dCons (dVar 1) (dCons (dVar 3) (dNil)))))) (dLcF (dRng1 (dC (.int 6))) [10] (dgName 10) (dYes) (dCall (sp__law_near_one) [] (dCons (dVar 1) (dCons (dVar 3) (dNil)))))))
    (dSeq (dSet 5 (dOp fAddF (dVar 5) (dLstF (dCons (dOp fIx (dLstF (dCons (dTup (dNil)) (dCons (dC .non) (dCons (dTup (dCons (dTup (dCons (dC (.str "none")) (dNil))) (dNil))) (dCons (dTup (dCons (dTup (dNil)) (dNil))) (dCons (dC (.str "none")) (dCons (dTup (dCons (dC (.str "none")) (dNil))) (dCons (dC (.int 0)) (dNil))))))))) (dCall (sp__law_sip) [] (dCons (dVar 1) (dCons (dC (.int 7)) (dNil))))) (dNil)))))
    (dFor (dWalk (dVar 5)) (dgName 6) (dSeq (dSet 7 (dCall (sp__law_is_straight) [] (dCons (dVar 6) (dNil))))
    (dIf (dOrT (dNotT (dTruth (dCall (sp__law_same) [] (dCons (dCall (sp_is_straight) [] (dCons (dVar 6) (dNil))) (dCons (dVar 7) (dNil)))))) (dNotT (dTruth (dCall (sp__law_same) [] (dCons (dCall (sp_is_straight) [] (dCons (dVar 6) (dNil))) (dCons (dVar 7) (dNil))))))) (dRet (dC (.bl false))) (dNext))))))))))
    (dSeq (dSet 8 (dOp fIx (dLstF (dCons (dTup (dCons (dC (.str "none")) (dNil))) (dCons (dTup (dCons (dC (.str "letter")) (dCons (dUn fNeg (dC (.int 7))) (dNil)))) (dCons (dTup (dCons (dC (.str "pair")) (dCons (dC (.int 0)) (dCons (dC (.int 0)) (dNil))))) (dCons (dTup (dCons (dC (.str "power")) (dCons (dC (.int 0)) (dCons (dC (.int 2)) (dNil))))) (dNil)))))) (dCall (sp__law_sip) [] (dCons (dVar 1) (dCons (dC (.int 4)) (dNil))))))
    (dSeq (dFor (dWalk (dTup (dCons (dC (.int 3999)) (dCons (dC (.int 4000)) (dNil))))) (dgName 9) (dIf (dNotT (dTruth (dCall (sp__law_same) [] (dCons (dCall (sp_is_straight) [] (dCons (dOp fAddF (dTup (dCons (dTup (dCons (dC (.str "letter")) (dCons (dC (.int 3)) (dNil)))) (dNil))) (dOp fMulF (dTup (dCons (dVar 8) (dNil))) (dVar 9))) (dNil))) (dCons (dOp fEqA (dVar 9) (dC (.int 3999))) (dNil)))))) (dRet (dC (.bl false))) (dNext)))
    (dRet (dC (.bl true))))))
theorem body_law {P : Program} {w : World} {K : PySem.W.Frag} {mg : Str → Option Value} {base : Heap} (T : Txt K mg) (G__law_bent : FnOk P w K mg base CX0 (6) T.a__law_bent T.d__law_bent ["cup", "thing"] (lSp K (sp_bent 4))) (G__law_cup : FnOk P w K mg base CX0 (1) T.a__law_cup T.d__law_cup ["script"] (lSp K (sp__law_cup))) (G__law_is_straight : FnOk P w K mg base CX0 (2) T.a__law_is_straight T.d__law_is_straight ["found"] (lSp K (sp__law_is_straight))) (G__law_near_one : FnOk P w K mg base CX0 (2) T.a__law_near_one T.d__law_near_one ["cup", "rules"] (lSp K (sp__law_near_one))) (G__law_same : FnOk P w K mg base CX0 (1) T.a__law_same T.d__law_same ["found", "due"] (lSp K (sp__law_same))) (G__law_sip : FnOk P w K mg base CX0 (1) T.a__law_sip T.d__law_sip ["cup", "many"] (lSp K (sp__law_sip))) (G__law_text : FnOk P w K mg base CX0 (2) T.a__law_text T.d__law_text ["cup", "many", "cap"] (lSp K (sp__law_text))) (G_is_straight : FnOk P w K mg base CX0 (5) T.a_is_straight T.d_is_straight ["thing"] (lSp K (sp_is_straight))) :
    ∀ (cdv : Value) (A : Around) (outer : List Env) (s : Shared) (H : Hp) (E : XK), Room (6) (A.deeper (envOfC "law" (defScope s_law) s.heap.objs.size T.a_law cdv)) → DSs (cxOf CX0 P w K mg base ["script", "cup", "turn", "rules", "k", "some", "thing", "due", "rule", "many", "step"] "law" (defScope s_law) T.a_law cdv A outer s H E).nox (defBody s_law) (td_law) :=
  fun cdv A outer s H E hr =>
    dss_cons (ds_set (i := 1) sc_law.nd rfl (Or.inr rfl) (de_call G__law_cup (hr.mono (by decide)) (by rfl) T.m__law_cup T.F__law_cup.kp T.b__law_cup .nil (fun _ => rfl) pass0 (da_cons (de_var (pv 0)) (da_nil))))
    (dss_cons (ds_for PassesOwn.never rfl (di_range1 (by rfl) T.z_range (de_int pe_int)) (dg_name (pg_name (i := 2) sc_law.nd rfl (Or.inl rfl))) (dss_cons (ds_set (i := 3) sc_law.nd rfl (Or.inr rfl) (de_call G__law_text (hr.mono (by decide)) (by rfl) T.m__law_text T.F__law_text.kp T.b__law_text .nil (fun _ => rfl) pass0 (da_cons (de_var (pv 1)) (da_cons (de_int pe_int) (da_cons (de_pow (de_int pe_int) (de_int pe_int)) (da_nil))))))
    (dss_cons (ds_set (i := 4) sc_law.nd rfl (Or.inl rfl) (de_call G__law_sip (hr.mono (by decide)) (by rfl) T.m__law_sip T.F__law_sip.kp T.b__law_sip .nil (fun _ => rfl) pass0 (da_cons (de_var (pv 1)) (da_cons (de_callB call_len ok_len (by rfl) T.z_len (by decide +kernel) (da_cons (de_var (pv 3)) (da_nil))) (da_nil)))))
    (dss_cons (ds_set (i := 5) sc_law.nd rfl (Or.inl rfl) (de_lstF (da_cons (de_var (pv 3)) (da_cons (de_sliceF (de_var (pv 3)) (do_none) (do_some (de_var (pv 4)))) (da_cons (de_sliceF (de_var (pv 3)) (do_some (de_var (pv 4))) (do_none)) (da_cons (de_back (de_var (pv 3))) (da_cons (de_addF (de_addF (de_sliceF (de_var (pv 3)) (do_none) (do_some (de_var (pv 4)))) (de_sliceF (de_var (pv 3)) (do_some (de_var (pv 4))) (do_some (de_addF (de_var (pv 4)) (de_int pe_int))))) (de_sliceF (de_var (pv 3)) (do_some (de_var (pv 4))) (do_none))) (da_cons (de_listF (by rfl) T.z_list (by decide +kernel) (da_cons (de_var (pv 3)) (da_nil))) (da_cons (de_addF (de_var (pv 3)) (de_var (pv 3))) (da_nil))))))))))
    (dss_cons (ds_set (i := 5) sc_law.nd rfl (Or.inl rfl) (de_addF (de_addF (de_var (pv 5)) (de_lcF (own := [("step", 10)]) rfl sc_law.nd (di_range1 (by rfl) T.z_range (de_int pe_int)) (blkOk_by (by show blkC ["script", "cup", "turn", "rules", "k", "some", "thing", "due", "rule", "many", "step"] (defScope s_law) _ _ = true; decide +kernel)) (fun _ _ _ _ _ => dgc_name (pg_name (i := 10) sc_law.nd rfl (Or.inl rfl))) (fun _ _ _ _ _ => dts_nil) (fun _ _ _ _ _ => de_call G__law_bent (hr.mono (by omega)) (by rfl) T.m__law_bent T.F__law_bent.kp T.b__law_bent .nil (fun _ => rfl) pass0 (da_cons (de_var (pv 1)) (da_cons (de_var (pv 3)) (da_nil)))))) (de_lcF (own := [("step", 10)]) rfl sc_law.nd (di_range1 (by rfl) T.z_range (de_int pe_int)) (blkOk_by (by show blkC ["script", "cup", "turn", "rules", "k", "some", "thing", "due", "rule", "many", "step"] (defScope s_law) _ _ = true; decide +kernel)) (fun _ _ _ _ _ => dgc_name (pg_name (i := 10) sc_law.nd rfl (Or.inl rfl))) (fun _ _ _ _ _ => dts_nil) (fun _ _ _ _ _ => de_call G__law_near_one (hr.mono (by decide)) (by rfl) T.m__law_near_one T.F__law_near_one.kp T.b__law_near_one .nil (fun _ => rfl) pass0 (da_cons (de_var (pv 1)) (da_cons (de_var (pv 3)) (da_nil)))))))
    (dss_cons (ds_set (i := 5) sc_law.nd rfl (Or.inl rfl) (de_addF (de_var (pv 5)) (de_lstF (da_cons (de_ix (de_lstF (da_cons (de_tup (da_nil)) (da_cons (de_non pe_non) (da_cons (de_tup (da_cons (de_tup (da_cons (de_str pe_str) (da_nil))) (da_nil))) (da_cons (de_tup (da_cons (de_tup (da_nil)) (da_nil))) (da_cons (de_str pe_str) (da_cons (de_tup (da_cons (de_str pe_str) (da_nil))) (da_cons (de_int pe_int) (da_nil))))))))) (de_call G__law_sip (hr.mono (by decide)) (by rfl) T.m__law_sip T.F__law_sip.kp T.b__law_sip .nil (fun _ => rfl) pass0 (da_cons (de_var (pv 1)) (da_cons (de_int pe_int) (da_nil))))) (da_nil)))))
    (dss_one (ds_for PassesOwn.never rfl (di_walk (de_var (pv 5))) (dg_name (pg_name (i := 6) sc_law.nd rfl (Or.inl rfl))) (dss_cons (ds_set (i := 7) sc_law.nd rfl (Or.inl rfl) (de_call G__law_is_straight (hr.mono (by decide)) (by rfl) T.m__law_is_straight T.F__law_is_straight.kp T.b__law_is_straight .nil (fun _ => rfl) pass0 (da_cons (de_var (pv 6)) (da_nil))))
    (dss_one (ds_if (dt_w (dw_or (dt_not (dt_truth (de_call G__law_same (hr.mono (by decide)) (by rfl) T.m__law_same T.F__law_same.kp T.b__law_same .nil (fun _ => rfl) pass0 (da_cons (de_call G_is_straight (hr.mono (by decide)) (by rfl) T.m_is_straight T.F_is_straight.kp T.b_is_straight .nil (fun _ => rfl) pass0 (da_cons (de_var (pv 6)) (da_nil))) (da_cons (de_var (pv 7)) (da_nil)))))) (dw_or1 (dt_not (dt_truth (de_call G__law_same (hr.mono (by decide)) (by rfl) T.m__law_same T.F__law_same.kp T.b__law_same .nil (fun _ => rfl) pass0 (da_cons (de_callK G_is_straight (hr.mono (by decide)) (by rfl) T.m_is_straight T.F_is_straight.kp T.kw_is_straight pass0 (dk_cons (de_var (pv 6)) (dk_nil))) (da_cons (de_var (pv 7)) (da_nil))))))))) (dss_one (ds_ret (de_bl pe_bl))) (dss_nil))))))))))))
    (dss_cons (ds_set (i := 8) sc_law.nd rfl (Or.inl rfl) (de_ix (de_lstF (da_cons (de_tup (da_cons (de_str pe_str) (da_nil))) (da_cons (de_tup (da_cons (de_str pe_str) (da_cons (de_neg (de_int pe_int)) (da_nil)))) (da_cons (de_tup (da_cons (de_str pe_str) (da_cons (de_int pe_int) (da_cons (de_int pe_int) (da_nil))))) (da_cons (de_tup (da_cons (de_str pe_str) (da_cons (de_int pe_int) (da_cons (de_int pe_int) (da_nil))))) (da_nil)))))) (de_call G__law_sip (hr.mono (by decide)) (by rfl) T.m__law_sip T.F__law_sip.kp T.b__law_sip .nil (fun _ => rfl) pass0 (da_cons (de_var (pv 1)) (da_cons (de_int pe_int) (da_nil))))))
    (dss_cons (ds_for PassesOwn.never rfl (di_walk (de_tup (da_cons (de_int pe_int) (da_cons (de_int pe_int) (da_nil))))) (dg_name (pg_name (i := 9) sc_law.nd rfl (Or.inl rfl))) (dss_one (ds_if (dt_not (dt_truth (de_call G__law_same (hr.mono (by decide)) (by rfl) T.m__law_same T.F__law_same.kp T.b__law_same .nil (fun _ => rfl) pass0 (da_cons (de_call G_is_straight (hr.mono (by decide)) (by rfl) T.m_is_straight T.F_is_straight.kp T.b_is_straight .nil (fun _ => rfl) pass0 (da_cons (de_addF (de_tup (da_cons (de_tup (da_cons (de_str pe_str) (da_cons (de_int pe_int) (da_nil)))) (da_nil))) (de_mulF (de_tup (da_cons (de_var (pv 8)) (da_nil))) (de_var (pv 9)))) (da_nil))) (da_cons (de_cmp (c_eq hr.units) (de_var (pv 9)) (de_int pe_int) (nomark _)) (da_nil)))))) (dss_one (ds_ret (de_bl pe_bl))) (dss_nil))))
    (dss_one (ds_ret (de_bl pe_bl))))))
/-! ## the end: the facts of the top -/
def mkTxt {K : PySem.W.Frag} {h : Heap} {mg : Str → Option Value} (X : K.In h) (GN : h.Ns mainGlobals mg)
    {f_is_int : Addr} {od_is_int an_is_int : Option Addr} {sl_is_int : Array (Option Value)} {oc_is_int kV_is_int dc_is_int pm_is_int cd_is_int ct_is_int : Value}
    {f_within : Addr} {od_within an_within : Option Addr} {sl_within : Array (Option Value)} {oc_within kV_within dc_within pm_within cd_within ct_within : Value}
    {f_is_row : Addr} {od_is_row an_is_row : Option Addr} {sl_is_row : Array (Option Value)} {oc_is_row kV_is_row dc_is_row pm_is_row cd_is_row ct_is_row : Value}
    {f_is_letter : Addr} {od_is_letter an_is_letter : Option Addr} {sl_is_letter : Array (Option Value)} {oc_is_letter kV_is_letter dc_is_letter pm_is_letter cd_is_letter ct_is_letter : Value}
    {f_is_rule : Addr} {od_is_rule an_is_rule : Option Addr} {sl_is_rule : Array (Option Value)} {oc_is_rule kV_is_rule dc_is_rule pm_is_rule cd_is_rule ct_is_rule : Value}
    {f_is_straight : Addr} {od_is_straight an_is_straight : Option Addr} {sl_is_straight : Array (Option Value)} {oc_is_straight kV_is_straight dc_is_straight pm_is_straight cd_is_straight ct_is_straight : Value}
    {f__law_cup : Addr} {od__law_cup an__law_cup : Option Addr} {sl__law_cup : Array (Option Value)} {oc__law_cup kV__law_cup dc__law_cup pm__law_cup cd__law_cup ct__law_cup : Value}
    {f__law_sip : Addr} {od__law_sip an__law_sip : Option Addr} {sl__law_sip : Array (Option Value)} {oc__law_sip kV__law_sip dc__law_sip pm__law_sip cd__law_sip ct__law_sip : Value}
    {f__law_same : Addr} {od__law_same an__law_same : Option Addr} {sl__law_same : Array (Option Value)} {oc__law_same kV__law_same dc__law_same pm__law_same cd__law_same ct__law_same : Value}
    {f__law_is_whole : Addr} {od__law_is_whole an__law_is_whole : Option Addr} {sl__law_is_whole : Array (Option Value)} {oc__law_is_whole kV__law_is_whole dc__law_is_whole pm__law_is_whole cd__law_is_whole ct__law_is_whole : Value}
    {f__law_bent : Addr} {od__law_bent an__law_bent : Option Addr} {sl__law_bent : Array (Option Value)} {oc__law_bent kV__law_bent dc__law_bent pm__law_bent cd__law_bent ct__law_bent : Value}
    {f__law_text : Addr} {od__law_text an__law_text : Option Addr} {sl__law_text : Array (Option Value)} {oc__law_text kV__law_text dc__law_text pm__law_text cd__law_text ct__law_text : Value}
    {f__law_is_straight : Addr} {od__law_is_straight an__law_is_straight : Option Addr} {sl__law_is_straight : Array (Option Value)} {oc__law_is_straight kV__law_is_straight dc__law_is_straight pm__law_is_straight cd__law_is_straight ct__law_is_straight : Value}
    {f__law_near_one : Addr} {od__law_near_one an__law_near_one : Option Addr} {sl__law_near_one : Array (Option Value)} {oc__law_near_one kV__law_near_one dc__law_near_one pm__law_near_one cd__law_near_one ct__law_near_one : Value}
    {f_law : Addr} {od_law an_law : Option Addr} {sl_law : Array (Option Value)} {oc_law kV_law dc_law pm_law cd_law ct_law : Value}
    {t_MOST_LETTER : Tok}
    {t_MOST_RULES : Tok}
    (A_is_int : PySem.W.nsIn K mainGlobals "is_int" = some (some (.ref f_is_int)))
    (L_is_int : K.lookup f_is_int = some ⟨oc_is_int, od_is_int, .func (PySem.W.fnOf "is_int" "is_int" (defArgs (topS 1)) (defBody (topS 1)) (defScope (topS 1)) .none kV_is_int dc_is_int pm_is_int an_is_int cd_is_int ct_is_int), sl_is_int⟩)
    (C_is_int : PySem.W.codeIn K cd_is_int "is_int" = true)
    (K_is_int : PySem.W.keepIn K (.ref f_is_int) = true)
    (A_within : PySem.W.nsIn K mainGlobals "within" = some (some (.ref f_within)))
    (L_within : K.lookup f_within = some ⟨oc_within, od_within, .func (PySem.W.fnOf "within" "within" (defArgs (topS 2)) (defBody (topS 2)) (defScope (topS 2)) .none kV_within dc_within pm_within an_within cd_within ct_within), sl_within⟩)
    (C_within : PySem.W.codeIn K cd_within "within" = true)
    (K_within : PySem.W.keepIn K (.ref f_within) = true)
    (A_is_row : PySem.W.nsIn K mainGlobals "is_row" = some (some (.ref f_is_row)))
    (L_is_row : K.lookup f_is_row = some ⟨oc_is_row, od_is_row, .func (PySem.W.fnOf "is_row" "is_row" (defArgs (topS 3)) (defBody (topS 3)) (defScope (topS 3)) .none kV_is_row dc_is_row pm_is_row an_is_row cd_is_row ct_is_row), sl_is_row⟩)
    (C_is_row : PySem.W.codeIn K cd_is_row "is_row" = true)
    (K_is_row : PySem.W.keepIn K (.ref f_is_row) = true)
    (A_is_letter : PySem.W.nsIn K mainGlobals "is_letter" = some (some (.ref f_is_letter)))
    (L_is_letter : K.lookup f_is_letter = some ⟨oc_is_letter, od_is_letter, .func (PySem.W.fnOf "is_letter" "is_letter" (defArgs (topS 7)) (defBody (topS 7)) (defScope (topS 7)) .none kV_is_letter dc_is_letter pm_is_letter an_is_letter cd_is_letter ct_is_letter), sl_is_letter⟩)
    (C_is_letter : PySem.W.codeIn K cd_is_letter "is_letter" = true)
    (K_is_letter : PySem.W.keepIn K (.ref f_is_letter) = true)
    (A_is_rule : PySem.W.nsIn K mainGlobals "is_rule" = some (some (.ref f_is_rule)))
    (L_is_rule : K.lookup f_is_rule = some ⟨oc_is_rule, od_is_rule, .func (PySem.W.fnOf "is_rule" "is_rule" (defArgs (topS 8)) (defBody (topS 8)) (defScope (topS 8)) .none kV_is_rule dc_is_rule pm_is_rule an_is_rule cd_is_rule ct_is_rule), sl_is_rule⟩)
    (C_is_rule : PySem.W.codeIn K cd_is_rule "is_rule" = true)
    (K_is_rule : PySem.W.keepIn K (.ref f_is_rule) = true)
    (A_is_straight : PySem.W.nsIn K mainGlobals "is_straight" = some (some (.ref f_is_straight)))
    (L_is_straight : K.lookup f_is_straight = some ⟨oc_is_straight, od_is_straight, .func (PySem.W.fnOf "is_straight" "is_straight" (defArgs (topS 9)) (defBody (topS 9)) (defScope (topS 9)) .none kV_is_straight dc_is_straight pm_is_straight an_is_straight cd_is_straight ct_is_straight), sl_is_straight⟩)
    (C_is_straight : PySem.W.codeIn K cd_is_straight "is_straight" = true)
    (K_is_straight : PySem.W.keepIn K (.ref f_is_straight) = true)
    (A__law_cup : PySem.W.nsIn K mainGlobals "_law_cup" = some (some (.ref f__law_cup)))
    (L__law_cup : K.lookup f__law_cup = some ⟨oc__law_cup, od__law_cup, .func (PySem.W.fnOf "_law_cup" "_law_cup" (defArgs (topS 11)) (defBody (topS 11)) (defScope (topS 11)) .none kV__law_cup dc__law_cup pm__law_cup an__law_cup cd__law_cup ct__law_cup), sl__law_cup⟩)
    (C__law_cup : PySem.W.codeIn K cd__law_cup "_law_cup" = true)
    (K__law_cup : PySem.W.keepIn K (.ref f__law_cup) = true)
    (A__law_sip : PySem.W.nsIn K mainGlobals "_law_sip" = some (some (.ref f__law_sip)))
    (L__law_sip : K.lookup f__law_sip = some ⟨oc__law_sip, od__law_sip, .func (PySem.W.fnOf "_law_sip" "_law_sip" (defArgs (topS 12)) (defBody (topS 12)) (defScope (topS 12)) .none kV__law_sip dc__law_sip pm__law_sip an__law_sip cd__law_sip ct__law_sip), sl__law_sip⟩)
    (C__law_sip : PySem.W.codeIn K cd__law_sip "_law_sip" = true)
    (K__law_sip : PySem.W.keepIn K (.ref f__law_sip) = true)
    (A__law_same : PySem.W.nsIn K mainGlobals "_law_same" = some (some (.ref f__law_same)))
    (L__law_same : K.lookup f__law_same = some ⟨oc__law_same, od__law_same, .func (PySem.W.fnOf "_law_same" "_law_same" (defArgs (topS 13)) (defBody (topS 13)) (defScope (topS 13)) .none kV__law_same dc__law_same pm__law_same an__law_same cd__law_same ct__law_same), sl__law_same⟩)
    (C__law_same : PySem.W.codeIn K cd__law_same "_law_same" = true)
    (K__law_same : PySem.W.keepIn K (.ref f__law_same) = true)
    (A__law_is_whole : PySem.W.nsIn K mainGlobals "_law_is_whole" = some (some (.ref f__law_is_whole)))
    (L__law_is_whole : K.lookup f__law_is_whole = some ⟨oc__law_is_whole, od__law_is_whole, .func (PySem.W.fnOf "_law_is_whole" "_law_is_whole" (defArgs (topS 14)) (defBody (topS 14)) (defScope (topS 14)) .none kV__law_is_whole dc__law_is_whole pm__law_is_whole an__law_is_whole cd__law_is_whole ct__law_is_whole), sl__law_is_whole⟩)
    (C__law_is_whole : PySem.W.codeIn K cd__law_is_whole "_law_is_whole" = true)
    (K__law_is_whole : PySem.W.keepIn K (.ref f__law_is_whole) = true)
    (A__law_bent : PySem.W.nsIn K mainGlobals "_law_bent" = some (some (.ref f__law_bent)))
    (L__law_bent : K.lookup f__law_bent = some ⟨oc__law_bent, od__law_bent, .func (PySem.W.fnOf "_law_bent" "_law_bent" (defArgs (topS 15)) (defBody (topS 15)) (defScope (topS 15)) .none kV__law_bent dc__law_bent pm__law_bent an__law_bent cd__law_bent ct__law_bent), sl__law_bent⟩)
    (C__law_bent : PySem.W.codeIn K cd__law_bent "_law_bent" = true)
    (K__law_bent : PySem.W.keepIn K (.ref f__law_bent) = true)
    (A__law_text : PySem.W.nsIn K mainGlobals "_law_text" = some (some (.ref f__law_text)))
    (L__law_text : K.lookup f__law_text = some ⟨oc__law_text, od__law_text, .func (PySem.W.fnOf "_law_text" "_law_text" (defArgs (topS 16)) (defBody (topS 16)) (defScope (topS 16)) .none kV__law_text dc__law_text pm__law_text an__law_text cd__law_text ct__law_text), sl__law_text⟩)
    (C__law_text : PySem.W.codeIn K cd__law_text "_law_text" = true)
    (K__law_text : PySem.W.keepIn K (.ref f__law_text) = true)
    (A__law_is_straight : PySem.W.nsIn K mainGlobals "_law_is_straight" = some (some (.ref f__law_is_straight)))
    (L__law_is_straight : K.lookup f__law_is_straight = some ⟨oc__law_is_straight, od__law_is_straight, .func (PySem.W.fnOf "_law_is_straight" "_law_is_straight" (defArgs (topS 17)) (defBody (topS 17)) (defScope (topS 17)) .none kV__law_is_straight dc__law_is_straight pm__law_is_straight an__law_is_straight cd__law_is_straight ct__law_is_straight), sl__law_is_straight⟩)
    (C__law_is_straight : PySem.W.codeIn K cd__law_is_straight "_law_is_straight" = true)
    (K__law_is_straight : PySem.W.keepIn K (.ref f__law_is_straight) = true)
    (A__law_near_one : PySem.W.nsIn K mainGlobals "_law_near_one" = some (some (.ref f__law_near_one)))
    (L__law_near_one : K.lookup f__law_near_one = some ⟨oc__law_near_one, od__law_near_one, .func (PySem.W.fnOf "_law_near_one" "_law_near_one" (defArgs (topS 18)) (defBody (topS 18)) (defScope (topS 18)) .none kV__law_near_one dc__law_near_one pm__law_near_one an__law_near_one cd__law_near_one ct__law_near_one), sl__law_near_one⟩)
    (C__law_near_one : PySem.W.codeIn K cd__law_near_one "_law_near_one" = true)
    (K__law_near_one : PySem.W.keepIn K (.ref f__law_near_one) = true)
    (A_law : PySem.W.nsIn K mainGlobals "law" = some (some (.ref f_law)))
    (L_law : K.lookup f_law = some ⟨oc_law, od_law, .func (PySem.W.fnOf "law" "law" (defArgs (topS 19)) (defBody (topS 19)) (defScope (topS 19)) .none kV_law dc_law pm_law an_law cd_law ct_law), sl_law⟩)
    (C_law : PySem.W.codeIn K cd_law "law" = true)
    (K_law : PySem.W.keepIn K (.ref f_law) = true)
    (G_MOST_LETTER : PySem.W.nsIn K mainGlobals "MOST_LETTER" = some (some (.int 20 t_MOST_LETTER)))
    (G_MOST_RULES : PySem.W.nsIn K mainGlobals "MOST_RULES" = some (some (.int 4000 t_MOST_RULES)))
    (Z_abs : PySem.W.nsIn K mainGlobals "abs" = some none)
    (Z_all : PySem.W.nsIn K mainGlobals "all" = some none)
    (Z_bool : PySem.W.nsIn K mainGlobals "bool" = some none)
    (Z_enumerate : PySem.W.nsIn K mainGlobals "enumerate" = some none)
    (Z_int : PySem.W.nsIn K mainGlobals "int" = some none)
    (Z_isinstance : PySem.W.nsIn K mainGlobals "isinstance" = some none)
    (Z_len : PySem.W.nsIn K mainGlobals "len" = some none)
    (Z_list : PySem.W.nsIn K mainGlobals "list" = some none)
    (Z_max : PySem.W.nsIn K mainGlobals "max" = some none)
    (Z_range : PySem.W.nsIn K mainGlobals "range" = some none)
    (Z_str : PySem.W.nsIn K mainGlobals "str" = some none)
    (Z_tuple : PySem.W.nsIn K mainGlobals "tuple" = some none)
    : Txt K mg where
  a_is_int := f_is_int
  d_is_int := PySem.W.fnOf "is_int" "is_int" (defArgs (topS 1)) (defBody (topS 1)) (defScope (topS 1)) .none kV_is_int dc_is_int pm_is_int an_is_int cd_is_int ct_is_int
  F_is_int := fun_mk (st := topS 1) L_is_int C_is_int K_is_int
  m_is_int := PySem.W.mg_of X GN A_is_int
  b_is_int := (fun_mk (st := topS 1) L_is_int C_is_int K_is_int).binds fun _ _ _ _ _ _ us hl => match us, hl with | [_], _ => rfl
  a_within := f_within
  d_within := PySem.W.fnOf "within" "within" (defArgs (topS 2)) (defBody (topS 2)) (defScope (topS 2)) .none kV_within dc_within pm_within an_within cd_within ct_within
  F_within := fun_mk (st := topS 2) L_within C_within K_within
  m_within := PySem.W.mg_of X GN A_within
  b_within := (fun_mk (st := topS 2) L_within C_within K_within).binds fun _ _ _ _ _ _ us hl => match us, hl with | [_, _, _], _ => rfl
  a_is_row := f_is_row
  d_is_row := PySem.W.fnOf "is_row" "is_row" (defArgs (topS 3)) (defBody (topS 3)) (defScope (topS 3)) .none kV_is_row dc_is_row pm_is_row an_is_row cd_is_row ct_is_row
  F_is_row := fun_mk (st := topS 3) L_is_row C_is_row K_is_row
  m_is_row := PySem.W.mg_of X GN A_is_row
  b_is_row := (fun_mk (st := topS 3) L_is_row C_is_row K_is_row).binds fun _ _ _ _ _ _ us hl => match us, hl with | [_, _, _], _ => rfl
  a_is_letter := f_is_letter
  d_is_letter := PySem.W.fnOf "is_letter" "is_letter" (defArgs (topS 7)) (defBody (topS 7)) (defScope (topS 7)) .none kV_is_letter dc_is_letter pm_is_letter an_is_letter cd_is_letter ct_is_letter
  F_is_letter := fun_mk (st := topS 7) L_is_letter C_is_letter K_is_letter
  m_is_letter := PySem.W.mg_of X GN A_is_letter
  b_is_letter := (fun_mk (st := topS 7) L_is_letter C_is_letter K_is_letter).binds fun _ _ _ _ _ _ us hl => match us, hl with | [_], _ => rfl
  a_is_rule := f_is_rule
  d_is_rule := PySem.W.fnOf "is_rule" "is_rule" (defArgs (topS 8)) (defBody (topS 8)) (defScope (topS 8)) .none kV_is_rule dc_is_rule pm_is_rule an_is_rule cd_is_rule ct_is_rule
  F_is_rule := fun_mk (st := topS 8) L_is_rule C_is_rule K_is_rule
  m_is_rule := PySem.W.mg_of X GN A_is_rule
  b_is_rule := (fun_mk (st := topS 8) L_is_rule C_is_rule K_is_rule).binds fun _ _ _ _ _ _ us hl => match us, hl with | [_, _], _ => rfl
  a_is_straight := f_is_straight
  d_is_straight := PySem.W.fnOf "is_straight" "is_straight" (defArgs (topS 9)) (defBody (topS 9)) (defScope (topS 9)) .none kV_is_straight dc_is_straight pm_is_straight an_is_straight cd_is_straight ct_is_straight
  F_is_straight := fun_mk (st := topS 9) L_is_straight C_is_straight K_is_straight
  m_is_straight := PySem.W.mg_of X GN A_is_straight
  b_is_straight := (fun_mk (st := topS 9) L_is_straight C_is_straight K_is_straight).binds fun _ _ _ _ _ _ us hl => match us, hl with | [_], _ => rfl
  kw_is_straight := ⟨fun s ws _ hl => match ws, hl with | [_], _ => .of_eq rfl, rfl⟩
  a__law_cup := f__law_cup
  d__law_cup := PySem.W.fnOf "_law_cup" "_law_cup" (defArgs (topS 11)) (defBody (topS 11)) (defScope (topS 11)) .none kV__law_cup dc__law_cup pm__law_cup an__law_cup cd__law_cup ct__law_cup
  F__law_cup := fun_mk (st := topS 11) L__law_cup C__law_cup K__law_cup
  m__law_cup := PySem.W.mg_of X GN A__law_cup
  b__law_cup := (fun_mk (st := topS 11) L__law_cup C__law_cup K__law_cup).binds fun _ _ _ _ _ _ us hl => match us, hl with | [_], _ => rfl
  a__law_sip := f__law_sip
  d__law_sip := PySem.W.fnOf "_law_sip" "_law_sip" (defArgs (topS 12)) (defBody (topS 12)) (defScope (topS 12)) .none kV__law_sip dc__law_sip pm__law_sip an__law_sip cd__law_sip ct__law_sip
  F__law_sip := fun_mk (st := topS 12) L__law_sip C__law_sip K__law_sip
  m__law_sip := PySem.W.mg_of X GN A__law_sip
  b__law_sip := (fun_mk (st := topS 12) L__law_sip C__law_sip K__law_sip).binds fun _ _ _ _ _ _ us hl => match us, hl with | [_, _], _ => rfl
  a__law_same := f__law_same
  d__law_same := PySem.W.fnOf "_law_same" "_law_same" (defArgs (topS 13)) (defBody (topS 13)) (defScope (topS 13)) .none kV__law_same dc__law_same pm__law_same an__law_same cd__law_same ct__law_same
  F__law_same := fun_mk (st := topS 13) L__law_same C__law_same K__law_same
  m__law_same := PySem.W.mg_of X GN A__law_same
  b__law_same := (fun_mk (st := topS 13) L__law_same C__law_same K__law_same).binds fun _ _ _ _ _ _ us hl => match us, hl with | [_, _], _ => rfl
  a__law_is_whole := f__law_is_whole
  d__law_is_whole := PySem.W.fnOf "_law_is_whole" "_law_is_whole" (defArgs (topS 14)) (defBody (topS 14)) (defScope (topS 14)) .none kV__law_is_whole dc__law_is_whole pm__law_is_whole an__law_is_whole cd__law_is_whole ct__law_is_whole
  F__law_is_whole := fun_mk (st := topS 14) L__law_is_whole C__law_is_whole K__law_is_whole
  m__law_is_whole := PySem.W.mg_of X GN A__law_is_whole
  b__law_is_whole := (fun_mk (st := topS 14) L__law_is_whole C__law_is_whole K__law_is_whole).binds fun _ _ _ _ _ _ us hl => match us, hl with | [_], _ => rfl
  a__law_bent := f__law_bent
  d__law_bent := PySem.W.fnOf "_law_bent" "_law_bent" (defArgs (topS 15)) (defBody (topS 15)) (defScope (topS 15)) .none kV__law_bent dc__law_bent pm__law_bent an__law_bent cd__law_bent ct__law_bent
  F__law_bent := fun_mk (st := topS 15) L__law_bent C__law_bent K__law_bent
  m__law_bent := PySem.W.mg_of X GN A__law_bent
  b__law_bent := (fun_mk (st := topS 15) L__law_bent C__law_bent K__law_bent).binds fun _ _ _ _ _ _ us hl => match us, hl with | [_, _], _ => rfl
  a__law_text := f__law_text
  d__law_text := PySem.W.fnOf "_law_text" "_law_text" (defArgs (topS 16)) (defBody (topS 16)) (defScope (topS 16)) .none kV__law_text dc__law_text pm__law_text an__law_text cd__law_text ct__law_text
  F__law_text := fun_mk (st := topS 16) L__law_text C__law_text K__law_text
  m__law_text := PySem.W.mg_of X GN A__law_text
  b__law_text := (fun_mk (st := topS 16) L__law_text C__law_text K__law_text).binds fun _ _ _ _ _ _ us hl => match us, hl with | [_, _, _], _ => rfl
  a__law_is_straight := f__law_is_straight
  d__law_is_straight := PySem.W.fnOf "_law_is_straight" "_law_is_straight" (defArgs (topS 17)) (defBody (topS 17)) (defScope (topS 17)) .none kV__law_is_straight dc__law_is_straight pm__law_is_straight an__law_is_straight cd__law_is_straight ct__law_is_straight
  F__law_is_straight := fun_mk (st := topS 17) L__law_is_straight C__law_is_straight K__law_is_straight
  m__law_is_straight := PySem.W.mg_of X GN A__law_is_straight
  b__law_is_straight := (fun_mk (st := topS 17) L__law_is_straight C__law_is_straight K__law_is_straight).binds fun _ _ _ _ _ _ us hl => match us, hl with | [_], _ => rfl
  a__law_near_one := f__law_near_one
  d__law_near_one := PySem.W.fnOf "_law_near_one" "_law_near_one" (defArgs (topS 18)) (defBody (topS 18)) (defScope (topS 18)) .none kV__law_near_one dc__law_near_one pm__law_near_one an__law_near_one cd__law_near_one ct__law_near_one
  F__law_near_one := fun_mk (st := topS 18) L__law_near_one C__law_near_one K__law_near_one
  m__law_near_one := PySem.W.mg_of X GN A__law_near_one
  b__law_near_one := (fun_mk (st := topS 18) L__law_near_one C__law_near_one K__law_near_one).binds fun _ _ _ _ _ _ us hl => match us, hl with | [_, _], _ => rfl
  a_law := f_law
  d_law := PySem.W.fnOf "law" "law" (defArgs (topS 19)) (defBody (topS 19)) (defScope (topS 19)) .none kV_law dc_law pm_law an_law cd_law ct_law
  F_law := fun_mk (st := topS 19) L_law C_law K_law
  m_law := PySem.W.mg_of X GN A_law
  b_law := (fun_mk (st := topS 19) L_law C_law K_law).binds fun _ _ _ _ _ _ us hl => match us, hl with | [_], _ => rfl
  t_MOST_LETTER := t_MOST_LETTER
  g_MOST_LETTER := PySem.W.mg_of X GN G_MOST_LETTER
  t_MOST_RULES := t_MOST_RULES
  g_MOST_RULES := PySem.W.mg_of X GN G_MOST_RULES
  z_abs := PySem.W.mg_none_of X GN Z_abs
  z_all := PySem.W.mg_none_of X GN Z_all
  z_bool := PySem.W.mg_none_of X GN Z_bool
  z_enumerate := PySem.W.mg_none_of X GN Z_enumerate
  z_int := PySem.W.mg_none_of X GN Z_int
  z_isinstance := PySem.W.mg_none_of X GN Z_isinstance
  z_len := PySem.W.mg_none_of X GN Z_len
  z_list := PySem.W.mg_none_of X GN Z_list
  z_max := PySem.W.mg_none_of X GN Z_max
  z_range := PySem.W.mg_none_of X GN Z_range
  z_str := PySem.W.mg_none_of X GN Z_str
  z_tuple := PySem.W.mg_none_of X GN Z_tuple
end K1

set_option maxHeartbeats 4000000
namespace K1
open PySem PySem.Spec L2 DL
open PyProof.Rows hiding St
theorem rd_is_int : ∀ ds H Q, sp_is_int ds H Q → td_is_int (outD Q) (startD 1 ds) H := by
  rintro ds H Q ⟨d, rfl, h, q⟩
  have fin := rd_bl q
  refine ⟨_, rfl, okK_of h, ⟨fun a => ⟨_, rfl, okK_of h, fin _ ?_⟩, fun a => fin _ ?_⟩⟩ <;> cases d <;> first | rfl | cases a
theorem rd_within : ∀ ds H Q, sp_within ds H Q → td_within (outD Q) (startD 3 ds) H := by
  rintro ds H Q ⟨d, lo, hi, rfl, h, q⟩
  refine ⟨d, rfl, _, rfl, h, ?_⟩
  have fin := rd_bl q
  cases d with
  | int i => exact ⟨fun _ => ⟨_, rfl, _, rfl, fun e => ⟨_, rfl, fin _ (by simp [wIn, of_decide_eq_true e])⟩, fun e => fin _ (by simp [wIn, of_decide_eq_false e])⟩, fun e => (nomatch e)⟩
  | _ => exact ⟨fun e => (nomatch e), fun _ => fin _ rfl⟩
theorem rd_is_row : ∀ ds H Q, sp_is_row ds H Q → td_is_row (outD Q) (startD 3 ds) H := by
  rintro ds H Q ⟨d, lo, hi, rfl, h, q⟩
  have fin := rd_bl q
  refine ⟨_, rfl, okK_of h, ?_⟩
  cases d with
  | tup xs => 
    refine ⟨fun _ => ⟨_, rfl, _, rfl, fun e => ⟨_, rfl, fin _ ?_⟩, fun e => fin _ ?_⟩, fun e => (nomatch e)⟩
    · simp [rowB, of_decide_eq_true e]
    · simp [rowB, of_decide_eq_false e]
  | _ => exact ⟨fun e => (nomatch e), fun _ => fin _ rfl⟩
theorem rd_is_letter : ∀ ds H Q, sp_is_letter ds H Q → td_is_letter (outD Q) (startD 1 ds) H := by
  rintro ds H Q ⟨d, rfl, h, q⟩
  have fin := rd_bl q
  refine ⟨_, rfl, d, _, _, rfl, h, ?_⟩
  cases d with
  | int i => 
    refine ⟨fun e => ⟨_, rfl, rfl, fin _ ?_⟩, fun e => fin _ ?_⟩
    · simp [wIn, letB, eqv] at e ⊢; grind
    · simp [wIn, letB] at e ⊢; grind
  | _ => exact ⟨fun e => (nomatch e), fun _ => fin _ rfl⟩
theorem names4 : ("none" : Str) ≠ "letter" ∧ ("none" : Str) ≠ "pair" ∧ ("none" : Str) ≠ "power" ∧ ("letter" : Str) ≠ "pair" ∧ ("letter" : Str) ≠ "power" ∧ ("pair" : Str) ≠ "power" := by decide +kernel
theorem rd_is_rule : ∀ ds H Q, sp_is_rule ds H Q → td_is_rule (outD Q) (startD 2 ds) H := by
  rintro ds H Q ⟨d, k, rfl, h, q⟩
  have fin := rd_bl q
  have ok := pureD_ok h
  have n4 := names4
  refine ⟨_, rfl, _, _, _, rfl, ok, ?_⟩
  cases d with
  | tup xs =>
    rw [show pureD (.tup xs) = pureL xs from rfl] at h
    match xs, h with
    | [], _ => exact ⟨fun _ => ⟨fun _ => fin _ rfl, fun e => (nomatch e)⟩, fun e => (nomatch e)⟩
    | [a], h =>
      have ha : pureD a = true := by simpa [pureL] using h
      have oa := pureD_ok ha
      cases a with
      | str s =>
        (repeat' (first | apply fin | exact trivial | refine ⟨_, rfl, ?_⟩ | refine ⟨_, _, rfl, ?_⟩ | refine ⟨_, _, _, rfl, ?_⟩ | refine ⟨rfl, ?_⟩ | refine ⟨by assumption, ?_⟩ | refine ⟨trivial, ?_⟩ | refine ⟨fun e => Bool.noConfusion (show false = true from e), fun e => ?_⟩ | refine ⟨fun e => ?_, fun e => Bool.noConfusion (show true = false from e)⟩ | refine ⟨fun e => ?_, fun e => ?_⟩ | refine ⟨by decide +kernel, ?_⟩ | intro e))
        all_goals (simp [ruleB, eqv] at *)
        all_goals grind
      | _ => first | (cases oa; done) | ((repeat' (first | apply fin | exact trivial | refine ⟨_, rfl, ?_⟩ | refine ⟨_, _, rfl, ?_⟩ | refine ⟨_, _, _, rfl, ?_⟩ | refine ⟨rfl, ?_⟩ | refine ⟨by assumption, ?_⟩ | refine ⟨trivial, ?_⟩ | refine ⟨fun e => Bool.noConfusion (show false = true from e), fun e => ?_⟩ | refine ⟨fun e => ?_, fun e => Bool.noConfusion (show true = false from e)⟩ | refine ⟨fun e => ?_, fun e => ?_⟩ | refine ⟨by decide +kernel, ?_⟩ | intro e)) <;> rfl)
    | [a, x], h =>
      have ha : pureD a = true ∧ pureD x = true := by simpa [pureL] using h
      have oa := pureD_ok ha.1
      have ox := pureD_ok ha.2
      cases a with
      | str s =>
        (repeat' (first | apply fin | exact trivial | refine ⟨_, rfl, ?_⟩ | refine ⟨_, _, rfl, ?_⟩ | refine ⟨_, _, _, rfl, ?_⟩ | refine ⟨rfl, ?_⟩ | refine ⟨by assumption, ?_⟩ | refine ⟨trivial, ?_⟩ | refine ⟨fun e => Bool.noConfusion (show false = true from e), fun e => ?_⟩ | refine ⟨fun e => ?_, fun e => Bool.noConfusion (show true = false from e)⟩ | refine ⟨fun e => ?_, fun e => ?_⟩ | refine ⟨by decide +kernel, ?_⟩ | intro e))
        all_goals (simp [ruleB, eqv] at *)
        all_goals grind
      | _ => first | (cases oa; done) | ((repeat' (first | apply fin | exact trivial | refine ⟨_, rfl, ?_⟩ | refine ⟨_, _, rfl, ?_⟩ | refine ⟨_, _, _, rfl, ?_⟩ | refine ⟨rfl, ?_⟩ | refine ⟨by assumption, ?_⟩ | refine ⟨trivial, ?_⟩ | refine ⟨fun e => Bool.noConfusion (show false = true from e), fun e => ?_⟩ | refine ⟨fun e => ?_, fun e => Bool.noConfusion (show true = false from e)⟩ | refine ⟨fun e => ?_, fun e => ?_⟩ | refine ⟨by decide +kernel, ?_⟩ | intro e)) <;> rfl)
    | [a, x, y], h =>
      have ha : pureD a = true ∧ pureD x = true ∧ pureD y = true := by simpa [pureL] using h
      have oa := pureD_ok ha.1
      have ox := pureD_ok ha.2.1
      have oy := pureD_ok ha.2.2
      cases a with
      | str s =>
        cases y <;> first | (cases oy; done) | skip
        all_goals (repeat' (first | apply fin | exact trivial | refine ⟨_, rfl, ?_⟩ | refine ⟨_, _, rfl, ?_⟩ | refine ⟨_, _, _, rfl, ?_⟩ | refine ⟨rfl, ?_⟩ | refine ⟨by assumption, ?_⟩ | refine ⟨trivial, ?_⟩ | refine ⟨fun e => Bool.noConfusion (show false = true from e), fun e => ?_⟩ | refine ⟨fun e => ?_, fun e => Bool.noConfusion (show true = false from e)⟩ | refine ⟨fun e => ?_, fun e => ?_⟩ | refine ⟨by decide +kernel, ?_⟩ | intro e))
        all_goals (simp [ruleB, eqv, gt1, isWhole, wIn] at *)
        all_goals grind
      | _ => first | (cases oa; done) | ((repeat' (first | apply fin | exact trivial | refine ⟨_, rfl, ?_⟩ | refine ⟨_, _, rfl, ?_⟩ | refine ⟨_, _, _, rfl, ?_⟩ | refine ⟨rfl, ?_⟩ | refine ⟨by assumption, ?_⟩ | refine ⟨trivial, ?_⟩ | refine ⟨fun e => Bool.noConfusion (show false = true from e), fun e => ?_⟩ | refine ⟨fun e => ?_, fun e => Bool.noConfusion (show true = false from e)⟩ | refine ⟨fun e => ?_, fun e => ?_⟩ | refine ⟨by decide +kernel, ?_⟩ | intro e)) <;> rfl)
    | a :: b :: c :: e :: r, h =>
      have z : rowB (.tup (a :: b :: c :: e :: r)) 1 3 = false := by simp [rowB]; omega
      rw [z]
      exact ⟨fun _ => ⟨fun _ => fin _ (by simp [ruleB]), fun e => Bool.noConfusion e⟩, fun e => Bool.noConfusion e⟩
  | _ => exact ⟨fun _ => ⟨fun _ => fin _ rfl, fun e => (nomatch e)⟩, fun e => (nomatch e)⟩
end K1

set_option maxHeartbeats 4000000
namespace K1
open PySem PySem.Spec L2 DL
open PyProof.Rows hiding St
theorem strB_iff {xs : List Dv} (h1 : 1 ≤ xs.length) (h2 : xs.length ≤ 4000) : strB (.tup xs) = ((List.range xs.length).map fun j => ruleB (nth xs j) (j : Nat)).all id := by
  rw [Bool.eq_iff_iff]
  simp only [strB, Bool.and_eq_true, decide_eq_true_eq, rulesB_iff, List.all_eq_true, List.mem_map, List.mem_range]
  constructor
  · rintro ⟨_, h⟩ b ⟨j, hj, rfl⟩
    have := h j hj
    rwa [Int.zero_add] at this
  · intro h
    exact ⟨⟨h1, h2⟩, fun j hj => by rw [Int.zero_add]; exact h _ ⟨j, hj, rfl⟩⟩
theorem rd_is_straight : ∀ ds H Q, sp_is_straight ds H Q → td_is_straight (outD Q) (startD 3 ds) H := by
  rintro ds H Q ⟨d, rfl, h, q⟩
  have fin := rd_bl q
  have ok := pureD_ok h
  refine ⟨_, rfl, _, _, _, rfl, ok, ?_⟩
  cases d with
  | tup xs =>
    refine ⟨fun e => ?_, fun e => fin _ ?_⟩
    · simp only [rowB, Bool.and_eq_true, decide_eq_true_eq] at e
      have h1 : 1 ≤ xs.length := by omega
      have h2 : xs.length ≤ 4000 := by omega
      have hz : (4000 : Nat) < sizeLine := by decide +kernel
      refine ⟨_, rfl, fun i acc H' => H' = H ∧ acc = (List.range i).map fun j => Dv.bl (ruleB (nth xs j) (j : Nat)), ⟨rfl, rfl⟩, fun _ _ _ _ _ => trivial, ?_, ?_⟩
      · rintro i acc H' hi ⟨rfl, rfl⟩
        refine ⟨rfl, rfl, ⟨fun _ => ⟨_, rfl, _, rfl, _, _, rfl, pureL_nth h hi, ?_⟩, fun e => Bool.noConfusion e⟩⟩
        have hi' : i < xs.length := hi
        refine ⟨by rw [List.length_map, List.length_range]; omega, rfl, ?_⟩
        rw [List.range_succ, List.map_append]; rfl
      · rintro acc H' ⟨rfl, rfl⟩
        refine ⟨(List.range xs.length).map fun j => ruleB (nth xs j) (j : Nat), by rw [List.map_map]; rfl, fin _ ?_⟩
        rw [strB_iff h1 h2]
    · simp only [rowB, strB] at e ⊢
      simp at e ⊢
      grind
  | _ => exact ⟨fun e => Bool.noConfusion (show false = true from e), fun _ => fin _ rfl⟩
theorem rd__law_is_whole : ∀ ds H Q, sp__law_is_whole ds H Q → td__law_is_whole (outD Q) (startD 1 ds) H := rd_is_int
theorem rd__law_same : ∀ ds H Q, sp__law_same ds H Q → td__law_same (outD Q) (startD 3 ds) H := by
  rintro ds H Q ⟨a, b, rfl, q⟩
  have fin := rd_bl q
  (repeat' (first | apply fin | exact trivial | refine ⟨_, rfl, ?_⟩ | refine ⟨_, _, rfl, ?_⟩ | refine ⟨_, _, _, rfl, ?_⟩ | refine ⟨rfl, ?_⟩ | refine ⟨by assumption, ?_⟩ | refine ⟨trivial, ?_⟩ | refine ⟨fun e => Bool.noConfusion (show false = true from e), fun e => ?_⟩ | refine ⟨fun e => ?_, fun e => Bool.noConfusion (show true = false from e)⟩ | refine ⟨fun e => ?_, fun e => ?_⟩ | refine ⟨by decide +kernel, ?_⟩ | intro e))
  all_goals (simp [eqv] at * <;> grind)
end K1

set_option maxHeartbeats 4000000
namespace DL
open PySem PySem.Spec L2
open PyProof.Rows hiding St
theorem take_nth {ds : List Dv} {i : Nat} (h : i < ds.length) : ds.take (i + 1) = ds.take i ++ [nth ds i] := by
  have e := nth_at h
  rw [List.take_succ, e]; rfl
theorem cut_from {α : Type} (ds : List α) (k : Nat) : cutD ds (some (k : Int)) none = ds.drop k := by
  unfold cutD
  have e1 : HT.sIx ds.length 0 (some (k : Int)) = min k ds.length := by unfold HT.sIx; simp; omega
  have e2 : HT.sIx ds.length ds.length none = ds.length := by unfold HT.sIx; simp
  rw [e1, e2]
  by_cases h : k ≤ ds.length
  · rw [Nat.min_eq_left h, List.take_of_length_le (by rw [List.length_drop]; omega)]
  · rw [Nat.min_eq_right (by omega), List.drop_of_length_le (by omega), List.drop_of_length_le (by omega), List.take_nil]
theorem cut_to {α : Type} (ds : List α) (k : Nat) : cutD ds none (some (k : Int)) = ds.take k := by
  unfold cutD
  have e1 : HT.sIx ds.length ds.length (some (k : Int)) = min k ds.length := by unfold HT.sIx; simp; omega
  have e2 : HT.sIx ds.length 0 none = 0 := by unfold HT.sIx; simp
  rw [e1, e2, List.drop_zero, Nat.sub_zero]
  by_cases h : k ≤ ds.length
  · rw [Nat.min_eq_left h]
  · rw [Nat.min_eq_right (by omega), List.take_of_length_le (Nat.le_refl _), List.take_of_length_le (by omega)]
theorem eqvL_nil {xs : List Dv} : eqvL xs [] = xs.isEmpty := by cases xs <;> rfl
theorem eqOk_nil {n : Nat} {xs : List Dv} : eqOk (n + 1) (.lsv xs) (.lsv []) = true := by cases xs <;> rfl
theorem eqOk_nilT {n : Nat} {xs : List Dv} : eqOk (n + 1) (.tup xs) (.tup []) = true := by cases xs <;> rfl
end DL
namespace K1
open PySem PySem.Spec L2 DL
open PyProof.Rows hiding St
theorem lc_nonwhole {σ : DS} {H : DH} {Q : DVK} {ys : List Dv} (e : σ[2]? = some (some (.tup ys))) (hp : pureL ys = true) (hz : ys.length < sizeLine) (hl : σ.length = 4) (q : Q (.lsv ((ys.drop 1).filter fun d => !isWhole d)) H) :
    dLcF (dWalk (dSlF (dVar 2) (dPart (dC (.int 1))) (dNoPart))) [3] (dgName 3) (dNotT (dTruth (dCall (sp__law_is_whole) [] (dCons (dVar 3) (dNil))))) (dVar 3) σ H Q := by
  have e1 : cutD ys (some 1) none = ys.drop 1 := cut_from ys 1
  have hzl : (cutD ys (some 1) none).length ≤ ys.length := by rw [e1, List.length_drop]; omega
  have pd : pureL (cutD ys (some 1) none) = true := pureL_cut hp _ _
  rw [← e1] at q
  refine ⟨_, e, ?_⟩
  refine ⟨fun i acc H' => H' = H ∧ acc = ((cutD ys (some 1) none).take i).filter fun d => !isWhole d, ⟨rfl, rfl⟩, fun _ _ _ _ _ => trivial, ?_, ?_⟩
  · rintro i acc H' hi ⟨rfl, rfl⟩
    have hi' : i < (cutD ys (some 1) none).length := hi
    have h3 : (wipeD σ [3]).length = 4 := by show (σ.set 3 none).length = 4; rw [List.length_set]; exact hl
    have v3 : ((wipeD σ [3]).set 3 (some (nth (cutD ys (some 1) none) i)))[3]? = some (some (nth (cutD ys (some 1) none) i)) := List.getElem?_set_self (by omega)
    refine ⟨_, v3, _, rfl, pureD_ok (pureL_nth pd hi'), fun w => ⟨_, v3, ?_, rfl, ?_⟩, fun w => ⟨rfl, ?_⟩⟩
    · refine Nat.lt_of_le_of_lt (List.length_filter_le _ _) ?_
      rw [List.length_take]; omega
    · rw [take_nth hi', List.filter_append, List.filter_cons, if_pos w]; rfl
    · rw [take_nth hi', List.filter_append, List.filter_cons, if_neg (by rw [w]; decide), List.filter_nil, List.append_nil]
  · rintro acc H' ⟨rfl, rfl⟩
    show Q (.lsv (((cutD ys (some 1) none).take (cutD ys (some 1) none).length).filter _)) H'
    rw [List.take_length]
    exact q
theorem rd_ifret {c : DTT} {e : DTE} {u : DTS} {D : DEnds} {σ : DS} {H : DH} (b : Bool) (h : ∀ Q : Bool → DH → Prop, Q b H → c σ H Q) (h1 : b = true → e σ H D.rt) (h2 : b = false → u D σ H) : dSeq (dIf c (dRet e) dNext) u D σ H := h _ ⟨h1, h2⟩
theorem t_nonwhole {σ : DS} {H : DH} {Q : Bool → DH → Prop} {ys : List Dv} (e : σ[2]? = some (some (.tup ys))) (hp : pureL ys = true) (hz : ys.length < sizeLine) (hl : σ.length = 4) (q : Q (!((ys.drop 1).filter fun d => !isWhole d).isEmpty) H) :
    dTest (dOp fNeA (dLcF (dWalk (dSlF (dVar 2) (dPart (dC (.int 1))) (dNoPart))) [3] (dgName 3) (dNotT (dTruth (dCall (sp__law_is_whole) [] (dCons (dVar 3) (dNil))))) (dVar 3)) (dLstF (dNil))) σ H Q :=
  have h := lc_nonwhole (Q := fun x H1 => dLstF dNil σ H1 fun y H2 => fNeA x y H2 fun d H3 => match d with | .bl k => Q k H3 | _ => False) e hp hz hl ⟨Nat.zero_le _, eqOk_nil, by
    have e1 : eqv (.lsv ((ys.drop 1).filter fun d => !isWhole d)) (.lsv []) = ((ys.drop 1).filter fun d => !isWhole d).isEmpty := eqvL_nil
    show Q (!(eqv (.lsv ((ys.drop 1).filter fun d => !isWhole d)) (.lsv []))) H
    rw [e1]; exact q⟩
  h
/-- where the loop of _law_is_straight stands -/
def invS (xs : List Dv) (H : DH) (i : Nat) (σ : DS) (H' : DH) : Prop := H' = H ∧ (∃ a b c, σ = [some (.tup xs), a, b, c]) ∧ ∀ j, j < i → ruleB (nth xs j) (j : Nat) = true
theorem rd__law_is_straight : ∀ ds H Q, sp__law_is_straight ds H Q → td__law_is_straight (outD Q) (startD 4 ds) H := by
  rintro ds H Q ⟨d, rfl, h, q⟩
  have fin := rd_bl q
  have ok := pureD_ok h
  have n4 := names4
  refine ⟨_, rfl, okK_of ok, ?_⟩
  cases d with
  | tup xs =>
    refine ⟨fun e => Bool.noConfusion (show false = true from e), fun _ => ⟨_, rfl, fun e1 => ⟨fun e2 => fin _ ?_, fun e2 => ?_⟩, fun e1 => ⟨fun e2 => fin _ ?_, fun e2 => Bool.noConfusion (show true = false from e2)⟩⟩⟩
    · simp [strB] at *; omega
    · have h1 : 1 ≤ xs.length := by simp at e1; omega
      have h2 : xs.length ≤ 4000 := by simp at e2; omega
      refine ⟨_, rfl, ⟨by omega, by omega⟩, invS xs H, ⟨rfl, ⟨_, _, _, rfl⟩, fun j hj => absurd hj (Nat.not_lt_zero _)⟩, fun _ _ _ _ _ => trivial, ?_, ?_⟩
      · rintro i σ H' hi ⟨rfl, ⟨a, b, c, rfl⟩, hp⟩
        have hi' : i < xs.length := by have : i < (xs.length : Int).toNat := hi; omega
        have ha : atI xs (0 + (i : Nat) * 1) = some (nth xs i) := by rw [show (0 + (i : Nat) * 1 : Int) = (i : Int) by omega, atI_at]; exact nth_at hi'
        refine ⟨_, rfl, _, rfl, _, ha, ?_⟩
        have bad : ruleB (nth xs i) i = false → strB (.tup xs) = false := fun hb => by
          cases hs : strB (.tup xs) with
          | false => rfl
          | true =>
            simp only [strB, Bool.and_eq_true, rulesB_iff] at hs
            have := hs.2 i hi'
            rw [Int.zero_add, hb] at this; cases this
        have fin1 : ∀ c, c = false → ruleB (nth xs i) i = false → (outD Q).rt (.bl c) H' := fun c e z => fin c (by rw [e, bad z])
        have fin2 : ∀ w, ruleB (nth xs i) i = true → invS xs H' (i + 1) [some (.tup xs), some (.int (0 + (i : Nat) * 1)), some (nth xs i), w] H' := fun w z =>
          ⟨rfl, ⟨_, _, _, rfl⟩, fun j hj => by
            by_cases hji : j < i
            · exact hp j hji
            · rw [show j = i by omega]; exact z⟩
        clear bad fin ha hp
        have hpu := pureL_nth (show pureL xs = true from h) hi'
        generalize nth xs i = d at *
        have big : (4 : Nat) < sizeLine := by decide +kernel
        cases d with
        | tup ys =>
          have hys : pureL ys = true := hpu
          match ys, hys with
          | [], _ => (repeat' (first | refine fin1 _ ?_ ?_ | refine fin2 _ ?_ | exact trivial | refine ⟨_, rfl, ?_⟩ | refine ⟨_, _, rfl, ?_⟩ | refine ⟨_, _, _, rfl, ?_⟩ | refine ⟨rfl, ?_⟩ | refine ⟨by assumption, ?_⟩ | refine ⟨trivial, ?_⟩ | refine ⟨fun e => Bool.noConfusion (show false = true from e), fun e => ?_⟩ | refine ⟨fun e => ?_, fun e => Bool.noConfusion (show true = false from e)⟩ | refine ⟨fun e => ?_, fun e => ?_⟩ | refine ⟨by decide +kernel, ?_⟩ | intro e)) <;> rfl
          | [a], h' =>
            have pa : pureD a = true := by simpa [pureL] using h'
            cases a with
            | str s =>
              dsimp only
              refine rd_ifret false (fun Q q => by (repeat' (first | exact q | exact trivial | refine ⟨_, rfl, ?_⟩ | refine ⟨_, _, rfl, ?_⟩ | refine ⟨_, _, _, rfl, ?_⟩ | refine ⟨rfl, ?_⟩ | refine ⟨by assumption, ?_⟩ | refine ⟨trivial, ?_⟩ | refine ⟨fun e => Bool.noConfusion (show false = true from e), fun e => ?_⟩ | refine ⟨fun e => ?_, fun e => Bool.noConfusion (show true = false from e)⟩ | refine ⟨fun e => ?_, fun e => ?_⟩ | refine ⟨by decide +kernel, ?_⟩ | intro e))) (fun e => Bool.noConfusion e) (fun _ => ?_)
              refine rd_ifret _ (fun Q q => t_nonwhole rfl h' (by show 1 < sizeLine; omega) rfl q) (fun e => fin1 _ rfl ?_) (fun e => ?_)
              · cases e
              · clear e
                (repeat' (first | refine fin1 _ ?_ ?_ | refine fin2 _ ?_ | exact trivial | refine ⟨_, rfl, ?_⟩ | refine ⟨_, _, rfl, ?_⟩ | refine ⟨_, _, _, rfl, ?_⟩ | refine ⟨rfl, ?_⟩ | refine ⟨by assumption, ?_⟩ | refine ⟨trivial, ?_⟩ | refine ⟨fun e => Bool.noConfusion (show false = true from e), fun e => ?_⟩ | refine ⟨fun e => ?_, fun e => Bool.noConfusion (show true = false from e)⟩ | refine ⟨fun e => ?_, fun e => ?_⟩ | refine ⟨by decide +kernel, ?_⟩ | intro e))
                all_goals (clear fin1 fin2; simp [ruleB, eqv, isWhole, wIn, letB, gt1] at * <;> grind)
            | ref _ => cases pa
            | ty _ => cases pa
            | _ => (repeat' (first | refine fin1 _ ?_ ?_ | refine fin2 _ ?_ | exact trivial | refine ⟨_, rfl, ?_⟩ | refine ⟨_, _, rfl, ?_⟩ | refine ⟨_, _, _, rfl, ?_⟩ | refine ⟨rfl, ?_⟩ | refine ⟨by assumption, ?_⟩ | refine ⟨trivial, ?_⟩ | refine ⟨fun e => Bool.noConfusion (show false = true from e), fun e => ?_⟩ | refine ⟨fun e => ?_, fun e => Bool.noConfusion (show true = false from e)⟩ | refine ⟨fun e => ?_, fun e => ?_⟩ | refine ⟨by decide +kernel, ?_⟩ | intro e)) <;> rfl
          | [a, b], h' =>
            have pa : pureD a = true ∧ pureD b = true := by simpa [pureL] using h'
            cases a with
            | str s =>
              dsimp only
              refine rd_ifret false (fun Q q => by (repeat' (first | exact q | exact trivial | refine ⟨_, rfl, ?_⟩ | refine ⟨_, _, rfl, ?_⟩ | refine ⟨_, _, _, rfl, ?_⟩ | refine ⟨rfl, ?_⟩ | refine ⟨by assumption, ?_⟩ | refine ⟨trivial, ?_⟩ | refine ⟨fun e => Bool.noConfusion (show false = true from e), fun e => ?_⟩ | refine ⟨fun e => ?_, fun e => Bool.noConfusion (show true = false from e)⟩ | refine ⟨fun e => ?_, fun e => ?_⟩ | refine ⟨by decide +kernel, ?_⟩ | intro e))) (fun e => Bool.noConfusion e) (fun _ => ?_)
              refine rd_ifret _ (fun Q q => t_nonwhole rfl h' (by show 2 < sizeLine; omega) rfl q) (fun e => fin1 _ rfl ?_) (fun e => ?_)
              · clear fin1 fin2; simp [ruleB] at e ⊢
                cases b <;> simp [isWhole, letB] at *
              · have ew : isWhole b = true := by clear fin1 fin2; simpa using e
                clear e
                cases b <;> first | (cases ew; done) | skip
                (repeat' (first | refine fin1 _ ?_ ?_ | refine fin2 _ ?_ | exact trivial | refine ⟨_, rfl, ?_⟩ | refine ⟨_, _, rfl, ?_⟩ | refine ⟨_, _, _, rfl, ?_⟩ | refine ⟨rfl, ?_⟩ | refine ⟨by assumption, ?_⟩ | refine ⟨trivial, ?_⟩ | refine ⟨fun e => Bool.noConfusion (show false = true from e), fun e => ?_⟩ | refine ⟨fun e => ?_, fun e => Bool.noConfusion (show true = false from e)⟩ | refine ⟨fun e => ?_, fun e => ?_⟩ | refine ⟨by decide +kernel, ?_⟩ | intro e))
                all_goals (clear fin1 fin2; simp [ruleB, eqv, isWhole, wIn, letB, gt1] at * <;> grind)
            | ref _ => cases pa.1
            | ty _ => cases pa.1
            | _ => (repeat' (first | refine fin1 _ ?_ ?_ | refine fin2 _ ?_ | exact trivial | refine ⟨_, rfl, ?_⟩ | refine ⟨_, _, rfl, ?_⟩ | refine ⟨_, _, _, rfl, ?_⟩ | refine ⟨rfl, ?_⟩ | refine ⟨by assumption, ?_⟩ | refine ⟨trivial, ?_⟩ | refine ⟨fun e => Bool.noConfusion (show false = true from e), fun e => ?_⟩ | refine ⟨fun e => ?_, fun e => Bool.noConfusion (show true = false from e)⟩ | refine ⟨fun e => ?_, fun e => ?_⟩ | refine ⟨by decide +kernel, ?_⟩ | intro e)) <;> rfl
          | [a, b, c], h' =>
            have pa : pureD a = true ∧ pureD b = true ∧ pureD c = true := by simpa [pureL] using h'
            cases a with
            | str s =>
              dsimp only
              refine rd_ifret false (fun Q q => by (repeat' (first | exact q | exact trivial | refine ⟨_, rfl, ?_⟩ | refine ⟨_, _, rfl, ?_⟩ | refine ⟨_, _, _, rfl, ?_⟩ | refine ⟨rfl, ?_⟩ | refine ⟨by assumption, ?_⟩ | refine ⟨trivial, ?_⟩ | refine ⟨fun e => Bool.noConfusion (show false = true from e), fun e => ?_⟩ | refine ⟨fun e => ?_, fun e => Bool.noConfusion (show true = false from e)⟩ | refine ⟨fun e => ?_, fun e => ?_⟩ | refine ⟨by decide +kernel, ?_⟩ | intro e))) (fun e => Bool.noConfusion e) (fun _ => ?_)
              refine rd_ifret _ (fun Q q => t_nonwhole rfl h' (by show 3 < sizeLine; omega) rfl q) (fun e => fin1 _ rfl ?_) (fun e => ?_)
              · clear fin1 fin2; simp [ruleB] at e ⊢
                cases b <;> simp [isWhole, letB, wIn, gt1] at * <;> (try (cases c <;> simp [isWhole, letB, wIn, gt1] at *))
              · have ew : isWhole b = true ∧ isWhole c = true := by clear fin1 fin2; simpa using e
                clear e
                cases b <;> first | (cases ew.1; done) | skip
                cases c <;> first | (cases ew.2; done) | skip
                (repeat' (first | refine fin1 _ ?_ ?_ | refine fin2 _ ?_ | exact trivial | refine ⟨_, rfl, ?_⟩ | refine ⟨_, _, rfl, ?_⟩ | refine ⟨_, _, _, rfl, ?_⟩ | refine ⟨rfl, ?_⟩ | refine ⟨by assumption, ?_⟩ | refine ⟨trivial, ?_⟩ | refine ⟨fun e => Bool.noConfusion (show false = true from e), fun e => ?_⟩ | refine ⟨fun e => ?_, fun e => Bool.noConfusion (show true = false from e)⟩ | refine ⟨fun e => ?_, fun e => ?_⟩ | refine ⟨by decide +kernel, ?_⟩ | intro e))
                all_goals (clear fin1 fin2; simp [ruleB, eqv, isWhole, wIn, letB, gt1] at * <;> grind)
            | ref _ => cases pa.1
            | ty _ => cases pa.1
            | _ => (repeat' (first | refine fin1 _ ?_ ?_ | refine fin2 _ ?_ | exact trivial | refine ⟨_, rfl, ?_⟩ | refine ⟨_, _, rfl, ?_⟩ | refine ⟨_, _, _, rfl, ?_⟩ | refine ⟨rfl, ?_⟩ | refine ⟨by assumption, ?_⟩ | refine ⟨trivial, ?_⟩ | refine ⟨fun e => Bool.noConfusion (show false = true from e), fun e => ?_⟩ | refine ⟨fun e => ?_, fun e => Bool.noConfusion (show true = false from e)⟩ | refine ⟨fun e => ?_, fun e => ?_⟩ | refine ⟨by decide +kernel, ?_⟩ | intro e)) <;> rfl
          | a :: b :: c :: e :: r, h' =>
            have hb : ruleB (.tup (a :: b :: c :: e :: r)) i = false := by simp [ruleB]
            have hg : decide (3 < ((a :: b :: c :: e :: r).length : Int)) = true := by simp; omega
            cases a with
            | str s => exact ⟨_, rfl, trivial, fun e => Bool.noConfusion (show false = true from e), fun _ => ⟨_, rfl, rfl, fun e => by simp [eqv] at e; omega, fun _ => ⟨_, rfl, _, atI_0, trivial, fun e => Bool.noConfusion (show false = true from e), fun _ => ⟨_, rfl, ⟨fun _ => fin1 _ rfl hb, fun e => Bool.noConfusion (hg.symm.trans e)⟩⟩⟩⟩⟩
            | ref _ => simp [pureL, pureD] at h'
            | ty _ => simp [pureL, pureD] at h'
            | _ => exact ⟨_, rfl, trivial, fun e => Bool.noConfusion (show false = true from e), fun _ => ⟨_, rfl, rfl, fun e => by simp [eqv] at e; omega, fun _ => ⟨_, rfl, _, atI_0, trivial, fun _ => ⟨fun _ => fin1 _ rfl hb, fun e => Bool.noConfusion (show true = false from e)⟩, fun e => Bool.noConfusion (show true = false from e)⟩⟩⟩
        | ref _ => cases hpu
        | ty _ => cases hpu
        | _ => (repeat' (first | refine fin1 _ ?_ ?_ | refine fin2 _ ?_ | exact trivial | refine ⟨_, rfl, ?_⟩ | refine ⟨_, _, rfl, ?_⟩ | refine ⟨_, _, _, rfl, ?_⟩ | refine ⟨rfl, ?_⟩ | refine ⟨by assumption, ?_⟩ | refine ⟨trivial, ?_⟩ | refine ⟨fun e => Bool.noConfusion (show false = true from e), fun e => ?_⟩ | refine ⟨fun e => ?_, fun e => Bool.noConfusion (show true = false from e)⟩ | refine ⟨fun e => ?_, fun e => ?_⟩ | refine ⟨by decide +kernel, ?_⟩ | intro e)) <;> rfl
      · rintro σ H' ⟨rfl, ⟨a, b, c, rfl⟩, hp⟩
        refine fin _ ?_
        simp only [strB]
        simp [rulesB_iff, h1, h2]
        intro j hj
        have := hp j (by show j < (xs.length : Int).toNat; omega)
        exact this.symm ▸ rfl
    · have : xs = [] := List.eq_nil_of_length_eq_zero (by have := of_decide_eq_false e1; omega)
      subst this; rfl
  | _ => exact ⟨fun _ => ⟨fun _ => fin _ rfl, fun e => Bool.noConfusion (show true = false from e)⟩, fun e => Bool.noConfusion (show true = false from e)⟩
end K1

set_option maxHeartbeats 4000000
namespace DL
open PySem PySem.Spec L2
open PyProof.Rows hiding St
theorem log2_lt {n a : Nat} (h : n < 2 ^ a) (ha : 0 < a) : n.log2 < a := by
  by_cases e : n = 0
  · subst e; simpa using ha
  · exact (Nat.log2_lt e).mpr h
theorem cmulW_of {i j : Int} (a b : Nat) (hi : i.natAbs < 2 ^ a) (hj : j.natAbs < 2 ^ b) (h : a + b ≤ 1000000) (ha : 0 < a := by decide) (hb : 0 < b := by decide) : CMulW i j := by
  have h1 := log2_lt hi ha
  have h2 := log2_lt hj hb
  unfold CMulW; omega
theorem cdivW_of {i j : Int} (b : Nat) (h0 : 0 < j) (hj : j.natAbs < 2 ^ b) (h : b ≤ 9000) (hb : 0 < b := by decide) : CDivW i j := by
  have h2 := log2_lt hj hb
  unfold CDivW; omega
theorem le_sz (n : Nat) (h : n ≤ 1000) : n ≤ sizeLine := Nat.le_trans h (by decide +kernel)
theorem nth_ints {ns : List Int} {i : Nat} (h : i < ns.length) : ∃ n, nth (ns.map .int) i = .int n := by
  refine ⟨ns[i], ?_⟩
  unfold nth
  rw [List.getD_eq_getElem?_getD, List.getElem?_map, List.getElem?_eq_getElem h]; rfl
end DL
namespace K1
open PySem PySem.Spec L2 DL
open PyProof.Rows hiding St
theorem rd__law_cup : ∀ ds H Q, sp__law_cup ds H Q → td__law_cup (outD Q) (startD 3 ds) H := by
  rintro ds H Q ⟨ns, rfl, hz, q⟩
  refine ⟨_, rfl, fun i σ H' => H' = H ∧ ∃ (b : Int) (c : Option Dv), σ = [some (.lsv (ns.map .int)), some (.int b), c] ∧ 0 ≤ b ∧ b < 2 ^ 40, ⟨rfl, 1, none, rfl, by decide, by decide⟩, fun _ _ _ _ _ => trivial, ?_, ?_⟩
  · rintro i σ H' hi ⟨rfl, b, c, rfl, hb, hb'⟩
    have hi' : i < ns.length := by have : i < (ns.map Dv.int).length := hi; simpa using this
    obtain ⟨n, e⟩ := nth_ints hi'
    have e' : (⟨(ns.map Dv.int).length, nth (ns.map .int), fun _ => True⟩ : DIt).f i = .int n := e
    show dgName 2 ((⟨(ns.map Dv.int).length, nth (ns.map .int), fun _ => True⟩ : DIt).f i) _ _ _
    rw [e']
    refine ⟨_, rfl, cmulW_of 40 5 (by omega) (by decide) (by decide), _, rfl, (by show (0 : Int) < 2147483629; decide), ⟨rfl, _, _, rfl, ?_, ?_⟩⟩
    · have := Int.emod_nonneg (b * 31 + n) (show (2147483629 : Int) ≠ 0 by decide)
      omega
    · have := Int.emod_lt_of_pos (b * 31 + n) (show (0 : Int) < 2147483629 by decide)
      omega
  · rintro σ H' ⟨rfl, b, c, rfl, hb, hb'⟩
    refine ⟨_, rfl, _, rfl, fun l hl => ⟨le_sz 4 (by decide), fun c hc => ?_⟩⟩
    have ne : l ≠ c := fun e => by subst e; rw [upD_same] at hc; cases hc
    have hcH : H' c = none := by rw [upD_ne (Ne.symm ne)] at hc; exact hc
    refine rd_out (q c _ hcH ⟨0, b, 0, l, ns, upD_same, ?_, Ne.symm ne, by decide, hb, hb', by decide, by decide⟩ fun a h => ?_)
    · rw [upD_ne ne, upD_same]
    · rw [upD_ne (fun e => h (by rw [e]; exact hcH)), upD_ne (fun e => h (by rw [e]; exact hl))]
/-- the cup's parts -/
structure CupS (c l : Addr) (H0 : DH) (d b k : Int) (ns : List Int) (H : DH) : Prop where
  cup : H c = some (.lst [.int d, .int b, .int k, .ref l])
  lst : H l = some (.lst (ns.map .int))
  fr : ∀ a, a ≠ c → a ≠ l → H a = H0 a
theorem CupS.put {c l : Addr} {H0 H : DH} {d b k : Int} {ns : List Int} (h : CupS c l H0 d b k ns H) (ne : c ≠ l) (d' b' k' : Int) : CupS c l H0 d' b' k' ns (upD H c (.lst [.int d', .int b', .int k', .ref l])) :=
  ⟨upD_same, by rw [upD_ne (Ne.symm ne)]; exact h.lst, fun a h1 h2 => by rw [upD_ne h1]; exact h.fr a h1 h2⟩
theorem CupS.to {c l : Addr} {H0 H : DH} {d b k : Int} {ns : List Int} {n : Nat} (h : CupS c l H0 d b k ns H) (e : ∃ d b k, H0 c = some (.lst [d, b, k, .ref l])) (ne : c ≠ l) (hd : 0 ≤ d) (hb : 0 ≤ b) (hb' : b < 2 ^ 40) (hk : 0 ≤ k) (hk' : k + n < 2 ^ 60) : CupTo c n H0 H :=
  ⟨⟨d, b, k, l, ns, h.cup, h.lst, ne, hd, hb, hb', hk, hk'⟩, l, e, ⟨_, _, _, h.cup⟩, h.fr⟩
theorem rd__law_sip : ∀ ds H Q, sp__law_sip ds H Q → td__law_sip (outD Q) (startD 4 ds) H := by
  rintro ds H Q ⟨c, m, n, rfl, hm, hl, ⟨d, b, k, l, ns, hc, hL, ne, hd, hb, hb', hk, hk'⟩, q⟩
  have eH : ∃ d b k, H c = some (.lst [d, b, k, .ref l]) := ⟨_, _, _, hc⟩
  refine ⟨fun σ' H' => ∃ (x : Option Dv) (d' : Int) (ns' : List Int), σ' = [some (.ref c), some (.int m), x, none] ∧ 0 ≤ d' ∧ CupS c l H d' b k ns' H', ?_, ?_⟩
  · refine ⟨_, rfl, _, _, hc, rfl, rfl, ?_⟩
    have stay : ∀ x, ∃ (x' : Option Dv) (d' : Int) (ns' : List Int), [some (.ref c), some (.int m), x, none] = [some (.ref c), some (.int m), x', none] ∧ 0 ≤ d' ∧ CupS c l H d' b k ns' H := fun x => ⟨x, d, ns, rfl, hd, hc, hL, fun _ _ _ => rfl⟩
    refine ⟨fun e => ?_, fun _ => ⟨fun e => Bool.noConfusion e, fun _ => stay _⟩⟩
    refine ⟨_, rfl, _, _, hc, rfl, Nat.zero_le _, _, hL, fun e => by rw [List.eq_nil_of_length_eq_zero e]; rfl, ?_⟩
    refine ⟨fun e2 => ?_, fun _ => stay _⟩
    cases ns with
    | nil => exact Bool.noConfusion (show false = true from e2)
    | cons n0 ns =>
      refine ⟨_, rfl, _, _, hc, rfl, ⟨_, hL⟩, _, 0, .int n0, hL, by decide, by decide, ?_, rfl, ?_⟩
      · simp [seqIndex?]
      · have h1 : CupS c l H d b k ns (upD H l (.lst ((List.map Dv.int (n0 :: ns)).eraseIdx 0))) := ⟨by rw [upD_ne ne]; exact hc, by rw [upD_same]; rfl, fun a h1 h2 => upD_ne h2⟩
        refine ⟨_, rfl, ⟨by decide, by decide, by decide⟩, fun e3 => ⟨_, rfl, ?_⟩, fun e3 => ?_⟩
        · exact ⟨_, rfl, _, 0, h1.cup, rfl, _, _, ns, rfl, by omega, h1.put ne _ _ _⟩
        · have hs : (n0.natAbs : Int) < 10 ^ 18 := by
            have := of_decide_eq_false e3
            have e : (10 : Int) ^ (18 : Int).toNat = 10 ^ 18 := rfl
            omega
          have hq : (n0.natAbs : Int) * (n0.natAbs : Int) / 97 < 2 ^ 120 := by
            have h2 : (n0.natAbs : Int) * (n0.natAbs : Int) ≤ 10 ^ 18 * 10 ^ 18 := Int.mul_le_mul (by omega) (by omega) (by omega) (by omega)
            omega
          have hp : (0 : Int) ≤ (n0.natAbs : Int) * (n0.natAbs : Int) := Int.mul_nonneg (by omega) (by omega)
          refine ⟨_, rfl, _, rfl, cmulW_of 60 60 (by omega) (by omega) (by decide), cdivW_of 7 (by decide) (by decide) (by decide), cmulW_of 120 16 (by omega) (by decide) (by decide), _, rfl, ?_⟩
          exact ⟨_, rfl, _, 0, h1.cup, rfl, _, _, ns, rfl, by omega, h1.put ne _ _ _⟩
  · rintro σ' H' ⟨x, d', ns', rfl, hd', hs⟩
    refine ⟨_, rfl, _, _, hs.cup, rfl, fun e => ?_, fun e => ?_⟩
    · refine ⟨_, rfl, _, _, hs.cup, rfl, _, rfl, hm, ?_⟩
      refine ⟨_, rfl, _, _, hs.cup, rfl, _, rfl, ⟨hm, hl⟩, _, rfl, _, 0, hs.cup, rfl, _, rfl, ?_⟩
      exact rd_out (q _ _ (Int.emod_nonneg _ (by omega)) (Int.emod_lt_of_pos _ hm) ((hs.put ne _ _ _).to eH ne (Int.ediv_nonneg hd' (by omega)) hb hb' hk (by omega)))
    · have h2 := hs.put ne d' b (k + 1)
      have hkk : (k + 1) * (k + 1) ≤ 2 ^ 60 * 2 ^ 60 := Int.mul_le_mul (by omega) (by omega) (by omega) (by omega)
      have hk0 : 0 ≤ (k + 1) * (k + 1) := Int.mul_nonneg (by omega) (by omega)
      refine ⟨_, rfl, _, _, hs.cup, rfl, _, rfl, _, 2, hs.cup, rfl, ?_⟩
      refine ⟨_, rfl, _, _, h2.cup, rfl, cmulW_of 40 15 (by omega) (by decide) (by decide), _, rfl, _, _, h2.cup, rfl, _, rfl, _, _, h2.cup, rfl, cmulW_of 60 60 (by omega) (by omega) (by decide), cmulW_of 121 13 (by omega) (by decide) (by decide), (by show (0 : Int) < 2147483647; decide), _, rfl, _, 1, h2.cup, rfl, ?_⟩
      have v0 := Int.emod_nonneg (b * 16807 + (k + 1) * (k + 1) * 4099 + 77) (show (2147483647 : Int) ≠ 0 by decide)
      have v1 := Int.emod_lt_of_pos (b * 16807 + (k + 1) * (k + 1) * 4099 + 77) (show (0 : Int) < 2147483647 by decide)
      have h3 := h2.put ne d' ((b * 16807 + (k + 1) * (k + 1) * 4099 + 77) % 2147483647) (k + 1)
      have v2 : (b * 16807 + (k + 1) * (k + 1) * 4099 + 77) % 2147483647 / 1009 + 5 < 2 ^ 40 := by omega
      refine ⟨_, rfl, _, _, h3.cup, rfl, _, rfl, _, _, h3.cup, rfl, cdivW_of 10 (by decide) (by decide) (by decide), cmulW_of 40 40 (by omega) (by omega) (by decide), (by show (0 : Int) < 2147483629; decide), cdivW_of 6 (by decide) (by decide) (by decide), _, rfl, hm, ?_⟩
      exact rd_out (q _ _ (Int.emod_nonneg _ (by omega)) (Int.emod_lt_of_pos _ hm) (h3.to eH ne hd' v0 (by omega) (by omega) (by omega)))
end K1

set_option maxHeartbeats 4000000
namespace DL
open PySem PySem.Spec L2
open PyProof.Rows hiding St
theorem cpow_of {i j : Int} (h : (decide (0 ≤ j) && decide (j ≤ 1000000) && decide (i.natAbs < 2 ^ 64)) = true) : CPow i j := by
  simp only [Bool.and_eq_true, decide_eq_true_eq] at h
  exact ⟨h.1.1, h.1.2, h.2⟩
theorem atI_mem {ds : List Dv} {i : Int} (h0 : 0 ≤ i) (h1 : i < ds.length) : ∃ d, atI ds i = some d ∧ d ∈ ds := by
  refine ⟨_, atI_nth h0 (by omega), ?_⟩
  exact List.mem_of_getElem? (nth_at (by omega))
theorem ix_any {L : List Dv} {r : Int} {H : DH} {Q : DVK} (h0 : 0 ≤ r) (h1 : r < (L.length : Int)) (q : ∀ d ∈ L, Q d H) : fIx (.lsv L) (.int r) H Q := by
  obtain ⟨d, e, m⟩ := atI_mem h0 h1
  exact ⟨d, e, q d m⟩
/-! the cup -/
theorem CupAt.le {c : Addr} {m n : Nat} {H : DH} (h : CupAt c n H) (le : m ≤ n) : CupAt c m H := by
  obtain ⟨d, b, k, l, ns, h1, h2, h3, h4, h5, h6, h7, h8⟩ := h
  exact ⟨d, b, k, l, ns, h1, h2, h3, h4, h5, h6, h7, by omega⟩
theorem CupTo.le {c : Addr} {m n : Nat} {H H' : DH} (h : CupTo c n H H') (le : m ≤ n) : CupTo c m H H' := ⟨h.1.le le, h.2⟩
theorem CupTo.trans {c : Addr} {m n : Nat} {H H1 H2 : DH} (h : CupTo c n H H1) (h' : CupTo c m H1 H2) : CupTo c m H H2 := by
  obtain ⟨_, l, e0, ⟨d1, b1, k1, e1⟩, f1⟩ := h
  obtain ⟨a2, l', ⟨d2, b2, k2, e2⟩, e3, f2⟩ := h'
  rw [e1] at e2
  cases e2
  exact ⟨a2, l, e0, e3, fun a h1 h2 => (f2 a h1 h2).trans (f1 a h1 h2)⟩
theorem CupAt.self {c : Addr} {n : Nat} {H : DH} (h : CupAt c n H) : CupTo c n H H := by
  obtain ⟨d, b, k, l, ns, h1, h2⟩ := h
  exact ⟨⟨d, b, k, l, ns, h1, h2⟩, l, ⟨_, _, _, h1⟩, ⟨_, _, _, h1⟩, fun _ _ _ => rfl⟩
theorem pureL_cons {d : Dv} {ds : List Dv} (h : pureD d = true) (h' : pureL ds = true) : pureL (d :: ds) = true := by rw [pureL, h, h']; rfl
theorem pureT {ds : List Dv} (h : pureL ds = true) : pureD (.tup ds) = true := h
theorem pureL_app {ds es : List Dv} (h : pureL ds = true) (h' : pureL es = true) : pureL (ds ++ es) = true := by rw [pureL_append, h, h']; rfl
theorem cut_len {α : Type} (ds : List α) (lo hi : Option Int) : (cutD ds lo hi).length ≤ ds.length := by
  unfold cutD
  rw [List.length_take, List.length_drop]; omega
theorem log2_nat {n a : Nat} (h : n < 2 ^ a) (ha : 0 < a) : (n : Int).natAbs.log2 < a := by
  rw [Int.natAbs_natCast]; exact log2_lt h ha
end DL
namespace K1
open PySem PySem.Spec L2 DL
open PyProof.Rows hiding St
theorem rd__law_near_one : ∀ ds H Q, sp__law_near_one ds H Q → td__law_near_one (outD Q) (startD 5 ds) H := by
  rintro ds H Q ⟨c, xs, n, rfl, hp, h1, h2, hc, q⟩
  refine ⟨_, rfl, _, rfl, _, _, _, rfl, by omega, ?_, hc, fun r H1 r0 r1 t1 => ?_⟩
  · exact Nat.lt_of_lt_of_le (log2_nat (a := 10) (by omega) (by decide)) (by decide)
  (repeat' (first | exact trivial | refine ⟨_, rfl, ?_⟩ | refine ⟨le_sz _ (Nat.le_of_ble_eq_true rfl), ?_⟩ | refine ⟨cpow_of rfl, ?_⟩ | refine ⟨rfl, ?_⟩ | fail))
  refine ⟨_, _, _, rfl, by decide, by decide +kernel, t1.1, fun r' H2 s0 s1 t2 => ?_⟩
  refine ix_any s0 s1 fun d hm => ?_
  refine ⟨le_sz 1 (by decide), ?_⟩
  have pd : pureD d = true := pureL_mem rfl hm
  have l1 := cut_len xs none (some r)
  have l2 := cut_len xs (some (r + 1)) none
  have big : 4000 ≤ sizeLine := by decide +kernel
  refine ⟨(show (cutD xs none (some r)).length + 1 ≤ sizeLine by omega), _, rfl, _, rfl, (by rw [List.length_append]; show (cutD xs none (some r)).length + 1 + (cutD xs (some (r + 1)) none).length ≤ sizeLine; omega), ?_⟩
  exact rd_out (q _ _ (pureT (pureL_app (pureL_app (pureL_cut hp _ _) (pureL_cons pd rfl)) (pureL_cut hp _ _))) (t1.trans t2))
end K1

set_option maxHeartbeats 4000000
namespace DL
open PySem PySem.Spec L2
open PyProof.Rows hiding St
theorem ix_pure {L : List Dv} {r : Int} {H : DH} {Q : DVK} (h0 : 0 ≤ r) (h1 : r < (L.length : Int)) (hp : pureL L = true) (q : ∀ d, pureD d = true → Q d H) : fIx (.lsv L) (.int r) H Q :=
  ix_any h0 h1 fun d m => q d (pureL_mem hp m)
theorem pureL_rev {ds : List Dv} : pureL ds.reverse = pureL ds := by
  rw [pureL_all, pureL_all, List.all_reverse]
theorem rd_ifH {c : DTT} {t v u : DTS} {D : DEnds} {σ : DS} {H : DH} (M1 M0 : DH → Prop) (h : ∀ Q : Bool → DH → Prop, (∀ H1, M1 H1 → Q true H1) → (∀ H1, M0 H1 → Q false H1) → c σ H Q) (h1 : ∀ H1, M1 H1 → t { D with nx := u D } σ H1) (h0 : ∀ H1, M0 H1 → v { D with nx := u D } σ H1) : dSeq (dIf c t v) u D σ H :=
  h _ (fun H1 m => ⟨fun _ => h1 H1 m, fun e => Bool.noConfusion e⟩) (fun H1 m => ⟨fun e => Bool.noConfusion e, fun _ => h0 H1 m⟩)
theorem scal_pure {d : Dv} (h : scal d) : pureD d = true := by cases d <;> first | rfl | cases h
theorem bendy_pure : ∀ {n : Nat} {d : Dv}, bendy n d → pureD d = true
  | 0, d, h => scal_pure (by unfold bendy at h; exact h)
  | n + 1, .tup xs, h => by
    unfold bendy at h
    show pureL xs = true
    rw [pureL_all, List.all_eq_true]
    exact fun d m => bendy_pure (h.2 d m)
  | n + 1, .non, h => rfl
  | n + 1, .int _, h => rfl
  | n + 1, .str _, h => rfl
  | n + 1, .bl _, h => rfl
  | n + 1, .lsv _, h => by unfold bendy at h; exact h.elim
  | n + 1, .ref _, h => by unfold bendy at h; exact h.elim
  | n + 1, .ty _, h => by unfold bendy at h; exact h.elim
theorem atI_some {ds : List Dv} {i : Int} (h0 : 0 ≤ i) (h1 : i < ds.length) : ∃ d, atI ds i = some d ∧ d ∈ ds := atI_mem h0 h1
theorem log2_len {n : Nat} (h : n ≤ 1000000) : (n : Int).natAbs.log2 < 9000 := Nat.lt_of_lt_of_le (log2_nat (a := 20) (by omega) (by decide)) (by decide)
end DL
namespace K1
open PySem PySem.Spec L2 DL
open PyProof.Rows hiding St
theorem rd__law_bent (n : Nat) : ∀ ds H Q, sp_bent (n + 1) ds H Q → td__law_bent n (outD Q) (startD 5 ds) H := by
  rintro ds H Q ⟨c, d, m, rfl, hb, hc, q⟩
  have hpd := bendy_pure hb
  have big : 40000 ≤ sizeLine := by decide +kernel
  cases d with
  | tup xs =>
    cases n with
    | zero => exact absurd hb (by unfold bendy; exact id)
    | succ n =>
      have hx : xs.length ≤ 1000 := by unfold bendy at hb; exact hb.1
      have hall : ∀ x ∈ xs, bendy n x := by unfold bendy at hb; exact hb.2
      have hp : pureL xs = true := hpd
      refine rd_ifH (fun H1 => xs ≠ [] ∧ CupTo c (m + 3 * (n + 1) + 2) H H1) (fun H1 => CupTo c (m + 3) H H1) ?_ ?_ ?_
      · intro Q q1 q0
        refine ⟨_, rfl, trivial, fun _ => ⟨_, rfl, le_sz 0 (by decide), eqOk_nilT, fun e => ?_, fun e => q0 _ (hc.self.le (by omega))⟩, fun e => Bool.noConfusion (show true = false from e)⟩
        refine ⟨_, rfl, _, _, m + 3 * (n + 1) + 2, rfl, by decide, by decide +kernel, hc.le (by omega), fun r H1 r0 r1 t => ?_⟩
        show Q (decide (0 < r)) H1
        cases decide (0 < r) with
        | true => exact q1 _ ⟨fun z => by subst z; exact Bool.noConfusion (show false = true from e), t⟩
        | false => exact q0 _ (t.le (by omega))
      · rintro H1 ⟨hne, t1⟩
        have hpos : 0 < xs.length := List.length_pos_iff.mpr hne
        refine ⟨_, rfl, _, rfl, _, _, m + 3 * (n + 1) + 1, rfl, by omega, log2_len (by omega), t1.1, fun r H2 r0 r1 t2 => ?_⟩
        obtain ⟨d', hd, hm⟩ := atI_some r0 r1
        have l1 := cut_len xs none (some r)
        have l2 := cut_len xs (some (r + 1)) none
        refine ⟨_, rfl, _, rfl, _, rfl, _, rfl, _, rfl, d', hd, _, _, m, rfl, hall d' hm, t2.1.le (by omega), fun d'' H3 pd t3 => ?_⟩
        refine ⟨le_sz 1 (by decide), (show (cutD xs none (some r)).length + 1 ≤ sizeLine by omega), _, rfl, _, rfl, (by rw [List.length_append]; show (cutD xs none (some r)).length + 1 + (cutD xs (some (r + 1)) none).length ≤ sizeLine; omega), ?_⟩
        exact rd_out (q _ _ (pureT (pureL_app (pureL_app (pureL_cut hp _ _) (pureL_cons pd rfl)) (pureL_cut hp _ _))) ((t1.trans t2).trans t3))
      · intro H1 t1
        refine ⟨_, rfl, trivial, fun _ => ?_, fun e => Bool.noConfusion (show true = false from e)⟩
        refine ⟨_, rfl, _, rfl, _, _, m + 2, rfl, by omega, by rw [show (xs.length : Int) + 1 = ((xs.length + 1 : Nat) : Int) from rfl]; exact log2_len (by omega), t1.1, fun r H2 r0 r1 t2 => ?_⟩
        refine ⟨_, rfl, _, rfl, _, _, m + 1, rfl, by omega, by rw [show (xs.length : Int) + 1 = ((xs.length + 1 : Nat) : Int) from rfl]; exact log2_len (by omega), t2.1, fun r' H3 s0 s1 t3 => ?_⟩
        have l1 := cut_len xs none (some r)
        have l2 := cut_len xs (some (r + 1)) none
        have l3 := cut_len xs (some r) (some (r + 1))
        have l4 := cut_len xs (some r) none
        have l5 := cut_len xs (some r') (some (r' + 1))
        (repeat' (first | refine ⟨_, rfl, ?_⟩ | refine ⟨le_sz _ (Nat.le_of_ble_eq_true rfl), ?_⟩ | refine ⟨rfl, ?_⟩ | refine And.intro (show _ ≤ sizeLine by (try simp only [List.length_append, List.length_cons, List.length_nil]); omega) ?_ | fail))
        refine ⟨_, _, m, rfl, by decide, by decide +kernel, t3.1, fun r3 H4 u0 u1 t4 => ?_⟩
        refine ix_pure u0 u1 ?_ fun d hd => rd_out (q _ _ hd (((t1.trans t2).trans t3).trans t4))
        simp [pureL, pureD, pureL_append, pureL_cut hp, pureL_rev, hp]
  | int i =>
    have hi : i.natAbs < 2 ^ 1900 := by cases n <;> (unfold bendy at hb; exact hb)
    have hl : i.natAbs.log2 < 1920 := Nat.lt_trans (log2_lt hi (by decide)) (by decide)
    have hm : CMulW i 2 := cmulW_of 1900 2 hi (by decide) (by decide)
    refine ⟨_, rfl, trivial, fun e => Bool.noConfusion (show false = true from e), fun _ => ⟨fun e => Bool.noConfusion e, fun _ => ⟨_, rfl, trivial, fun e => Bool.noConfusion (show false = true from e), fun _ => ?_⟩⟩⟩
    (repeat' (first | refine ⟨_, rfl, ?_⟩ | refine ⟨le_sz _ (Nat.le_of_ble_eq_true rfl), ?_⟩ | refine ⟨cpow_of rfl, ?_⟩ | refine And.intro hl ?_ | refine And.intro hm ?_ | refine And.intro trivial ?_ | refine And.intro (fun _ => ?_) (fun e => Bool.noConfusion (show true = false from e)) | refine ⟨rfl, ?_⟩ | fail))
    refine ⟨_, _, m, rfl, Int.natCast_pos.mpr (Nat.zero_lt_succ _), log2_len (Nat.le_of_ble_eq_true rfl), hc.le (by omega), fun r H1 r0 r1 t1 => ?_⟩
    exact ix_pure r0 r1 rfl fun d hd => rd_out (q _ _ hd t1)
  | str x =>
    refine ⟨_, rfl, trivial, fun e => Bool.noConfusion (show false = true from e), fun _ => ⟨fun e => Bool.noConfusion e, fun _ => ⟨_, rfl, trivial, fun e => Bool.noConfusion (show false = true from e), fun _ => ?_⟩⟩⟩
    (repeat' (first | refine ⟨_, rfl, ?_⟩ | refine ⟨le_sz _ (Nat.le_of_ble_eq_true rfl), ?_⟩ | refine ⟨cpow_of rfl, ?_⟩ | refine And.intro trivial ?_ | refine And.intro (fun e => Bool.noConfusion (show false = true from e)) (fun _ => ?_) | refine ⟨rfl, ?_⟩ | fail))
    refine ⟨_, _, m, rfl, Int.natCast_pos.mpr (Nat.zero_lt_succ _), log2_len (Nat.le_of_ble_eq_true rfl), hc.le (by omega), fun r H1 r0 r1 t1 => ?_⟩
    exact ix_pure r0 r1 rfl fun d hd => rd_out (q _ _ hd t1)
  | non =>
    refine ⟨_, rfl, trivial, fun e => Bool.noConfusion (show false = true from e), fun _ => ⟨fun e => Bool.noConfusion e, fun _ => ⟨_, rfl, trivial, fun e => Bool.noConfusion (show false = true from e), fun _ => ?_⟩⟩⟩
    (repeat' (first | refine ⟨_, rfl, ?_⟩ | refine ⟨le_sz _ (Nat.le_of_ble_eq_true rfl), ?_⟩ | refine ⟨cpow_of rfl, ?_⟩ | refine And.intro trivial ?_ | refine And.intro (fun e => Bool.noConfusion (show false = true from e)) (fun _ => ?_) | refine ⟨rfl, ?_⟩ | fail))
    refine ⟨_, _, m, rfl, Int.natCast_pos.mpr (Nat.zero_lt_succ _), log2_len (Nat.le_of_ble_eq_true rfl), hc.le (by omega), fun r H1 r0 r1 t1 => ?_⟩
    exact ix_pure r0 r1 rfl fun d hd => rd_out (q _ _ hd t1)
  | _ => exact absurd hb (by cases n <;> exact id)
end K1

set_option maxHeartbeats 4000000
namespace DL
open PySem PySem.Spec L2
open PyProof.Rows hiding St
theorem CupAt.on {c l : Addr} {n : Nat} {H H' : DH} {d b k : Dv} (h : CupAt c n H) (e : H c = some (.lst [d, b, k, .ref l])) (e1 : H' c = H c) (e2 : H' l = H l) : CupAt c n H' := by
  obtain ⟨d', b', k', l', ns, h1, h2, h3⟩ := h
  rw [e] at h1
  cases h1
  exact ⟨d', b', k', l, ns, by rw [e1]; exact e, by rw [e2]; exact h2, h3⟩
theorem max_b0 {x : Int} : 0 ≤ (if x > 0 then x else 0) := by split <;> omega
theorem max_b1 {L : Nat} {r : Int} (hL : 1 ≤ L) (h0 : 0 ≤ r) : (if (L : Int) - 1 - r > 0 then (L : Int) - 1 - r else 0) < L := by split <;> omega
theorem getD_l {ss ts : List Int} {i : Nat} (h : i < ss.length) : (ss ++ ts).getD i 0 = ss.getD i 0 := by
  rw [List.getD_eq_getElem?_getD, List.getD_eq_getElem?_getD, List.getElem?_append_left h]
theorem getD_r {ss : List Int} {x : Int} : (ss ++ [x]).getD ss.length 0 = x := by
  rw [List.getD_eq_getElem?_getD, List.getElem?_append_right (Nat.le_refl _), Nat.sub_self]; rfl
/-- while a text is made: the cup, the rules, the sizes -/
structure TS (c l p q : Addr) (n : Nat) (H0 : DH) (rs ss : List Dv) (H : DH) : Prop where
  cu : CupAt c n H
  lk : ∃ d b k, H c = some (.lst [d, b, k, .ref l])
  pp : H p = some (.lst rs)
  qq : H q = some (.lst ss)
  fr : ∀ a, a ≠ c → a ≠ l → a ≠ p → a ≠ q → H a = H0 a
structure NeS (c l p q : Addr) (H0 : DH) : Prop where
  pc : p ≠ c
  pl : p ≠ l
  qc : q ≠ c
  ql : q ≠ l
  pq : p ≠ q
  np : H0 p = none
  nq : H0 q = none
  lk : ∃ d b k, H0 c = some (.lst [d, b, k, .ref l])
section
variable {c l p q : Addr} {n m : Nat} {H0 H H' : DH} {rs ss : List Dv}
theorem TS.sip (s : TS c l p q n H0 rs ss H) (N : NeS c l p q H0) (t : CupTo c m H H') : TS c l p q m H0 rs ss H' := by
  obtain ⟨a, l', ⟨d2, b2, k2, e2⟩, e3, f⟩ := t
  obtain ⟨d, b, k, e⟩ := s.lk
  rw [e] at e2
  cases e2
  exact ⟨a, e3, by rw [f p N.pc N.pl]; exact s.pp, by rw [f q N.qc N.ql]; exact s.qq, fun x h1 h2 h3 h4 => by rw [f x h1 h2]; exact s.fr x h1 h2 h3 h4⟩
theorem TS.putp (s : TS c l p q n H0 rs ss H) (N : NeS c l p q H0) (rs' : List Dv) : TS c l p q n H0 rs' ss (upD H p (.lst rs')) := by
  obtain ⟨d, b, k, e⟩ := s.lk
  exact ⟨s.cu.on e (upD_ne N.pc.symm) (upD_ne N.pl.symm), ⟨d, b, k, by rw [upD_ne N.pc.symm]; exact e⟩, upD_same, by rw [upD_ne N.pq.symm]; exact s.qq, fun x h1 h2 h3 h4 => by rw [upD_ne h3]; exact s.fr x h1 h2 h3 h4⟩
theorem TS.putq (s : TS c l p q n H0 rs ss H) (N : NeS c l p q H0) (ss' : List Dv) : TS c l p q n H0 rs ss' (upD H q (.lst ss')) := by
  obtain ⟨d, b, k, e⟩ := s.lk
  exact ⟨s.cu.on e (upD_ne N.qc.symm) (upD_ne N.ql.symm), ⟨d, b, k, by rw [upD_ne N.qc.symm]; exact e⟩, by rw [upD_ne N.pq]; exact s.pp, upD_same, fun x h1 h2 h3 h4 => by rw [upD_ne h4]; exact s.fr x h1 h2 h3 h4⟩
theorem TS.le (s : TS c l p q n H0 rs ss H) (h : m ≤ n) : TS c l p q m H0 rs ss H := { s with cu := s.cu.le h }
/-- the end: the two lists are let go -/
theorem TS.out (s : TS c l p q n H0 rs ss H) (N : NeS c l p q H0) : ∃ Hg, Sub Hg H ∧ CupTo c n H0 Hg := by
  obtain ⟨d, b, k, e⟩ := s.lk
  refine ⟨fun a => if a = p ∨ a = q then none else H a, fun a o h => ?_, ?_⟩
  · have h : (if a = p ∨ a = q then none else H a) = some o := h
    by_cases z : a = p ∨ a = q
    · rw [if_pos z] at h; cases h
    · rw [if_neg z] at h; exact h
  · have ec : (if c = p ∨ c = q then none else H c) = H c := if_neg fun z => z.elim (fun z => N.pc z.symm) fun z => N.qc z.symm
    have el : (if l = p ∨ l = q then none else H l) = H l := if_neg fun z => z.elim (fun z => N.pl z.symm) fun z => N.ql z.symm
    refine ⟨s.cu.on e ec el, l, N.lk, ⟨d, b, k, ec.trans e⟩, fun a h1 h2 => ?_⟩
    show (if a = p ∨ a = q then none else H a) = H0 a
    by_cases z : a = p ∨ a = q
    · rw [if_pos z]
      rcases z with z | z
      · rw [z, N.np]
      · rw [z, N.nq]
    · rw [if_neg z]
      exact s.fr a h1 h2 (fun y => z (.inl y)) fun y => z (.inr y)
end
theorem Rl.ok_le {n m : Nat} (h : n ≤ m) {r : Rl} (o : r.ok n) : r.ok m := by
  cases r <;> simp only [Rl.ok] at o ⊢ <;> omega
theorem Rl.sz_app {n : Nat} {ss : List Int} {x : Int} {r : Rl} (o : r.ok n) (h : n ≤ ss.length) : r.sz (ss ++ [x]) = r.sz ss := by
  cases r <;> simp only [Rl.ok, Rl.sz] at o ⊢
  · rw [getD_l (by omega), getD_l (by omega)]
  · rw [getD_l (by omega)]
theorem TextOk.snoc {rs : List Rl} {ss : List Int} {cap : Int} (t : TextOk rs ss cap) {r : Rl} {s : Int} (o : r.ok rs.length) (e : s = r.sz ss) (h0 : 0 ≤ s) (h1 : s ≤ cap ∨ s ≤ 1) : TextOk (rs ++ [r]) (ss ++ [s]) cap := by
  refine ⟨by rw [List.length_append, List.length_append, t.1]; rfl, fun n x hx => ?_⟩
  by_cases hn : n < rs.length
  · rw [List.getElem?_append_left hn] at hx
    obtain ⟨a, b, d, e⟩ := t.2 n x hx
    have : n < ss.length := by rw [← t.1]; exact hn
    rw [getD_l this, Rl.sz_app a (by omega)]
    exact ⟨a, b, d, e⟩
  · rw [List.getElem?_append_right (by omega)] at hx
    have hz : n - rs.length = 0 := by
      cases k : n - rs.length with
      | zero => rfl
      | succ k' => rw [k] at hx; cases hx
    rw [hz] at hx
    cases hx
    have en : n = rs.length := by omega
    subst en
    rw [Rl.sz_app o (by rw [t.1]; exact Nat.le_refl _), t.1, getD_r]
    rw [t.1] at o
    exact ⟨o, e, h0, h1⟩
theorem CupAt.keep {c : Addr} {n : Nat} {H H' : DH} (h : CupAt c n H) (f : ∀ a, H a ≠ none → H' a = H a) : CupAt c n H' := by
  obtain ⟨d, b, k, l, ns, h1, h2, h3⟩ := h
  exact ⟨d, b, k, l, ns, by rw [f c (by rw [h1]; exact fun z => nomatch z)]; exact h1, by rw [f l (by rw [h2]; exact fun z => nomatch z)]; exact h2, h3⟩
theorem log2_int {m : Int} (h0 : 0 ≤ m) (h : m ≤ 1000000) : m.natAbs.log2 < 9000 := by
  obtain ⟨k, rfl⟩ := Int.eq_ofNat_of_zero_le h0
  exact log2_len (by omega)
/-- a rule that may be laid down next -/
structure Good (rs : List Rl) (ss : List Int) (cap : Int) (r : Rl) (s : Int) : Prop where
  ok : r.ok rs.length
  sz : s = r.sz ss
  n0 : 0 ≤ s
  le : s ≤ cap ∨ s ≤ 1
/-- the slots of _law_text -/
def slT (c p q : Addr) (many : Nat) (cap K : Int) (r : List (Option Dv)) : DS := some (.ref c) :: some (.int (many : Nat)) :: some (.int cap) :: some (.int K) :: some (.ref p) :: some (.ref q) :: r
end DL
namespace K1
open PySem PySem.Spec L2 DL
open PyProof.Rows hiding St
theorem at_sz {ss : List Int} {i : Nat} (h : i < ss.length) : atI (ss.map Dv.int) (i : Int) = some (.int (ss.getD i 0)) := by
  rw [atI_at, List.getElem?_map, List.getElem?_eq_getElem h, List.getD_eq_getElem?_getD, List.getElem?_eq_getElem h]; rfl
theorem text_second {D : DEnds} {c p q l : Addr} {many : Nat} {cap K way k : Int} {i j : Int} {n : Nat} {rs : List Rl} {ss : List Int} {H0 H : DH} {w6 x10 : Option Dv} {r : Rl} {sz : Int} (hcap : cap < 2 ^ 1000) (tx : TextOk rs ss cap) (hi0 : 0 ≤ i) (hi : i < rs.length) (hk : 2 ≤ k) (hk' : k < 2 ^ 70)
    (g : Good rs ss cap r sz) (s8 : TS c l p q n H0 (rs.map Rl.D) (ss.map .int) H) (nx : ∀ r sz, Good rs ss cap r sz → D.nx (slT c p q many cap K [w6, some (.int way), some (Rl.D r), some (.int sz), x10, some (.int i), some (.int j), some (.int k)]) H) :
    dIf (dAndT (dTest (dOp fGt (dVar 7) (dC (.int 9)))) (dTest (dOp fLe (dOp fMulF (dOp fIx (dVar 5) (dVar 11)) (dVar 13)) (dVar 2)))) (dPar [8, 9] (dCons (dTup (dCons (dC (.str "power")) (dCons (dVar 11) (dCons (dVar 13) (dNil))))) (dCons (dOp fMulF (dOp fIx (dVar 5) (dVar 11)) (dVar 13)) (dNil)))) (dNext) D (slT c p q many cap K [w6, some (.int way), some (Rl.D r), some (.int sz), x10, some (.int i), some (.int j), some (.int k)]) H := by
  obtain ⟨i, rfl⟩ := Int.eq_ofNat_of_zero_le hi0
  have hi : i < rs.length := by omega
  have hi' : i < ss.length := by rw [← tx.1]; exact hi
  obtain ⟨_, _, z0, z1⟩ := tx.2 i rs[i] (List.getElem?_eq_getElem hi)
  have hm : CMulW (ss.getD i 0) k := cmulW_of 1000 70 (by omega) (by omega) (by decide)
  have p0 : 0 ≤ ss.getD i 0 * k := Int.mul_nonneg z0 (by omega)
  refine ⟨_, rfl, fun e => ?_, fun _ => ⟨fun e => Bool.noConfusion e, fun _ => nx _ _ g⟩⟩
  refine ⟨_, rfl, _, rfl, _, _, s8.qq, at_sz hi', _, rfl, hm, _, rfl, fun e5 => ?_, fun _ => nx _ _ g⟩
  refine ⟨_, rfl, _, rfl, le_sz 3 (by decide), _, rfl, _, rfl, _, _, s8.qq, at_sz hi', _, rfl, hm, rfl, nx (.pw i k) _ ⟨⟨hi, hk, hk'⟩, rfl, p0, .inl (of_decide_eq_true e5)⟩⟩
theorem text_third {D : DEnds} {c p q l : Addr} {many : Nat} {cap K way : Int} {i j : Int} {n : Nat} {rs : List Rl} {ss : List Int} {H0 H : DH} {w6 x10 x13 : Option Dv} {r : Rl} {sz : Int} (N : NeS c l p q H0) (hcap : cap < 2 ^ 1000) (tx : TextOk rs ss cap) (hi0 : 0 ≤ i) (hi : i < rs.length) (hj0 : 0 ≤ j) (hj : j < rs.length)
    (g1 : Good rs ss cap r sz) (s11 : TS c l p q (n + 3) H0 (rs.map Rl.D) (ss.map .int) H) (fin : ∀ r sz x k H', Good rs ss cap r sz → TS c l p q n H0 (rs.map Rl.D) (ss.map .int) H' → D.nx (slT c p q many cap K [w6, some (.int way), some (Rl.D r), some (.int sz), x, some (.int i), some (.int j), some (.int k)]) H') :
    (dSeq (dSet 13 (dOp fIx (dLstF (dCons (dC (.int 2)) (dCons (dC (.int 3)) (dCons (dOp fAddF (dC (.int 2)) (dCall (sp__law_sip) [] (dCons (dVar 0) (dCons (dC (.int 40)) (dNil))))) (dCons (dOp fAddF (dC (.int 2)) (dCall (sp__law_sip) [] (dCons (dVar 0) (dCons (dOp fPow (dC (.int 10)) (dC (.int 20))) (dNil))))) (dNil)))))) (dCall (sp__law_sip) [] (dCons (dVar 0) (dCons (dC (.int 4)) (dNil))))))
    (dSeq (dIf (dAndT (dTest (dOp fLt (dVar 7) (dC (.int 10)))) (dTest (dOp fLe (dOp fAddF (dOp fIx (dVar 5) (dVar 11)) (dOp fIx (dVar 5) (dVar 12))) (dVar 2)))) (dPar [8, 9] (dCons (dTup (dCons (dC (.str "pair")) (dCons (dVar 11) (dCons (dVar 12) (dNil))))) (dCons (dOp fAddF (dOp fIx (dVar 5) (dVar 11)) (dOp fIx (dVar 5) (dVar 12))) (dNil)))) (dNext))
    (dIf (dAndT (dTest (dOp fGt (dVar 7) (dC (.int 9)))) (dTest (dOp fLe (dOp fMulF (dOp fIx (dVar 5) (dVar 11)) (dVar 13)) (dVar 2)))) (dPar [8, 9] (dCons (dTup (dCons (dC (.str "power")) (dCons (dVar 11) (dCons (dVar 13) (dNil))))) (dCons (dOp fMulF (dOp fIx (dVar 5) (dVar 11)) (dVar 13)) (dNil)))) (dNext)))) D (slT c p q many cap K [w6, some (.int way), some (Rl.D r), some (.int sz), x10, some (.int i), some (.int j), x13]) H := by
  obtain ⟨i1, rfl⟩ := Int.eq_ofNat_of_zero_le hi0
  obtain ⟨j1, rfl⟩ := Int.eq_ofNat_of_zero_le hj0
  have hi1 : i1 < rs.length := by omega
  have hj1 : j1 < rs.length := by omega
  refine ⟨_, rfl, _, _, n + 2, rfl, by decide, by decide +kernel, s11.cu, fun v H12 v0 v1 t12 => ?_⟩
  have s12 := s11.sip N t12
  refine ⟨_, rfl, cpow_of rfl, _, _, n + 1, rfl, by decide +kernel, by decide +kernel, s12.cu, fun v' H13 v0' v1' t13 => ?_⟩
  have s13 := s12.sip N t13
  refine ⟨le_sz 4 (by decide), _, rfl, _, _, n, rfl, by decide, by decide +kernel, s13.cu, fun o H14 o0 o1 t14 => ix_any o0 o1 fun d hd => ?_⟩
  have s14 := s13.sip N t14
  obtain ⟨k, rfl, hk, hk'⟩ : ∃ k, d = .int k ∧ 2 ≤ k ∧ k < 2 ^ 70 := by
    have v1'' : v' < 10 ^ 20 := v1'
    simp at hd
    rcases hd with rfl | rfl | rfl | rfl
    · exact ⟨_, rfl, by decide, by decide⟩
    · exact ⟨_, rfl, by decide, by decide⟩
    · exact ⟨_, rfl, by omega, by omega⟩
    · exact ⟨_, rfl, by omega, by omega⟩
  clear hd
  have hi2 : i1 < ss.length := by rw [← tx.1]; exact hi1
  have hj2 : j1 < ss.length := by rw [← tx.1]; exact hj1
  obtain ⟨_, _, zi0, _⟩ := tx.2 i1 rs[i1] (List.getElem?_eq_getElem hi1)
  obtain ⟨_, _, zj0, _⟩ := tx.2 j1 rs[j1] (List.getElem?_eq_getElem hj1)
  refine ⟨_, rfl, fun e => ?_, fun _ => ⟨fun e => Bool.noConfusion e, fun _ => text_second hcap tx hi0 hi hk hk' g1 s14 fun r sz g => fin r sz _ k _ g s14⟩⟩
  refine ⟨_, rfl, _, rfl, _, _, s14.qq, at_sz hi2, _, rfl, _, rfl, _, _, s14.qq, at_sz hj2, _, rfl, fun e5 => ?_, fun _ => text_second hcap tx hi0 hi hk hk' g1 s14 fun r sz g => fin r sz _ k _ g s14⟩
  refine ⟨_, rfl, _, rfl, le_sz 3 (by decide), _, rfl, _, rfl, _, _, s14.qq, at_sz hi2, _, rfl, _, rfl, _, _, s14.qq, at_sz hj2, rfl, ?_⟩
  exact text_second (r := .pr i1 j1) hcap tx hi0 hi hk hk' ⟨⟨hi1, hj1⟩, rfl, by omega, .inl (of_decide_eq_true e5)⟩ s14 fun r sz g => fin r sz _ k _ g s14
theorem rd__law_text : ∀ ds H Q, sp__law_text ds H Q → td__law_text (outD Q) (startD 14 ds) H := by
  rintro ds H Q ⟨c, many, cap, n, rfl, hm0, hm1, hcap, hc, q⟩
  have big : 200000 ≤ sizeLine := by decide +kernel
  refine ⟨le_sz 4 (by decide), _, rfl, _, _, n + (1 + 9 * many), rfl, by decide, by decide +kernel, hc.le (by omega), fun r0 H1 r00 r01 t1 => ix_any r00 r01 fun d hd => ?_⟩
  obtain ⟨K, rfl, k1, k2⟩ : ∃ K, d = .int K ∧ 1 ≤ K ∧ K ≤ 20 := by
    simp at hd
    rcases hd with rfl | rfl | rfl | rfl <;> exact ⟨_, rfl, by decide, by decide⟩
  clear hd
  refine ⟨Nat.zero_le _, fun p hp => ⟨Nat.zero_le _, fun qq hq => ⟨rfl, ?_⟩⟩⟩
  have t1' := t1
  obtain ⟨c1, l, e0, ⟨d1, b1, kk1, e1⟩, f1⟩ := t1'
  have npq : p ≠ qq := fun e => by subst e; rw [upD_same] at hq; cases hq
  have hq' : H1 qq = none := by rw [upD_ne npq.symm] at hq; exact hq
  have nl : H1 l ≠ none := by
    obtain ⟨d', b', k', l', ns, h1, h2, h3⟩ := c1
    rw [e1] at h1; cases h1
    rw [h2]; exact fun z => nomatch z
  have nc : H1 c ≠ none := by rw [e1]; exact fun z => nomatch z
  have pc : p ≠ c := fun e => nc (e ▸ hp)
  have pl : p ≠ l := fun e => nl (e ▸ hp)
  have qc : qq ≠ c := fun e => nc (e ▸ hq')
  have ql : qq ≠ l := fun e => nl (e ▸ hq')
  have N : NeS c l p qq H := ⟨pc, pl, qc, ql, npq, by rw [← f1 p pc pl]; exact hp, by rw [← f1 qq qc ql]; exact hq', e0⟩
  have s2 : TS c l p qq (n + (1 + 9 * many)) H [] [] (upD (upD H1 p (.lst [])) qq (.lst [])) := by
    refine ⟨c1.keep fun a h => ?_, ⟨d1, b1, kk1, ?_⟩, ?_, upD_same, fun a h1 h2 h3 h4 => ?_⟩
    · rw [upD_ne (fun e => h (by rw [e]; exact hq')), upD_ne (fun e => h (by rw [e]; exact hp))]
    · rw [upD_ne qc.symm, upD_ne pc.symm]; exact e1
    · rw [upD_ne npq, upD_same]
    · rw [upD_ne h4, upD_ne h3]; exact f1 a h1 h2
  refine ⟨_, rfl, _, rfl, _, _, n + 9 * many, rfl, by omega, log2_len (by omega), s2.cu.le (by omega), fun r2 H3 r20 r21 t3 => ?_⟩
  have s3 := s2.sip N t3
  refine ⟨⟨by omega, by omega⟩, fun i σ H' => i ≤ many ∧ ∃ rs ss w, σ = slT c p qq many cap K w ∧ w.length = 8 ∧ TextOk rs ss cap ∧ rs.length = i ∧ TS c l p qq (n + 9 * (many - i)) H (rs.map Rl.D) (ss.map .int) H', ⟨by omega, [], [], _, rfl, rfl, ⟨rfl, fun n r h => by simp at h⟩, rfl, s3⟩, fun _ _ _ _ _ => trivial, ?_, ?_⟩
  · rintro i σ H' hi ⟨him, rs, ss, w, rfl, hw, tx, hl, s4⟩
    have hi' : i < many := by have : i < (1 + r2).toNat := hi; omega
    obtain ⟨u, hu⟩ : ∃ u, n + 9 * (many - i) = u + 9 := ⟨n + 9 * (many - (i + 1)), by omega⟩
    have hu' : u = n + 9 * (many - (i + 1)) := by omega
    rw [hu] at s4
    match w, hw with
    | [w6, w7, w8, w9, w10, w11, w12, w13], _ =>
    refine ⟨_, rfl, _, _, u + 8, rfl, by decide, by decide +kernel, s4.cu, fun way H5 y0 y1 t5 => ?_⟩
    have s5 := s4.sip N t5
    refine ⟨_, rfl, _, rfl, _, _, u + 7, rfl, by omega, log2_int (by omega) (by omega), s5.cu, fun a H6 a0 a1 t6 => ?_⟩
    have s6 := s5.sip N t6
    refine ⟨le_sz 2 (by decide), _, rfl, _, _, u + 6, rfl, by decide, by decide +kernel, s6.cu, fun b H7 b0 b1 t7 => ix_any b0 b1 fun d hd => ?_⟩
    have s7 := s6.sip N t7
    obtain ⟨g, rfl, hg⟩ : ∃ g : Int, d = .int g ∧ (g = 1 ∨ g = -1) := by
      simp at hd
      rcases hd with rfl | rfl <;> exact ⟨_, rfl, by decide⟩
    clear hd
    have g0 : Good rs ss cap (.lt ((1 + a) * g)) 1 := ⟨by rcases hg with rfl | rfl <;> simp only [Rl.ok] <;> omega, rfl, by decide, .inr (by decide)⟩
    refine ⟨cmulW_of 6 2 (by omega) (by omega) (by decide), le_sz 2 (by decide), rfl, ?_⟩
    refine rd_cut (fun σ' H' => ∃ w6 r sz y, σ' = slT c p qq many cap K (w6 :: some (.int way) :: some (Rl.D r) :: some (.int sz) :: y) ∧ y.length = 4 ∧ Good rs ss cap r sz ∧ TS c l p qq (u + 6) H (rs.map Rl.D) (ss.map .int) H') ?_ ?_
    · refine ⟨_, rfl, rfl, fun e => ⟨le_sz 1 (by decide), le_sz 2 (by decide), rfl, rfl, _, .non, 0, _, rfl, rfl, ⟨trivial, rfl, by decide, .inr (by decide)⟩, s7⟩, fun e => ⟨_, .lt ((1 + a) * g), 1, _, rfl, rfl, g0, s7⟩⟩
    · rintro σ' H8 ⟨w6', r, sz, y, rfl, hy, g1, s8⟩
      match y, hy with
      | [x10, x11, x12, x13], _ =>
      refine rd_cut (fun σ' H' => ∃ w6 r sz y, σ' = slT c p qq many cap K (w6 :: some (.int way) :: some (Rl.D r) :: some (.int sz) :: y) ∧ y.length = 4 ∧ Good rs ss cap r sz ∧ TS c l p qq u H (rs.map Rl.D) (ss.map .int) H') ?_ ?_
      · have stay : ∃ w6 r' sz' y, slT c p qq many cap K [w6', some (.int way), some (Rl.D r), some (.int sz), x10, x11, x12, x13] = slT c p qq many cap K (w6 :: some (.int way) :: some (Rl.D r') :: some (.int sz') :: y) ∧ y.length = 4 ∧ Good rs ss cap r' sz' ∧ TS c l p qq u H (rs.map Rl.D) (ss.map .int) H8 := ⟨_, r, sz, _, rfl, rfl, g1, s8.le (by omega)⟩
        refine ⟨_, rfl, fun e3 => ?_, fun _ => ⟨fun e => Bool.noConfusion e, fun _ => stay⟩⟩
        refine ⟨_, rfl, Nat.zero_le _, _, s8.pp, fun e => by rw [List.eq_nil_of_length_eq_zero e]; rfl, fun e4 => ?_, fun _ => stay⟩
        have hne : 1 ≤ (rs.map Rl.D).length := by
          cases rs with
          | nil => exact Bool.noConfusion (show false = true from e4)
          | cons x rs => simp
        clear stay e4
        refine ⟨le_sz 4 (by decide), _, rfl, _, _, u + 5, rfl, by decide, by decide +kernel, s8.cu, fun o H9 o0 o1 t9 => ix_any o0 o1 fun d hd => ?_⟩
        obtain ⟨B, rfl, hB0, hB1⟩ : ∃ B, d = .int B ∧ 2 ≤ B ∧ B ≤ 60 := by
          simp at hd
          rcases hd with rfl | rfl | rfl | rfl <;> exact ⟨_, rfl, by decide, by decide⟩
        clear hd
        have s9 := s8.sip N t9
        refine ⟨_, rfl, _, s9.pp, _, rfl, _, rfl, _, _, u + 4, rfl, by omega, log2_int (by omega) (by omega), s9.cu, fun v H10 v0 v1 t10 => ?_⟩
        have s10 := s9.sip N t10
        refine ⟨_, rfl, _, s10.pp, _, rfl, _, rfl, _, _, u + 3, rfl, by omega, log2_int (by omega) (by omega), s10.cu, fun v' H11 v0' v1' t11 => ?_⟩
        have s11 := s10.sip N t11
        rw [List.length_map] at hne
        refine ⟨rfl, text_third N hcap tx (max_b0) ?_ max_b0 ?_ g1 s11 fun r' sz' x k' H' g s => ⟨_, r', sz', _, rfl, rfl, g, s⟩⟩
        · rw [List.length_map]; exact max_b1 hne v0
        · rw [List.length_map]; exact max_b1 hne v0'
      · rintro σ' H9 ⟨w6, r, sz, y, rfl, hy, g2, s9⟩
        have lr : (rs.map Rl.D).length < sizeLine := by rw [List.length_map]; omega
        have ls : (ss.map Dv.int).length < sizeLine := by rw [List.length_map, ← tx.1]; omega
        have s10 := s9.putp N (rs.map Rl.D ++ [r.D])
        have s11 := s10.putq N (ss.map .int ++ [.int sz])
        refine ⟨_, rfl, ⟨_, s9.pp⟩, _, rfl, _, s9.pp, lr, ?_⟩
        refine ⟨_, rfl, ⟨_, s10.qq⟩, _, rfl, _, s10.qq, ls, ?_⟩
        refine ⟨hi', rs ++ [r], ss ++ [sz], _, rfl, ?_, tx.snoc g2.ok g2.sz g2.n0 g2.le, by rw [List.length_append, hl]; rfl, ?_⟩
        · show y.length + 4 = 8
          omega
        · rw [List.map_append, List.map_append, ← hu']
          exact s11
  · rintro σ H' ⟨him, rs, ss, w, rfl, hw, tx, hl, s4⟩
    obtain ⟨Hg, sub, ct⟩ := s4.out N
    refine ⟨_, rfl, _, s4.pp, Hg, sub, q rs ss Hg tx ?_ ?_ (ct.le (by omega))⟩
    · have : (1 + r2).toNat = rs.length := hl.symm
      omega
    · rw [hl]; exact him
end K1

set_option maxHeartbeats 4000000
namespace DL
open PySem PySem.Spec L2
open PyProof.Rows hiding St
theorem Rl.pure (r : Rl) : pureD r.D = true := by cases r <;> rfl
theorem rules_pure (rs : List Rl) : pureL (rs.map Rl.D) = true := by
  rw [pureL_all, List.all_eq_true]
  intro d m
  obtain ⟨r, _, rfl⟩ := List.mem_map.mp m
  exact r.pure
theorem Rl.bendy {n : Nat} {r : Rl} (h : r.ok n) (hn : n < 2 ^ 60) : bendy 2 r.D := by
  have e : ∀ {x : Int}, x.natAbs < 2 ^ 80 → DL.bendy 1 (.int x) := fun {x} h => by
    unfold DL.bendy
    exact Nat.lt_trans h (Nat.pow_lt_pow_right (by decide) (by decide))
  have s : ∀ {x : Str}, DL.bendy 1 (.str x) := fun {x} => by unfold DL.bendy; trivial
  cases r <;> simp only [Rl.ok] at h <;> (unfold Rl.D DL.bendy; refine ⟨Nat.le_of_ble_eq_true rfl, fun x hx => ?_⟩) <;> simp at hx
  · subst hx; exact s
  · rcases hx with rfl | rfl
    · exact s
    · exact e (by omega)
  · rcases hx with rfl | rfl | rfl
    · exact s
    · exact e (by omega)
    · exact e (by omega)
  · rcases hx with rfl | rfl | rfl
    · exact s
    · exact e (by omega)
    · exact e (by omega)
theorem text_bendy {rs : List Rl} {ss : List Int} {cap : Int} (t : TextOk rs ss cap) (h : rs.length ≤ 1000) : bendy 3 (.tup (rs.map Rl.D)) := by
  unfold bendy
  refine ⟨by rw [List.length_map]; exact h, fun x hx => ?_⟩
  obtain ⟨r, hr, rfl⟩ := List.mem_map.mp hx
  obtain ⟨i, hi, e⟩ := List.getElem_of_mem hr
  have := (t.2 i r (by rw [List.getElem?_eq_getElem hi, e])).1
  exact r.bendy this (by omega)
theorem rulesB_rep {d : Dv} : ∀ (n : Nat) (k : Int), (∀ j : Int, k ≤ j → ruleB d j = true) → rulesB (List.replicate n d) k = true
  | 0, _, _ => rfl
  | n + 1, k, h => by
    rw [List.replicate_succ, rulesB, h k (Int.le_refl _), rulesB_rep n (k + 1) fun j hj => h j (by omega)]; rfl
theorem strB_rep {d : Dv} (h : ∀ j : Int, 1 ≤ j → ruleB d j = true) : strB (.tup (.tup [.str "letter", .int 3] :: List.replicate 3999 d)) = true := by
  have h2 := rulesB_rep 3999 1 h
  have h3 : ruleB (.tup [.str "letter", .int 3]) 0 = true := by decide +kernel
  simp only [strB, rulesB, h3, List.length_cons, List.length_replicate]
  rw [show (0 : Int) + 1 = 1 from rfl, h2]; rfl
theorem strB_long {d : Dv} : strB (.tup (.tup [.str "letter", .int 3] :: List.replicate 4000 d)) = false := by
  simp only [strB, List.length_cons, List.length_replicate]; rfl
theorem walk_pure {L : List Dv} {H : DH} {R : DIt → DH → Prop} (hp : pureL L = true) (q : ∀ I : DIt, (∀ i, i < I.n → pureD (I.f i) = true) → (∀ H, I.G H) → R I H) : walkD (.lsv L) H R :=
  q _ (fun i hi => pureL_nth hp hi) fun _ => trivial
theorem flat_rep {α : Type} (d : α) : ∀ n, (List.replicate n [d]).flatten = List.replicate n d
  | 0 => rfl
  | n + 1 => by rw [List.replicate_succ, List.flatten_cons, flat_rep d n]; rfl
end DL
namespace K1
open PySem PySem.Spec L2 DL
open PyProof.Rows hiding St
theorem law_long {D : DEnds} {σ : DS} {H : DH} {d : Dv} {k : Int} (h8 : σ[8]? = some (some d)) (h9 : σ[9]? = some (some (.int k))) (hp : pureD d = true) (k0 : 2 ≤ k) (k1 : k ≤ 10000) (hb : strB (.tup ([.tup [.str "letter", .int 3]] ++ List.replicate k.toNat d)) = eqv (.int k) (.int 3999)) (nx : D.nx σ H) :
    (dIf (dNotT (dTruth (dCall (sp__law_same) [] (dCons (dCall (sp_is_straight) [] (dCons (dOp fAddF (dTup (dCons (dTup (dCons (dC (.str "letter")) (dCons (dC (.int 3)) (dNil)))) (dNil))) (dOp fMulF (dTup (dCons (dVar 8) (dNil))) (dVar 9))) (dNil))) (dCons (dOp fEqA (dVar 9) (dC (.int 3999))) (dNil)))))) (dRet (dC (.bl false))) (dNext)) D σ H := by
  have big : 200000 ≤ sizeLine := by decide +kernel
  refine ⟨le_sz 2 (by decide), le_sz 1 (by decide), _, h8, le_sz 1 (by decide), _, h9, List.cons_ne_nil _ _, k0, (show 1 * k.toNat ≤ sizeLine by omega), ?_⟩
  rw [flat_rep]
  refine ⟨(by rw [List.length_replicate]; show 1 + k.toNat ≤ sizeLine; omega), _, rfl, ?_, _, h9, rfl, _, _, rfl, ?_⟩
  · refine pureT (pureL_app rfl ?_)
    rw [pureL_all, List.all_replicate, hp]
    simp
  · rw [hb]
    have same : ∀ b : Bool, (!(b == b)) = false := by decide
    exact ⟨fun e => Bool.noConfusion ((same _).symm.trans e), fun _ => nx⟩
theorem rd_law : ∀ ds H Q, sp_law ds H Q → td_law (outD Q) (startD 11 ds) H := by
  rintro ds H Q ⟨ns, rfl, hz, q⟩
  have big : 200000 ≤ sizeLine := by decide +kernel
  refine ⟨_, rfl, ns, rfl, hz, fun c H1 hc cu fr => ?_⟩
  clear fr hc
  refine ⟨⟨by decide, by decide⟩, fun i σ H' => ∃ w, σ = some (.lsv (ns.map .int)) :: some (.ref c) :: w ∧ w.length = 9 ∧ CupAt c (2 ^ 50 - 1000 * i) H', ⟨_, rfl, rfl, cu⟩, fun _ _ _ _ _ => trivial, ?_, ?_⟩
  · rintro i σ H2 hi ⟨w, rfl, hw, cu⟩
    have hi' : i < 5 := hi
    obtain ⟨u, hu⟩ : ∃ u, 2 ^ 50 - 1000 * i = u + 1000 := ⟨2 ^ 50 - 1000 * i - 1000, by omega⟩
    rw [hu] at cu
    match w, hw with
    | [w2, w3, w4, w5, w6, w7, w8, w9, w10], _ =>
    refine ⟨_, rfl, cpow_of rfl, c, 40, _, u + 600, rfl, by decide, by decide, by decide +kernel, cu.le (by omega), fun rs ss H3 tx n1 n2 t3 => ?_⟩
    have hp := rules_pure rs
    have ln : (rs.map Rl.D).length = rs.length := List.length_map _
    have hbd := text_bendy tx (by omega)
    generalize rs.map Rl.D = xs at *
    refine ⟨_, rfl, _, rfl, _, _, u + 599, rfl, by omega, log2_len (by omega), t3.1, fun r H4 r0 r1 t4 => ?_⟩
    have l1 := cut_len xs none (some r)
    have l2 := cut_len xs (some (r + 1)) none
    have l3 := cut_len xs (some r) (some (r + 1))
    have l4 := cut_len xs (some r) none
    (repeat' (first | refine ⟨_, rfl, ?_⟩ | refine ⟨le_sz _ (Nat.le_of_ble_eq_true rfl), ?_⟩ | refine ⟨rfl, ?_⟩ | refine And.intro (show _ ≤ sizeLine by (try simp only [List.length_append, List.length_cons, List.length_nil]); omega) ?_ | fail))
    refine ⟨⟨by decide, by decide⟩, fun j acc H' => CupAt c (u + 500 - 12 * j) H' ∧ pureL acc = true ∧ acc.length = j, ⟨t4.1.le (by omega), rfl, rfl⟩, fun _ _ _ _ _ => trivial, ?_, ?_⟩
    · rintro j acc H' hj ⟨cu, hp', hl'⟩
      have hj' : j < 6 := hj
      exact ⟨fun _ => ⟨_, rfl, _, rfl, c, _, u + 500 - 12 * (j + 1), rfl, hbd, cu.le (show u + 500 - 12 * (j + 1) + 3 * (3 + 1) ≤ u + 500 - 12 * j by omega), fun d' H5 pd t => ⟨by omega, t.1, pureL_app hp' (pureL_cons pd rfl), by rw [List.length_append, hl']; rfl⟩⟩, fun e => Bool.noConfusion e⟩
    rintro acc H5 ⟨cu5, hpa, hla⟩
    have hla : acc.length = 6 := hla
    refine ⟨(show 7 + acc.length ≤ sizeLine by omega), ?_⟩
    have cu5 : CupAt c (u + 428) H5 := cu5
    refine ⟨⟨by decide, by decide⟩, fun j acc H' => CupAt c (u + 428 - 2 * j) H' ∧ pureL acc = true ∧ acc.length = j, ⟨cu5, rfl, rfl⟩, fun _ _ _ _ _ => trivial, ?_, ?_⟩
    · rintro j acc H' hj ⟨cu, hp', hl'⟩
      have hj' : j < 6 := hj
      exact ⟨fun _ => ⟨_, rfl, _, rfl, c, xs, u + 428 - 2 * (j + 1), rfl, hp, by omega, by omega, cu.le (by omega), fun d' H5 pd t => ⟨by omega, t.1, pureL_app hp' (pureL_cons pd rfl), by rw [List.length_append, hl']; rfl⟩⟩, fun e => Bool.noConfusion e⟩
    rintro acc2 H6 ⟨cu6, hpa2, hla2⟩
    have hla2 : acc2.length = 6 := hla2
    have cu6 : CupAt c (u + 416) H6 := cu6
    refine ⟨(by rw [List.length_append]; show 7 + acc.length + acc2.length ≤ sizeLine; omega), ?_⟩
    (repeat' (first | refine ⟨_, rfl, ?_⟩ | refine ⟨le_sz _ (Nat.le_of_ble_eq_true rfl), ?_⟩ | refine ⟨rfl, ?_⟩ | fail))
    refine ⟨_, _, u + 415, rfl, by decide, by decide +kernel, cu6, fun r7 H7 s0 s1 t7 => ix_pure s0 s1 rfl fun d7 hp7 => ?_⟩
    refine ⟨le_sz 1 (by decide), (by rw [List.length_append, List.length_append]; show 7 + acc.length + acc2.length + 1 ≤ sizeLine; omega), ?_⟩
    refine ⟨_, rfl, ?_⟩
    refine walk_pure (by simp [pureL, pureD, pureL_append, pureL_cut hp, pureL_rev, hp, hpa, hpa2, hp7]) fun I hI hG => ?_
    refine ⟨fun j σ H' => ∃ w, σ = some (.lsv (ns.map .int)) :: some (.ref c) :: w ∧ w.length = 9 ∧ CupAt c u H', ⟨_, rfl, rfl, t7.1.le (by omega)⟩, fun _ _ H _ _ => hG H, ?_, ?_⟩
    · rintro j σ H8 hj ⟨w, rfl, hw, cu8⟩
      match w, hw with
      | [w2, w3, w4, w5, w6, w7, w8, w9, w10], _ =>
      have hd := hI j hj
      have same : ∀ b : Bool, (!(b == b)) = false := by decide
      refine ⟨_, rfl, _, rfl, hd, ?_⟩
      refine ⟨_, rfl, _, rfl, hd, _, rfl, _, _, rfl, fun e => Bool.noConfusion ((same _).symm.trans e), fun _ => ?_⟩
      refine ⟨_, rfl, _, rfl, hd, _, rfl, _, _, rfl, fun e => Bool.noConfusion ((same _).symm.trans e), fun _ => ?_⟩
      exact ⟨_, rfl, rfl, cu8⟩
    · rintro σ H8 ⟨w, rfl, hw, cu8⟩
      exact ⟨w, rfl, hw, cu8.le (by omega)⟩
  · rintro σ H2 ⟨w, rfl, hw, cu⟩
    have cu : CupAt c (2 ^ 50 - 1000 * 5) H2 := cu
    match w, hw with
    | [w2, w3, w4, w5, w6, w7, w8, w9, w10], _ =>
    (repeat' (first | refine ⟨_, rfl, ?_⟩ | refine ⟨le_sz _ (Nat.le_of_ble_eq_true rfl), ?_⟩ | refine ⟨rfl, ?_⟩ | fail))
    refine ⟨_, _, 2 ^ 40, rfl, by decide, by decide +kernel, cu.le (by omega), fun r H3 s0 s1 t3 => ix_any s0 s1 fun d hd => ?_⟩
    have hr : (∀ j : Int, 1 ≤ j → ruleB d j = true) ∧ pureD d = true := by
      simp at hd
      rcases hd with rfl | rfl | rfl | rfl
      · exact ⟨fun j hj => by simp [ruleB], rfl⟩
      · exact ⟨fun j hj => by simp [ruleB, letB], rfl⟩
      · exact ⟨fun j hj => by simp [ruleB, wIn]; omega, rfl⟩
      · exact ⟨fun j hj => by simp [ruleB, wIn, gt1]; omega, rfl⟩
    clear hd
    refine ⟨le_sz 2 (by decide), fun j σ H' => ∃ w, σ = some (.lsv (ns.map .int)) :: some (.ref c) :: w ∧ w.length = 9 ∧ w[6]? = some (some d), ⟨_, rfl, rfl, rfl⟩, fun _ _ _ _ _ => trivial, ?_, fun _ _ _ => rd_out (q _)⟩
    rintro j σ H4 hj ⟨w, rfl, hw, h6⟩
    match w, hw with
    | [w2, w3, w4, w5, w6, w7, w8, w9, w10], _ =>
    have hj' : j < 2 := hj
    have h8 : w8 = some d := by simpa using h6
    subst h8
    match j, hj' with
    | 0, _ => exact law_long (k := 3999) rfl rfl hr.2 (by decide) (by decide) (strB_rep hr.1) ⟨_, rfl, rfl, rfl⟩
    | 1, _ => exact law_long (k := 4000) rfl rfl hr.2 (by decide) (by decide) strB_long ⟨_, rfl, rfl, rfl⟩
end K1

set_option maxHeartbeats 4000000
namespace DL
open PySem PySem.Spec L2
open PyProof.Rows hiding St
/-! ## the script comes in -/
theorem end_sp {K : PySem.W.Frag} {sp : DSp} (h : ∀ ns : List Int, ns.length ≤ 63 → sp [.lsv (ns.map .int)] (fun _ => none) fun d _ => d = .bl true) {H : Hp} {a : Addr} {ns : List Int} (hl : ns.length ≤ 63) (hO : Only H) (hS : SqL K H a (ns.map V.int)) : lSp K sp [.ref a] H (fun v _ => v = .bl true) fun _ _ _ => False := by
  have fx : FxL K H a (ns.map V.int) := by
    rcases hS with (h1 | h1) | h1
    · rcases hO a with z | ⟨o, xs, z⟩
      · rw [h1] at z; cases z
      · rw [h1] at z; cases z
    · exact .inl h1
    · exact .inr h1
  refine ⟨[.lsv (ns.map .int)], fun _ => none, fun d _ => d = .bl true, ⟨_, [], rfl, ⟨a, _, rfl, fx, .ints ns⟩, rfl⟩, (fun _ _ e => nomatch e), h ns hl, fun v H' d Hd' _ _ r e => ?_⟩
  subst e
  exact r
end DL

set_option maxHeartbeats 8000000
namespace DL
theorem end_law : ∀ ns : List Int, ns.length ≤ 63 → sp_law [.lsv (ns.map .int)] (fun _ => none) fun d _ => d = .bl true :=
  fun ns h => ⟨ns, rfl, Nat.le_trans h (by decide +kernel), fun _ => rfl⟩
end DL
namespace K1
open PySem PySem.Spec L2 DL
open PyProof.Rows hiding St
/-! ## the promises, def by def -/
theorem len_is_int : ∀ ds H Q, sp_is_int ds H Q → ds.length = 1 := by intro ds H Q h; unfold sp_is_int at h; (repeat (first | (obtain ⟨rfl, _⟩ := h; rfl) | obtain ⟨_, h⟩ := h))
theorem ok_is_int {P : Program} {w : World} {K : PySem.W.Frag} {mg : Str → Option Value} {base : Heap} (T : Txt K mg) : FnOk P w K mg base CX0 (1) T.a_is_int T.d_is_int ["thing"] (lSp K (sp_is_int)) :=
  Fun.okD T.F_is_int sc_is_int len_is_int (body_is_int T) rd_is_int
theorem len_within : ∀ ds H Q, sp_within ds H Q → ds.length = 3 := by intro ds H Q h; unfold sp_within at h; (repeat (first | (obtain ⟨rfl, _⟩ := h; rfl) | obtain ⟨_, h⟩ := h))
theorem ok_within {P : Program} {w : World} {K : PySem.W.Frag} {mg : Str → Option Value} {base : Heap} (T : Txt K mg) : FnOk P w K mg base CX0 (2) T.a_within T.d_within ["thing", "low", "high"] (lSp K (sp_within)) :=
  Fun.okD T.F_within sc_within len_within (body_within T (ok_is_int T)) rd_within
theorem len_is_row : ∀ ds H Q, sp_is_row ds H Q → ds.length = 3 := by intro ds H Q h; unfold sp_is_row at h; (repeat (first | (obtain ⟨rfl, _⟩ := h; rfl) | obtain ⟨_, h⟩ := h))
theorem ok_is_row {P : Program} {w : World} {K : PySem.W.Frag} {mg : Str → Option Value} {base : Heap} (T : Txt K mg) : FnOk P w K mg base CX0 (1) T.a_is_row T.d_is_row ["thing", "low", "high"] (lSp K (sp_is_row)) :=
  Fun.okD T.F_is_row sc_is_row len_is_row (body_is_row T) rd_is_row
theorem len_is_letter : ∀ ds H Q, sp_is_letter ds H Q → ds.length = 1 := by intro ds H Q h; unfold sp_is_letter at h; (repeat (first | (obtain ⟨rfl, _⟩ := h; rfl) | obtain ⟨_, h⟩ := h))
theorem ok_is_letter {P : Program} {w : World} {K : PySem.W.Frag} {mg : Str → Option Value} {base : Heap} (T : Txt K mg) : FnOk P w K mg base CX0 (3) T.a_is_letter T.d_is_letter ["thing"] (lSp K (sp_is_letter)) :=
  Fun.okD T.F_is_letter sc_is_letter len_is_letter (body_is_letter T (ok_within T)) rd_is_letter
theorem len_is_rule : ∀ ds H Q, sp_is_rule ds H Q → ds.length = 2 := by intro ds H Q h; unfold sp_is_rule at h; (repeat (first | (obtain ⟨rfl, _⟩ := h; rfl) | obtain ⟨_, h⟩ := h))
theorem ok_is_rule {P : Program} {w : World} {K : PySem.W.Frag} {mg : Str → Option Value} {base : Heap} (T : Txt K mg) : FnOk P w K mg base CX0 (4) T.a_is_rule T.d_is_rule ["thing", "index"] (lSp K (sp_is_rule)) :=
  Fun.okD T.F_is_rule sc_is_rule len_is_rule (body_is_rule T (ok_is_int T) (ok_is_letter T) (ok_is_row T) (ok_within T)) rd_is_rule
theorem len_is_straight : ∀ ds H Q, sp_is_straight ds H Q → ds.length = 1 := by intro ds H Q h; unfold sp_is_straight at h; (repeat (first | (obtain ⟨rfl, _⟩ := h; rfl) | obtain ⟨_, h⟩ := h))
theorem ok_is_straight {P : Program} {w : World} {K : PySem.W.Frag} {mg : Str → Option Value} {base : Heap} (T : Txt K mg) : FnOk P w K mg base CX0 (5) T.a_is_straight T.d_is_straight ["thing"] (lSp K (sp_is_straight)) :=
  Fun.okD T.F_is_straight sc_is_straight len_is_straight (body_is_straight T (ok_is_row T) (ok_is_rule T)) rd_is_straight
theorem len__law_cup : ∀ ds H Q, sp__law_cup ds H Q → ds.length = 1 := by intro ds H Q h; unfold sp__law_cup at h; (repeat (first | (obtain ⟨rfl, _⟩ := h; rfl) | obtain ⟨_, h⟩ := h))
theorem ok__law_cup {P : Program} {w : World} {K : PySem.W.Frag} {mg : Str → Option Value} {base : Heap} (T : Txt K mg) : FnOk P w K mg base CX0 (1) T.a__law_cup T.d__law_cup ["script"] (lSp K (sp__law_cup)) :=
  Fun.okD T.F__law_cup sc__law_cup len__law_cup (body__law_cup T) rd__law_cup
theorem len__law_sip : ∀ ds H Q, sp__law_sip ds H Q → ds.length = 2 := by intro ds H Q h; unfold sp__law_sip at h; (repeat (first | (obtain ⟨rfl, _⟩ := h; rfl) | obtain ⟨_, h⟩ := h))
theorem ok__law_sip {P : Program} {w : World} {K : PySem.W.Frag} {mg : Str → Option Value} {base : Heap} (T : Txt K mg) : FnOk P w K mg base CX0 (1) T.a__law_sip T.d__law_sip ["cup", "many"] (lSp K (sp__law_sip)) :=
  Fun.okD T.F__law_sip sc__law_sip len__law_sip (body__law_sip T) rd__law_sip
theorem len__law_same : ∀ ds H Q, sp__law_same ds H Q → ds.length = 2 := by intro ds H Q h; unfold sp__law_same at h; (repeat (first | (obtain ⟨rfl, _⟩ := h; rfl) | obtain ⟨_, h⟩ := h))
theorem ok__law_same {P : Program} {w : World} {K : PySem.W.Frag} {mg : Str → Option Value} {base : Heap} (T : Txt K mg) : FnOk P w K mg base CX0 (1) T.a__law_same T.d__law_same ["found", "due"] (lSp K (sp__law_same)) :=
  Fun.okD T.F__law_same sc__law_same len__law_same (body__law_same T) rd__law_same
theorem len__law_is_whole : ∀ ds H Q, sp__law_is_whole ds H Q → ds.length = 1 := len_is_int
theorem ok__law_is_whole {P : Program} {w : World} {K : PySem.W.Frag} {mg : Str → Option Value} {base : Heap} (T : Txt K mg) : FnOk P w K mg base CX0 (1) T.a__law_is_whole T.d__law_is_whole ["found"] (lSp K (sp__law_is_whole)) :=
  Fun.okD T.F__law_is_whole sc__law_is_whole len__law_is_whole (body__law_is_whole T) rd__law_is_whole
theorem len_bent (n : Nat) : ∀ ds H Q, sp_bent (n + 1) ds H Q → ds.length = 2 := by
  rintro ds H Q ⟨c, d, m, rfl, _⟩; rfl
theorem ok_bent {P : Program} {w : World} {K : PySem.W.Frag} {mg : Str → Option Value} {base : Heap} (T : Txt K mg) : ∀ n, FnOk P w K mg base CX0 (n + 1) T.a__law_bent T.d__law_bent ["cup", "thing"] (lSp K (sp_bent n))
  | 0 => ⟨fun vs H Q E ⟨ds, Hd, Qd, _, _, h, _⟩ => h.elim, fun A outer s H args us vs Q E _ _ _ _ ⟨_, _, _, _, _, h, _⟩ => h.elim⟩
  | n + 1 => Fun.okD T.F__law_bent sc__law_bent (len_bent n) (body__law_bent T n (ok_bent T n) (ok__law_sip T)) (rd__law_bent n)
theorem len__law_text : ∀ ds H Q, sp__law_text ds H Q → ds.length = 3 := by intro ds H Q h; unfold sp__law_text at h; (repeat (first | (obtain ⟨rfl, _⟩ := h; rfl) | obtain ⟨_, h⟩ := h))
theorem ok__law_text {P : Program} {w : World} {K : PySem.W.Frag} {mg : Str → Option Value} {base : Heap} (T : Txt K mg) : FnOk P w K mg base CX0 (2) T.a__law_text T.d__law_text ["cup", "many", "cap"] (lSp K (sp__law_text)) :=
  Fun.okD T.F__law_text sc__law_text len__law_text (body__law_text T (ok__law_sip T)) rd__law_text
theorem len__law_is_straight : ∀ ds H Q, sp__law_is_straight ds H Q → ds.length = 1 := len_is_straight
theorem ok__law_is_straight {P : Program} {w : World} {K : PySem.W.Frag} {mg : Str → Option Value} {base : Heap} (T : Txt K mg) : FnOk P w K mg base CX0 (2) T.a__law_is_straight T.d__law_is_straight ["found"] (lSp K (sp__law_is_straight)) :=
  Fun.okD T.F__law_is_straight sc__law_is_straight len__law_is_straight (body__law_is_straight T (ok__law_is_whole T)) rd__law_is_straight
theorem len__law_near_one : ∀ ds H Q, sp__law_near_one ds H Q → ds.length = 2 := by intro ds H Q h; unfold sp__law_near_one at h; (repeat (first | (obtain ⟨rfl, _⟩ := h; rfl) | obtain ⟨_, h⟩ := h))
theorem ok__law_near_one {P : Program} {w : World} {K : PySem.W.Frag} {mg : Str → Option Value} {base : Heap} (T : Txt K mg) : FnOk P w K mg base CX0 (2) T.a__law_near_one T.d__law_near_one ["cup", "rules"] (lSp K (sp__law_near_one)) :=
  Fun.okD T.F__law_near_one sc__law_near_one len__law_near_one (body__law_near_one T (ok__law_sip T)) rd__law_near_one
theorem len_law : ∀ ds H Q, sp_law ds H Q → ds.length = 1 := by intro ds H Q h; unfold sp_law at h; (repeat (first | (obtain ⟨rfl, _⟩ := h; rfl) | obtain ⟨_, h⟩ := h))
theorem ok_law {P : Program} {w : World} {K : PySem.W.Frag} {mg : Str → Option Value} {base : Heap} (T : Txt K mg) : FnOk P w K mg base CX0 7 T.a_law T.d_law ["script"] (lSp K sp_law) :=
  Fun.okD T.F_law sc_law len_law (body_law T ((ok_bent T 4).mono (by decide)) (ok__law_cup T) (ok__law_is_straight T) (ok__law_near_one T) (ok__law_same T) (ok__law_sip T) (ok__law_text T) (ok_is_straight T)) rd_law
/-! ## the end -/
theorem all_mk {l : PySem.W.OpenLaw} {w : World} {K : PySem.W.Frag} {h : Heap} {mg : Str → Option Value} {fa : Addr} (X : K.In h) (GN : h.Ns mainGlobals mg) (hfa : mg "law" = some (.ref fa))
    {f_is_int : Addr} {od_is_int an_is_int : Option Addr} {sl_is_int : Array (Option Value)} {oc_is_int kV_is_int dc_is_int pm_is_int cd_is_int ct_is_int : Value}
    {f_within : Addr} {od_within an_within : Option Addr} {sl_within : Array (Option Value)} {oc_within kV_within dc_within pm_within cd_within ct_within : Value}
    {f_is_row : Addr} {od_is_row an_is_row : Option Addr} {sl_is_row : Array (Option Value)} {oc_is_row kV_is_row dc_is_row pm_is_row cd_is_row ct_is_row : Value}
    {f_is_letter : Addr} {od_is_letter an_is_letter : Option Addr} {sl_is_letter : Array (Option Value)} {oc_is_letter kV_is_letter dc_is_letter pm_is_letter cd_is_letter ct_is_letter : Value}
    {f_is_rule : Addr} {od_is_rule an_is_rule : Option Addr} {sl_is_rule : Array (Option Value)} {oc_is_rule kV_is_rule dc_is_rule pm_is_rule cd_is_rule ct_is_rule : Value}
    {f_is_straight : Addr} {od_is_straight an_is_straight : Option Addr} {sl_is_straight : Array (Option Value)} {oc_is_straight kV_is_straight dc_is_straight pm_is_straight cd_is_straight ct_is_straight : Value}
    {f__law_cup : Addr} {od__law_cup an__law_cup : Option Addr} {sl__law_cup : Array (Option Value)} {oc__law_cup kV__law_cup dc__law_cup pm__law_cup cd__law_cup ct__law_cup : Value}
    {f__law_sip : Addr} {od__law_sip an__law_sip : Option Addr} {sl__law_sip : Array (Option Value)} {oc__law_sip kV__law_sip dc__law_sip pm__law_sip cd__law_sip ct__law_sip : Value}
    {f__law_same : Addr} {od__law_same an__law_same : Option Addr} {sl__law_same : Array (Option Value)} {oc__law_same kV__law_same dc__law_same pm__law_same cd__law_same ct__law_same : Value}
    {f__law_is_whole : Addr} {od__law_is_whole an__law_is_whole : Option Addr} {sl__law_is_whole : Array (Option Value)} {oc__law_is_whole kV__law_is_whole dc__law_is_whole pm__law_is_whole cd__law_is_whole ct__law_is_whole : Value}
    {f__law_bent : Addr} {od__law_bent an__law_bent : Option Addr} {sl__law_bent : Array (Option Value)} {oc__law_bent kV__law_bent dc__law_bent pm__law_bent cd__law_bent ct__law_bent : Value}
    {f__law_text : Addr} {od__law_text an__law_text : Option Addr} {sl__law_text : Array (Option Value)} {oc__law_text kV__law_text dc__law_text pm__law_text cd__law_text ct__law_text : Value}
    {f__law_is_straight : Addr} {od__law_is_straight an__law_is_straight : Option Addr} {sl__law_is_straight : Array (Option Value)} {oc__law_is_straight kV__law_is_straight dc__law_is_straight pm__law_is_straight cd__law_is_straight ct__law_is_straight : Value}
    {f__law_near_one : Addr} {od__law_near_one an__law_near_one : Option Addr} {sl__law_near_one : Array (Option Value)} {oc__law_near_one kV__law_near_one dc__law_near_one pm__law_near_one cd__law_near_one ct__law_near_one : Value}
    {f_law : Addr} {od_law an_law : Option Addr} {sl_law : Array (Option Value)} {oc_law kV_law dc_law pm_law cd_law ct_law : Value}
    {t_MOST_LETTER : Tok}
    {t_MOST_RULES : Tok}
    (A_is_int : PySem.W.nsIn K mainGlobals "is_int" = some (some (.ref f_is_int)))
    (L_is_int : K.lookup f_is_int = some ⟨oc_is_int, od_is_int, .func (PySem.W.fnOf "is_int" "is_int" (defArgs (topS 1)) (defBody (topS 1)) (defScope (topS 1)) .none kV_is_int dc_is_int pm_is_int an_is_int cd_is_int ct_is_int), sl_is_int⟩)
    (C_is_int : PySem.W.codeIn K cd_is_int "is_int" = true)
    (K_is_int : PySem.W.keepIn K (.ref f_is_int) = true)
    (A_within : PySem.W.nsIn K mainGlobals "within" = some (some (.ref f_within)))
    (L_within : K.lookup f_within = some ⟨oc_within, od_within, .func (PySem.W.fnOf "within" "within" (defArgs (topS 2)) (defBody (topS 2)) (defScope (topS 2)) .none kV_within dc_within pm_within an_within cd_within ct_within), sl_within⟩)
    (C_within : PySem.W.codeIn K cd_within "within" = true)
    (K_within : PySem.W.keepIn K (.ref f_within) = true)
    (A_is_row : PySem.W.nsIn K mainGlobals "is_row" = some (some (.ref f_is_row)))
    (L_is_row : K.lookup f_is_row = some ⟨oc_is_row, od_is_row, .func (PySem.W.fnOf "is_row" "is_row" (defArgs (topS 3)) (defBody (topS 3)) (defScope (topS 3)) .none kV_is_row dc_is_row pm_is_row an_is_row cd_is_row ct_is_row), sl_is_row⟩)
    (C_is_row : PySem.W.codeIn K cd_is_row "is_row" = true)
    (K_is_row : PySem.W.keepIn K (.ref f_is_row) = true)
    (A_is_letter : PySem.W.nsIn K mainGlobals "is_letter" = some (some (.ref f_is_letter)))
    (L_is_letter : K.lookup f_is_letter = some ⟨oc_is_letter, od_is_letter, .func (PySem.W.fnOf "is_letter" "is_letter" (defArgs (topS 7)) (defBody (topS 7)) (defScope (topS 7)) .none kV_is_letter dc_is_letter pm_is_letter an_is_letter cd_is_letter ct_is_letter), sl_is_letter⟩)
    (C_is_letter : PySem.W.codeIn K cd_is_letter "is_letter" = true)
    (K_is_letter : PySem.W.keepIn K (.ref f_is_letter) = true)
    (A_is_rule : PySem.W.nsIn K mainGlobals "is_rule" = some (some (.ref f_is_rule)))
    (L_is_rule : K.lookup f_is_rule = some ⟨oc_is_rule, od_is_rule, .func (PySem.W.fnOf "is_rule" "is_rule" (defArgs (topS 8)) (defBody (topS 8)) (defScope (topS 8)) .none kV_is_rule dc_is_rule pm_is_rule an_is_rule cd_is_rule ct_is_rule), sl_is_rule⟩)
    (C_is_rule : PySem.W.codeIn K cd_is_rule "is_rule" = true)
    (K_is_rule : PySem.W.keepIn K (.ref f_is_rule) = true)
    (A_is_straight : PySem.W.nsIn K mainGlobals "is_straight" = some (some (.ref f_is_straight)))
    (L_is_straight : K.lookup f_is_straight = some ⟨oc_is_straight, od_is_straight, .func (PySem.W.fnOf "is_straight" "is_straight" (defArgs (topS 9)) (defBody (topS 9)) (defScope (topS 9)) .none kV_is_straight dc_is_straight pm_is_straight an_is_straight cd_is_straight ct_is_straight), sl_is_straight⟩)
    (C_is_straight : PySem.W.codeIn K cd_is_straight "is_straight" = true)
    (K_is_straight : PySem.W.keepIn K (.ref f_is_straight) = true)
    (A__law_cup : PySem.W.nsIn K mainGlobals "_law_cup" = some (some (.ref f__law_cup)))
    (L__law_cup : K.lookup f__law_cup = some ⟨oc__law_cup, od__law_cup, .func (PySem.W.fnOf "_law_cup" "_law_cup" (defArgs (topS 11)) (defBody (topS 11)) (defScope (topS 11)) .none kV__law_cup dc__law_cup pm__law_cup an__law_cup cd__law_cup ct__law_cup), sl__law_cup⟩)
    (C__law_cup : PySem.W.codeIn K cd__law_cup "_law_cup" = true)
    (K__law_cup : PySem.W.keepIn K (.ref f__law_cup) = true)
    (A__law_sip : PySem.W.nsIn K mainGlobals "_law_sip" = some (some (.ref f__law_sip)))
    (L__law_sip : K.lookup f__law_sip = some ⟨oc__law_sip, od__law_sip, .func (PySem.W.fnOf "_law_sip" "_law_sip" (defArgs (topS 12)) (defBody (topS 12)) (defScope (topS 12)) .none kV__law_sip dc__law_sip pm__law_sip an__law_sip cd__law_sip ct__law_sip), sl__law_sip⟩)
    (C__law_sip : PySem.W.codeIn K cd__law_sip "_law_sip" = true)
    (K__law_sip : PySem.W.keepIn K (.ref f__law_sip) = true)
    (A__law_same : PySem.W.nsIn K mainGlobals "_law_same" = some (some (.ref f__law_same)))
    (L__law_same : K.lookup f__law_same = some ⟨oc__law_same, od__law_same, .func (PySem.W.fnOf "_law_same" "_law_same" (defArgs (topS 13)) (defBody (topS 13)) (defScope (topS 13)) .none kV__law_same dc__law_same pm__law_same an__law_same cd__law_same ct__law_same), sl__law_same⟩)
    (C__law_same : PySem.W.codeIn K cd__law_same "_law_same" = true)
    (K__law_same : PySem.W.keepIn K (.ref f__law_same) = true)
    (A__law_is_whole : PySem.W.nsIn K mainGlobals "_law_is_whole" = some (some (.ref f__law_is_whole)))
    (L__law_is_whole : K.lookup f__law_is_whole = some ⟨oc__law_is_whole, od__law_is_whole, .func (PySem.W.fnOf "_law_is_whole" "_law_is_whole" (defArgs (topS 14)) (defBody (topS 14)) (defScope (topS 14)) .none kV__law_is_whole dc__law_is_whole pm__law_is_whole an__law_is_whole cd__law_is_whole ct__law_is_whole), sl__law_is_whole⟩)
    (C__law_is_whole : PySem.W.codeIn K cd__law_is_whole "_law_is_whole" = true)
    (K__law_is_whole : PySem.W.keepIn K (.ref f__law_is_whole) = true)
    (A__law_bent : PySem.W.nsIn K mainGlobals "_law_bent" = some (some (.ref f__law_bent)))
    (L__law_bent : K.lookup f__law_bent = some ⟨oc__law_bent, od__law_bent, .func (PySem.W.fnOf "_law_bent" "_law_bent" (defArgs (topS 15)) (defBody (topS 15)) (defScope (topS 15)) .none kV__law_bent dc__law_bent pm__law_bent an__law_bent cd__law_bent ct__law_bent), sl__law_bent⟩)
    (C__law_bent : PySem.W.codeIn K cd__law_bent "_law_bent" = true)
    (K__law_bent : PySem.W.keepIn K (.ref f__law_bent) = true)
    (A__law_text : PySem.W.nsIn K mainGlobals "_law_text" = some (some (.ref f__law_text)))
    (L__law_text : K.lookup f__law_text = some ⟨oc__law_text, od__law_text, .func (PySem.W.fnOf "_law_text" "_law_text" (defArgs (topS 16)) (defBody (topS 16)) (defScope (topS 16)) .none kV__law_text dc__law_text pm__law_text an__law_text cd__law_text ct__law_text), sl__law_text⟩)
    (C__law_text : PySem.W.codeIn K cd__law_text "_law_text" = true)
    (K__law_text : PySem.W.keepIn K (.ref f__law_text) = true)
    (A__law_is_straight : PySem.W.nsIn K mainGlobals "_law_is_straight" = some (some (.ref f__law_is_straight)))
    (L__law_is_straight : K.lookup f__law_is_straight = some ⟨oc__law_is_straight, od__law_is_straight, .func (PySem.W.fnOf "_law_is_straight" "_law_is_straight" (defArgs (topS 17)) (defBody (topS 17)) (defScope (topS 17)) .none kV__law_is_straight dc__law_is_straight pm__law_is_straight an__law_is_straight cd__law_is_straight ct__law_is_straight), sl__law_is_straight⟩)
    (C__law_is_straight : PySem.W.codeIn K cd__law_is_straight "_law_is_straight" = true)
    (K__law_is_straight : PySem.W.keepIn K (.ref f__law_is_straight) = true)
    (A__law_near_one : PySem.W.nsIn K mainGlobals "_law_near_one" = some (some (.ref f__law_near_one)))
    (L__law_near_one : K.lookup f__law_near_one = some ⟨oc__law_near_one, od__law_near_one, .func (PySem.W.fnOf "_law_near_one" "_law_near_one" (defArgs (topS 18)) (defBody (topS 18)) (defScope (topS 18)) .none kV__law_near_one dc__law_near_one pm__law_near_one an__law_near_one cd__law_near_one ct__law_near_one), sl__law_near_one⟩)
    (C__law_near_one : PySem.W.codeIn K cd__law_near_one "_law_near_one" = true)
    (K__law_near_one : PySem.W.keepIn K (.ref f__law_near_one) = true)
    (A_law : PySem.W.nsIn K mainGlobals "law" = some (some (.ref f_law)))
    (L_law : K.lookup f_law = some ⟨oc_law, od_law, .func (PySem.W.fnOf "law" "law" (defArgs (topS 19)) (defBody (topS 19)) (defScope (topS 19)) .none kV_law dc_law pm_law an_law cd_law ct_law), sl_law⟩)
    (C_law : PySem.W.codeIn K cd_law "law" = true)
    (K_law : PySem.W.keepIn K (.ref f_law) = true)
    (G_MOST_LETTER : PySem.W.nsIn K mainGlobals "MOST_LETTER" = some (some (.int 20 t_MOST_LETTER)))
    (G_MOST_RULES : PySem.W.nsIn K mainGlobals "MOST_RULES" = some (some (.int 4000 t_MOST_RULES)))
    (Z_abs : PySem.W.nsIn K mainGlobals "abs" = some none)
    (Z_all : PySem.W.nsIn K mainGlobals "all" = some none)
    (Z_bool : PySem.W.nsIn K mainGlobals "bool" = some none)
    (Z_enumerate : PySem.W.nsIn K mainGlobals "enumerate" = some none)
    (Z_int : PySem.W.nsIn K mainGlobals "int" = some none)
    (Z_isinstance : PySem.W.nsIn K mainGlobals "isinstance" = some none)
    (Z_len : PySem.W.nsIn K mainGlobals "len" = some none)
    (Z_list : PySem.W.nsIn K mainGlobals "list" = some none)
    (Z_max : PySem.W.nsIn K mainGlobals "max" = some none)
    (Z_range : PySem.W.nsIn K mainGlobals "range" = some none)
    (Z_str : PySem.W.nsIn K mainGlobals "str" = some none)
    (Z_tuple : PySem.W.nsIn K mainGlobals "tuple" = some none)
    : ∃ fd : FuncData, (∀ (s : Shared) (v : Value), BindsTo s fd ⟨[v], []⟩ [("script", v)]) ∧ ∀ base : Heap, K.In base → base.Ns mainGlobals mg → FnOk l.prog w K mg base CX0 7 fa fd ["script"] (lSp K sp_law) := by
  have e := hfa.symm.trans (mkTxt X GN A_is_int L_is_int C_is_int K_is_int A_within L_within C_within K_within A_is_row L_is_row C_is_row K_is_row A_is_letter L_is_letter C_is_letter K_is_letter A_is_rule L_is_rule C_is_rule K_is_rule A_is_straight L_is_straight C_is_straight K_is_straight A__law_cup L__law_cup C__law_cup K__law_cup A__law_sip L__law_sip C__law_sip K__law_sip A__law_same L__law_same C__law_same K__law_same A__law_is_whole L__law_is_whole C__law_is_whole K__law_is_whole A__law_bent L__law_bent C__law_bent K__law_bent A__law_text L__law_text C__law_text K__law_text A__law_is_straight L__law_is_straight C__law_is_straight K__law_is_straight A__law_near_one L__law_near_one C__law_near_one K__law_near_one A_law L_law C_law K_law G_MOST_LETTER G_MOST_RULES Z_abs Z_all Z_bool Z_enumerate Z_int Z_isinstance Z_len Z_list Z_max Z_range Z_str Z_tuple).m_law
  cases e
  exact ⟨_, fun s v => .of_eq rfl, fun base _ _ => ok_law (mkTxt X GN A_is_int L_is_int C_is_int K_is_int A_within L_within C_within K_within A_is_row L_is_row C_is_row K_is_row A_is_letter L_is_letter C_is_letter K_is_letter A_is_rule L_is_rule C_is_rule K_is_rule A_is_straight L_is_straight C_is_straight K_is_straight A__law_cup L__law_cup C__law_cup K__law_cup A__law_sip L__law_sip C__law_sip K__law_sip A__law_same L__law_same C__law_same K__law_same A__law_is_whole L__law_is_whole C__law_is_whole K__law_is_whole A__law_bent L__law_bent C__law_bent K__law_bent A__law_text L__law_text C__law_text K__law_text A__law_is_straight L__law_is_straight C__law_is_straight K__law_is_straight A__law_near_one L__law_near_one C__law_near_one K__law_near_one A_law L_law C_law K_law G_MOST_LETTER G_MOST_RULES Z_abs Z_all Z_bool Z_enumerate Z_int Z_isinstance Z_len Z_list Z_max Z_range Z_str Z_tuple)⟩
end K1
open PySem PySem.W PyProof.Rows
set_option maxHeartbeats 0 in
theorem PySem.Challenge.cw_printsalike_k01_straight_texts_judged_holds : PySem.Challenge.rw_printsalike_k01_straight_texts_judged.Holds := by
  w_on; o_law; k_head; (case hw => w_witness2)
  k_fill
  refine L2.walk_of (l := PySem.Challenge.rw_printsalike_k01_straight_texts_judged) (n := 63) (k := 7) (x := "script") (CX := fun _ => L2.CX0) (sp := fun w => DL.lSp _ DL.sp_law) rfl (by decide) rfl ⟨rfl, by decide, by decide⟩ (fun w h Y => PySem.W.kIn_of Y) ?F (fun _ _ a ns hl hO hS => DL.end_sp DL.end_law hl hO hS) (fun _ _ _ _ _ h => h)
  case F =>
    intro w mg fa h KX G hmg
    refine' K1.all_mk KX G hmg ?A_is_int ?L_is_int ?C_is_int ?K_is_int ?A_within ?L_within ?C_within ?K_within ?A_is_row ?L_is_row ?C_is_row ?K_is_row ?A_is_letter ?L_is_letter ?C_is_letter ?K_is_letter ?A_is_rule ?L_is_rule ?C_is_rule ?K_is_rule ?A_is_straight ?L_is_straight ?C_is_straight ?K_is_straight ?A__law_cup ?L__law_cup ?C__law_cup ?K__law_cup ?A__law_sip ?L__law_sip ?C__law_sip ?K__law_sip ?A__law_same ?L__law_same ?C__law_same ?K__law_same ?A__law_is_whole ?L__law_is_whole ?C__law_is_whole ?K__law_is_whole ?A__law_bent ?L__law_bent ?C__law_bent ?K__law_bent ?A__law_text ?L__law_text ?C__law_text ?K__law_text ?A__law_is_straight ?L__law_is_straight ?C__law_is_straight ?K__law_is_straight ?A__law_near_one ?L__law_near_one ?C__law_near_one ?K__law_near_one ?A_law ?L_law ?C_law ?K_law ?G_MOST_LETTER ?G_MOST_RULES ?Z_abs ?Z_all ?Z_bool ?Z_enumerate ?Z_int ?Z_isinstance ?Z_len ?Z_list ?Z_max ?Z_range ?Z_str ?Z_tuple
    (case A_is_int => k_is)
    (case L_is_int => k_is)
    (case C_is_int => k_is)
    (case K_is_int => k_is)
    (case A_within => k_is)
    (case L_within => k_is)
    (case C_within => k_is)
    (case K_within => k_is)
    (case A_is_row => k_is)
    (case L_is_row => k_is)
    (case C_is_row => k_is)
    (case K_is_row => k_is)
    (case A_is_letter => k_is)
    (case L_is_letter => k_is)
    (case C_is_letter => k_is)
    (case K_is_letter => k_is)
    (case A_is_rule => k_is)
    (case L_is_rule => k_is)
    (case C_is_rule => k_is)
    (case K_is_rule => k_is)
    (case A_is_straight => k_is)
    (case L_is_straight => k_is)
    (case C_is_straight => k_is)
    (case K_is_straight => k_is)
    (case A__law_cup => k_is)
    (case L__law_cup => k_is)
    (case C__law_cup => k_is)
    (case K__law_cup => k_is)
    (case A__law_sip => k_is)
    (case L__law_sip => k_is)
    (case C__law_sip => k_is)
    (case K__law_sip => k_is)
    (case A__law_same => k_is)
    (case L__law_same => k_is)
    (case C__law_same => k_is)
    (case K__law_same => k_is)
    (case A__law_is_whole => k_is)
    (case L__law_is_whole => k_is)
    (case C__law_is_whole => k_is)
    (case K__law_is_whole => k_is)
    (case A__law_bent => k_is)
    (case L__law_bent => k_is)
    (case C__law_bent => k_is)
    (case K__law_bent => k_is)
    (case A__law_text => k_is)
    (case L__law_text => k_is)
    (case C__law_text => k_is)
    (case K__law_text => k_is)
    (case A__law_is_straight => k_is)
    (case L__law_is_straight => k_is)
    (case C__law_is_straight => k_is)
    (case K__law_is_straight => k_is)
    (case A__law_near_one => k_is)
    (case L__law_near_one => k_is)
    (case C__law_near_one => k_is)
    (case K__law_near_one => k_is)
    (case A_law => k_is)
    (case L_law => k_is)
    (case C_law => k_is)
    (case K_law => k_is)
    (case G_MOST_LETTER => k_is)
    (case G_MOST_RULES => k_is)
    (case Z_abs => k_is)
    (case Z_all => k_is)
    (case Z_bool => k_is)
    (case Z_enumerate => k_is)
    (case Z_int => k_is)
    (case Z_isinstance => k_is)
    (case Z_len => k_is)
    (case Z_list => k_is)
    (case Z_max => k_is)
    (case Z_range => k_is)
    (case Z_str => k_is)
    (case Z_tuple => k_is)

